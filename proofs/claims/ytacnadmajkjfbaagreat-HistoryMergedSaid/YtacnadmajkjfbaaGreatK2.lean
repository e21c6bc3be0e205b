/- A layer over the model in which values are trees: its laws and a typed interpreter, part 2. Texts of the folder wip, laid in few files with shorter names by a program (wip/tools/pack.py); nothing is assumed. -/
import Derived.Test.YtacnadmajkjfbaaGreatK1
import Derived.Laws.MakeOwn
import Derived.RangeFuncNested
import Derived.Lib.ConvBytes
import Derived.Laws.AppendOwn
import Derived.Lib.FrozenHead2
import Derived.Laws.IdiomRangeMap
set_option linter.unusedVariables false
set_option linter.unusedSimpArgs false
set_option linter.unusedSectionVars false
set_option linter.defProp false
namespace Go.Ab
section
variable {P:Program} {N:Nat} {o:Oper} {env:Env} {H:Aq} {K:AW->Aq->Prop}
def jL{c:Call}{f:Operand}{first i:List AW}{F:FuncId}
  (I:o.op= .call c) (u:c.callee= .value f) (R:A8 env f= .fn (.func F) first i) (M:Zu P F=true)
  (O:Eo P F (gZ env c first i) H K):Ii P N o env H K:=by
 apply Cu (by rw[I];rfl);intro X h a w s Q;have n:=DR s.env f;rw[R]at n
 obtain⟨b,g,C,t,B,p,r⟩: ∃b g,a.eval f= .func (.func F) b g∧b.size=first.length∧g.size=i.length∧
   (∀(j:Nat) (v:AW) (c:Value),first[j]? =some v->b[j]? =some c->Bh (cx X h H w) v c)/\(∀(j:Nat) (v:AW) (c:Value),i[j]? =some v->g[j]? =some c->Bh (cx X h H w) v c):=by
  generalize a.eval f=cf at n;cases n with
  |fn t B p r=>exact⟨_,_,rfl,t,B,p,r⟩
 have A:(execOp a.eval o).run P w= .ok (.enter F (b++c.args.map a.eval++g)) w:=by unfold execOp;rw[I];simp only[resolve,u,C,Deferred.ofValue,Sem.run_bind,Sem.run_pure,Result.andThen_ok,invoke,bf M]
 unfold Oper.wp;rw[A];simp only[Oper.upon_enter];have m: ∀(j:Nat) (v:AW) (d:Value),(gZ env c first i)[j]? =some v->(b++c.args.map a.eval++g)[j]? =some d->Bh (cx X h H w) v d:=by
  intro j v d l k;unfold gZ at l;rcases Ag j (first.length+c.args.size)with G|E
  ·rw[BW (by simp;omega)]at l;rw[VT (by simp;omega)]at k;rcases Ag j first.length with z|y
   ·rw[BW z]at l;rw[VT (by omega)]at k;exact p j v d l k
   ·rw[CG y,Bb]at l;rw[gP (by omega),VV,t]at k;cases D:c.args[j-first.length]? with
    |none=>rw[D]at k;cases k
    |some x=>rw[D]at k;rw[LL,D]at l;simp only[BB,AV]at l k;subst l k;exact DR s.env x
  ·rw[CG (by simp;omega)]at l;rw[gP (by simp;omega)]at k;refine r _ v d ?_ k;simpa[t]using l
 refine(O X h w _ s.sim ?_ m).mono ?_
 ·simp[gZ,t,B]
 ·rintro e U ⟨d,v,L,J,rfl,q,T,S,x⟩;exact⟨d,v,L,J,rfl,q,S,T,x⟩
def Qs(P:Program)(env:Env)(t:TypeId)(len:Nat)(parts:Array (Nat×Operand)):Option (Nat×List AW):=
 match eI P t with
 |some (none,e,sz)=>
  let vs:=parts.toList.map λp=>A8 env p.2
  if 0<sz/\QK P e=true/\parts.toList.map (·.1)=List.range len/\(vs.all λv=>v.solid&&decide (v.cells.length=sz))=true/\len<=4096/\sz<=4096 then some (sz,vs)else none
 |_=>none
def Sz{t:TypeId}{len sz:Nat}{a:Array (Nat×Operand)}{vs:List AW}(m:o.op= .buildSlice t len a)(b:Qs P env t len a=some (sz,vs))(l:K (.vs sz vs) H):Ii P N o env H K:=by
 unfold Qs at b;split at b
 ·rename_i e p k;simp only at b;split at b
  ·rename_i j;obtain⟨c,d,f,g,h,i⟩:=j;simp only[AV,Br]at b;obtain⟨rfl,rfl⟩:=b;refine Ii.buildSlice m k c d f rfl (λv n=>?_) ⟨h,i⟩ l;have:=DG.1 g v n;simpa using this
  ·cases b
 ·cases b
def ZF{t:TypeId}{len sz:Nat}{f:Array (Nat×Operand)}{U:List AW}(ho:o.op= .buildSlice t len f)(y:Qs P env t len f=some (sz,U))
  (hk:K (.sl H.length 0 sz 0 U.length) (H++[.live 0 (U.flatMap AW.cells)])):Ii P N o env H K:=by
 unfold Qs at y;split at y
 case h_2=>cases y
 rename_i e A he;simp only at y;split at y
 case isFalse=>cases y
 rename_i O;obtain⟨a7,a5,B,M,S⟩:=O;simp only[AV,Br]at y;obtain⟨rfl,ad⟩:=y;have as: ∀v∈U,v.solid=true/\v.cells.length=A:=λv L=>by rw[ad]at M;have:=DG.1 M v L;simpa using this
 apply Cu (by rw[ho];rfl);intro X h a w s Q;obtain⟨ax,b,hi⟩:=PM he;obtain⟨i,z,G,_,hz,a'⟩:=Rv a5;have C:=eR hi G;have hl:U.length=len:=by have k:=congrArg List.length B;have g:=congrArg List.length ad;simp at k g;omega
 let r:List Value:=f.toList.map λp=>a.eval p.2;have W:r.length=len:=by have k:=congrArg List.length B;simp at k;simp[r,k]
 have T: ∀(j:Nat) (v:AW) (c:Value),U[j]? =some v->r[j]? =some c->Bh (cx X h H w) (.agg v.cells) (.agg c.cells)/\v.cells.length=A:=by
  intro j v c L O;have hm:=as v (BV L);refine⟨?_,hm.2⟩;subst ad;simp only[r,Bb]at L O;cases y:f.toList[j]? with
  |none=>rw[y]at L;cases L
  |some p=>rw[y]at L O;simp only[BB,AV]at L O;subst L O;exact T5 (DR s.env p.2) hm.1
 have J: ∀c∈r,c.cells.size=A:=by
  intro c O;obtain⟨j,n⟩:=RQ O;have Z:j<U.length:=by
   rcases Ag j r.length with g|g
   ·omega
   ·rw[BP g]at n;cases n
  obtain⟨k,g⟩:=T j _ c (Ay Z) n;cases k with
  |agg hs _ _=>rw[hs,g]
 have a0:(f.map λ(q:Nat×Operand)=>(q.1,a.eval q.2)).toList=(r.zipIdx 0).map λx=>(x.2,x.1):=by
  apply M6;intro j;simp only[iT,Bb,List.getElem?_zipIdx,DE,r];cases y:f.toList[j]? with
  |none=>rfl
  |some p=>
   have k:(f.toList.map (·.1))[j]? =some p.1:=by rw[Bb,y];rfl
   rw[B]at k;have Z:j<len:=by
    rcases Ag j len with g|g
    ·exact g
    ·rw[BP (by simpa using g)]at k;cases k
   rw[M8 Z]at k;simp only[AV]at k;simp[k]
 have D: ∀l:List Value,(∀c∈l,c.cells.size=A)->(l.flatMap λc=>c.cells.toList).length=l.length*A:=by
  intro l;induction l with
  |nil=>simp
  |cons c l ih=>intro hl;simp only[Es,Ad,DF,hl c (by simp),ih (λd R=>hl d (Bq _ R)),BC,EJ];omega
 have Y:(r.flatMap λc=>c.cells.toList).length=len*A:=by rw[D r J,W]
 have I: ∃E:Array Value,(execOp a.eval o).run P w= .ok (.value (.slice (some ⟨w.heap.size,0,none⟩) len len)) {w with heap:=w.heap.push (.cells E e)}/\E.toList=r.flatMap λc=>c.cells.toList:=by
  unfold execOp;rw[ho];by_cases h0:len=0
  ·subst h0;have:r=[]:=EA W;refine⟨#[],?_,by rw[this];rfl⟩;have y:f= #[]:=by have k:=congrArg List.length B;simp at k;exact k
   simp[Instr.buildSlice,run_underlying ax,KJ hi,y,Instr.fill,newRow,show Array.range 0= #[]from rfl]
  ·refine⟨(r.flatMap λc=>c.cells.toList).toArray,?_,rfl⟩;have ap: ¬len*i.size=0:=by rw[C];exact Nat.mul_ne_zero h0 (by omega)
   have a6: ¬len*i.size>2^24:=by rw[C];have:=fa S.1 S.2;omega
   have hf:=Go.Great.fill_whole (s:=A) a7 r ((Array.range (len*i.size)).map (z.cells[· %z.cells.size]!)) J (by simp[W,C]);have:=run_buildSlice (P:=P) w t e len (f.map λ(q:Nat×Operand)=>(q.1,a.eval q.2)) _ i z ax G hz a6 ap (by rw[a0,C]at*;exact hf);simp only[Sem.run_bind];rw[show(f.map λx=>match x with|(i,x)=>(i,a.eval x))=(f.map λ(q:Nat×Operand)=>(q.1,a.eval q.2))from rfl,this];rfl
 obtain⟨E,I,al⟩:=I;unfold Oper.wp;rw[I,Oper.upon_value]
 have V: ∀(l:List AW) (m:List Value),m.length=l.length→(∀(j:Nat) (v:AW) (c:Value),l[j]? =some v→m[j]? =some c→Bh (cx X h H w) (.agg v.cells) (.agg c.cells))→
   Bh (cx X h H w) (.agg (l.flatMap AW.cells)) (.agg (m.flatMap λc=>c.cells.toList).toArray):=by
  intro l;induction l with
  |nil=>intro m hm _;have:m=[]:=EA (by simpa using hm);subst this;exact .agg rfl (λj c n=>by simp at n) λj v c n=>by simp at n
  |cons v l ih=>
   intro m hm hr;cases m with
   |nil=>simp at hm
   |cons c m=>
    have r0:=hr 0 v c rfl rfl;have r1:=ih m (by simpa using hm) λj v' c' k g=>hr (j+1) v' c' (by simpa using k) (by simpa using g);cases r0 with
    |agg ar a2 a8=>
     cases r1 with
     |agg a4 a3 a9=>
      have e2:(m.flatMap λc=>c.cells.toList).length=(l.flatMap AW.cells).length:=by simpa using a4
      refine .agg (by simp[e2,ar]) (λj d n=>?_) λj u d n R=>?_
      ·simp only[Es,fQ]at n;rcases Ag j c.cells.size with g|g
       ·rw[BW (by simpa using g)]at n;exact a2 j d (by simpa using n)
       ·rw[CG (by simpa using g)]at n;exact a3 _ d (by simpa using n)
      ·simp only[Es,fQ]at n R;rcases Ag j c.cells.size with g|g
       ·rw[BW (by simpa using g)]at R;rw[BW (by omega)]at n;exact a8 j u d n (by simpa using R)
       ·rw[CG (by simpa using g)]at R;rw[CG (by omega)]at n;rw[DF,ar]at R;exact a9 _ u d n (by simpa using R)
 have a1:=V U r (by omega) λj v c k g=>(T j v c k g).1;have F:E=(r.flatMap λc=>c.cells.toList).toArray:=by rw[<-al]
 have hh:=Oy a1;rw[<-F]at hh;refine⟨_,_,_,_,rfl,hk,?_,s.sim.push E e (0,0) _ hh,HS.push _ _ _⟩;refine .sl (by simp[cx]) (by simp[cx,Gh.at_]) ⟨_,_,by rw[hl]⟩ λ_=>.inr ⟨w.heap.size,len,by simp[cx,Gh.at_],by omega,?_,by rw[hl]⟩;simp only[cx,Gh.at_,if_true,F,TJ,Y];omega
def ec{t e:TypeId}{x y:Operand}{kl kc:IntKind}{l c:Int}{sz:Nat}{z:List AW}(ho:o.op= .makeSlice t x y)(he:eI P t=some (none,e,sz))(Z:0<sz)(Y:QK P e=true)(hz:WA P e=some z)(L:z.length=sz)
  (hx:A8 env x= .int kl l) (hy:A8 env y= .int kc c) (h0:0<=l) (h1:l<=c) (h2:c<=16777216) (hk:K (.sl H.length 0 sz 0 l.toNat) (H++[.live 0 (List.replicate l.toNat z).flatten])):Ii P N o env H K:=by
 apply Cu (by rw[ho];rfl);intro X h a w s Q;obtain⟨ad,b,hi⟩:=PM he;obtain⟨i,zv,g,ap,M,al⟩:=Rv Y;have k:=eR hi g;obtain⟨p,d,E,J,G⟩:=Zt (cx X h H w) hz;have:p=i:=by rw[g]at E;exact(C2 E).symm
 subst this;have:d=zv:=by rw[M]at J;exact(C2 J).symm
 subst this;have rx:=DR s.env x;have ry:=DR s.env y;rw[hx]at rx;rw[hy]at ry;have ex:a.eval x= .int kl l:=by generalize a.eval x=q at rx;cases rx;rfl
 have ey:a.eval y= .int kc c:=by generalize a.eval y=q at ry;cases ry;rfl
 have R:(p.bytes:Int)*c<=281474976710656:=by have:(p.bytes:Int)*c<=1048576*16777216:=Int.mul_le_mul (by omega) h2 (by omega) (by omega);omega
 have I:=run_make (P:=P) w t e p d ad g M kl kc l c h0 h1 R (by omega);have S:(execOp a.eval o).run P w= .ok (.value (.slice (some ⟨w.heap.size,0,none⟩) l.toNat c.toNat)) (w.alloc (.cells (madeCells d.cells (c.toNat*p.size)) e)):=by unfold execOp;rw[ho];simp only[ex,ey,Sem.run_bind,I,Result.andThen_ok,Sem.run_pure]
 unfold Oper.wp;rw[S,Oper.upon_value];have n:d.cells.size=sz:=by rw[al,k]
 have hh:cj (cx X h H w) (List.replicate l.toNat z).flatten (madeCells d.cells (c.toNat*p.size)) (0,0):=by
  have C:(List.replicate l.toNat z).flatten.length=l.toNat*sz:=by simp[L]
  have B:l.toNat*sz<=c.toNat*p.size:=by rw[k];exact PJ _ (by omega)
  have D: ∀(m j:Nat),j<m*sz->(List.replicate m z).flatten[j]? =z[j%sz]? :=by
   intro m;induction m with
   |zero=>intro j r;omega
   |succ m ih=>
    intro j r;rw[TH,TQ];rcases Ag j sz with V|U
    ·rw[BW (by omega),PI V]
    ·rw[CG (by omega),L,ih (j-sz) (by rw[EJ]at r;omega),<-Nat.mod_eq_sub_mod U]
  refine⟨λj=>d.cells.getD (j%sz) undef,by rw[C,size_madeCells];exact B,λ_ _=>by simp,λj v r=>?_⟩;have F:j<l.toNat*sz:=by
   rcases Ag j (l.toNat*sz)with O|O
   ·exact O
   ·rw[BP (by rw[C];exact O)]at r;cases r
  rw[D _ _ F]at r;have A:j%sz<d.cells.size:=by rw[n];exact VL _ Z
  have f:d.cells[j%sz]? =some (d.cells[j%sz]'A):=H9 A;have T:d.cells.getD (j%sz) undef=d.cells[j%sz]'A:=by rw[JK,f];rfl
  have u:(madeCells d.cells (c.toNat*p.size))[j]? =some (d.cells[j%sz]'A):=by
   unfold madeCells;rw[VV,Array.getElem?_range,if_pos (DD F B)];have W:j%d.cells.size<d.cells.size:=by rw[n];rw[n]at A;exact A
   rw[BB,getElem!_pos d.cells _ W];simp only[n]
  simp only[T];cases G with
  |agg q1 q2 q3=>exact⟨u,q2 _ _ f,q3 _ _ _ r f⟩
 refine⟨_,_,_,_,rfl,hk,?_,s.sim.push _ e (0,0) _ hh,HS.push _ _ _⟩;refine .sl (by simp[cx]) (by simp[cx,Gh.at_]) ⟨_,_,rfl⟩ λ_=>.inr ⟨w.heap.size,c.toNat,by simp[cx,Gh.at_],by omega,?_,rfl⟩;simp[cx,Gh.at_,size_madeCells,k]
end
section
variable {X:Nat->Prop} {h:Gh} {H:Aq} {w:World}
def Ik.loopSet(s:Ik X h H w){g B:Nat}{L:fB}{r:Loop}(j:H[g]? =some (.lp L))(f:h.io g=some B)(E:w.heap[B]? =some (.loop r))(o:LoopState)(p:Option Code):
  Ik X h (H.set g (.lp {L with state:=o,pending:=p})) (w.putObj B (.loop {r with state:=o,pending:=p}))/\HS h H w h (H.set g (.lp {L with state:=o,pending:=p})) (w.putObj B (.loop {r with state:=o,pending:=p})):=by
 have d:g<H.length:=by
  rcases Ag g H.length with c|c
  ·exact c
  ·rw[BP c]at j;cases j
 have F:HS h H w h (H.set g (.lp {L with state:=o,pending:=p})) (w.putObj B (.loop {r with state:=o,pending:=p})):=by
  refine⟨rfl,rfl,rfl,by simp,λk O hn=>?_,by simp,λ_ _=>Aj _,λ_ _ _=>⟨rfl,rfl⟩,λk P=>?_,λk y Q=>?_⟩
  ·refine World.putObj_heap_other λe=>?_;subst e;exact hn ⟨g,_,j,by simp,f⟩
  ·obtain⟨i,e,n,l,c⟩:=P;rcases Ih d n with⟨J,b⟩|⟨rfl,_⟩
   ·exact .inl ⟨i,e,b,l,c⟩
   ·exact .inl ⟨i,_,j,by simp,c⟩
  ·by_cases e:k=B
   ·subst e;exact⟨_,World.putObj_heap_same (bU E)⟩
   ·exact⟨y,by rw[World.putObj_heap_other e,Q]⟩
 refine⟨s.of_ext F (λi e n l=>?_) (λi R C D k n c z A q u=>?_),F⟩
 ·rcases Ih d n with⟨J,b⟩|⟨rfl,rfl⟩
  ·refine .inl ⟨b,rfl,rfl,rfl,λG a=>World.putObj_heap_other λe=>?_⟩;subst e;exact J (s.inj i g _ _ G b j l (by simp) a f)
  ·obtain⟨N,G,U,a,x,n,c,q,u,K,M,I⟩:=s.lp i L j;rw[show(cx X h H w).io i=h.io i from rfl,f]at a;injection a with e;subst e;rw[show(cx X h H w).w.heap=w.heap from rfl,E]at x;injection x with e;injection e with e;subst e;refine .inr (.inr ⟨_,rfl,N,B,_,f,World.putObj_heap_same (bU E),rfl,rfl,q,u,K,M,λt v m=>⟨(I t v m).1,(I t v m).2.later (F.later X)⟩⟩)
 ·rcases Ih d n with⟨S,C⟩|⟨rfl,_⟩<;>rcases Ih d c with⟨T,D⟩|⟨rfl,_⟩
  ·exact s.inj _ _ _ _ k C D z A q u
  ·exact s.inj _ _ _ _ k C j z (by simp) q u
  ·exact s.inj _ _ _ _ k j D (by simp) A q u
  ·rfl
def Ik.kill(s:Ik X h H w){j:Nat}(a:j<H.length):Ik X h (H.set j .dead) w/\HS h H w h (H.set j .dead) w:=by
 have o:HS h H w h (H.set j .dead) w:=by
  refine⟨rfl,rfl,rfl,Aj _,λk t hn=>rfl,by simp,λ_ _=>Aj _,λ_ _ _=>⟨rfl,rfl⟩,λk u=>?_,λk y v=>⟨y,v⟩⟩;obtain⟨i,e,d,b,l⟩:=u;rcases Ih a d with⟨r,c⟩|⟨rfl,rfl⟩
  ·exact .inl ⟨i,e,c,b,l⟩
  ·exact(b rfl).elim
 refine⟨s.of_ext o (λi e d b=>?_) (λi z m n k d l f g p q=>?_),o⟩
 ·rcases Ih a d with⟨r,c⟩|⟨rfl,rfl⟩
  ·exact .inl ⟨c,rfl,rfl,rfl,λx _=>rfl⟩
  ·exact(b rfl).elim
 ·rcases Ih a d with⟨A,m⟩|⟨rfl,rfl⟩
  ·rcases Ih a l with⟨B,n⟩|⟨rfl,rfl⟩
   ·exact s.inj _ _ _ _ k m n f g p q
   ·exact(g rfl).elim
  ·exact(f rfl).elim
end
def Oi:Env->List Tmp->List AW->Env
 |env,t::ts,v::vs=>Oi (env.put t v) ts vs
 |env,_,_=>env
def fN{x:Cx}: ∀(d:List Tmp) (e:List AW) (b:List Value) (env:Env) (a:Act),(∀t∈d,t<a.tmps.size)→b.length=e.length→
  (∀(j:Nat) (v:AW) (c:Value),e[j]? =some v->b[j]? =some c->Bh x v c)->M4 x env a->
  M4 x (Oi env d e) {a with tmps:=(d.zip b).foldl (λ(tmps:Array Value) (q:Tmp×Value)=>tmps.setIfInBounds q.1 q.2) a.tmps}
 |[],e,b,env,a,_,_,_,h=>by simpa[Oi]using h
 |t::d,[],b,env,a,_,hl,_,h=>by have:b=[]:=EA (by simpa using hl);subst this;simpa[Oi]using h
 |t::d,v::e,[],env,a,_,hl,_,h=>by simp at hl
 |t::d,v::e,c::b,env,a,ht,hl,hr,h=>by
  simp only[Oi,Q5,TR];have f:M4 x (env.put t v) (a.put (some t) c):=h.put (ht t (by simp)) (hr 0 v c rfl rfl);exact fN d e b (env.put t v) (a.put (some t) c) (λu k=>by rw[Zq];exact ht u (Bq _ k)) (by simpa using hl)
   (λj l g f i=>hr (j+1) l g (by simpa using f) (by simpa using i)) f
def dO: ∀(l:List (Tmp×Value)) (a:Array Value),(l.foldl (λ(tmps:Array Value) (q:Tmp×Value)=>tmps.setIfInBounds q.1 q.2) a).size=a.size
 |[],a=>rfl
 |q::l,a=>by rw[TR,dO l];simp
def xS(id:Nat)(K:AW->Aq->Prop):Exit->Env->Aq->Prop
 | .normal,_,H=> ∃L,H[id]? =some (.lp L)/\K (.bool true) (H.set id (.lp {L with state:=.ready,pending:=none}))
 | .ret,_,H=> ∃L,H[id]? =some (.lp L)/\K (.bool false) (H.set id (.lp {L with state:=.done,pending:=some .ret}))
 | .exit k,_,H=> ∃L,H[id]? =some (.lp L)/\K (.bool false) (H.set id (.lp {L with state:=.done,pending:=some (.exit k)}))
 |_,_,_=>False
section
variable {P:Program} {N:Nat} {o:Oper} {env:Env} {H:Aq} {K:AW->Aq->Prop}
def Ii.yield{c:Call}{f:Operand}{g:Nat}{L:fB}(ho:o.op= .call c)(V:c.callee= .value f)(hf:A8 env f= .yf g)(he:H[g]? =some (.lp L))
  (hn:c.args.size=L.params.size) (a0:(L.params.toList.all λt=>decide (t<L.n))=true)
  (hw:MA P L.n L.assign (Oi L.env L.params.toList (c.args.toList.map (A8 env))) H λe env1 H1=>e= .normal/\ ∃D,H1[g]? =some (.lp D)/\D.state= .ready/\MA P L.n L.body env1 (H1.set g (.lp {D with state:=.busy})) (xS g K)):Ii P N o env H K:=by
 intro ro X h a w s Q;obtain⟨hg,B,r,C,hb,h1,h2,h3,h4,h5,h6,h7⟩:=s.sim.lp g L he;have C:h.io g=some B:=C;have hb:w.heap[B]? =some (.loop r):=hb;have J:=DR s.env f;rw[hf]at J;have as:a.eval f= .func (.yield B) #[] #[]:=by
  generalize a.eval f=cf at J;cases J with
  |yf I h1 hc=>obtain⟨B',U,rfl⟩:=hc hg;rw[show(cx X h H w).io g=h.io g from rfl,C]at U;injection U with e;rw[e]
 have al:(execOp a.eval o).run P w= .ok (.round B r.fn ((r.params.zip (c.args.map a.eval)).foldl (λtmps (t,a)=>tmps.setIfInBounds t a) r.tmps) r.assign r.body) w:=by unfold execOp;rw[ho];simp only[resolve,V,as,Deferred.ofValue,Sem.run_bind,Sem.run_pure,Result.andThen_ok,invoke];rw[show(#[]++c.args.map a.eval:Array Value)=c.args.map a.eval by simp];exact run_yield hb (by rw[iS,hn,h3])
 refine⟨λ_ _=>trivial,?_⟩;rw[Oper.semAt_eq _ _ _ (λc hc=>by rw[ho]at hc;cases hc),al,Oper.uponIn_round];refine⟨(λh=>by cases h),?_⟩;let R:Ending->World->Prop:=λe M=> ∃c v z S,e= .returned c/\K v S/\Bh (cx X z S M) v c/\Ik X z S M/\HS h H w z S M;refine RoundIn.mono (R:=R) ?_ (by rintro e M ⟨c',v,z,S,rfl,k,hv,hs,hx⟩;exact⟨c',v,z,S,rfl,k,hv,hs,hx⟩);apply roundIn_of_wpIn trivial;have a7:((r.params.zip (c.args.map a.eval)).foldl (λtmps (t,a)=>tmps.setIfInBounds t a) r.tmps)=((L.params.toList.zip (c.args.toList.map a.eval)).foldl (λ(tmps:Array Value) (q:Tmp×Value)=>tmps.setIfInBounds q.1 q.2) r.tmps):=by rw[h3,<-Array.foldl_toList,Array.toList_zip,iT]
 rw[a7,h4,h5];have ap:St X h L.n (Oi L.env L.params.toList (c.args.toList.map (A8 env))) H {tmps:=(L.params.toList.zip (c.args.toList.map a.eval)).foldl (λ(tmps:Array Value) (q:Tmp×Value)=>tmps.setIfInBounds q.1 q.2) r.tmps,defers:=[]} w:=by
  refine⟨s.sim,?_,by rw[dO,h6]⟩;refine fN (x:=cx X h H w) L.params.toList (c.args.toList.map (A8 env)) (c.args.toList.map a.eval) L.env {tmps:=r.tmps,defers:=[]} (λt ht=>?_) (by simp) (λj v d T hd=>?_) (λt v m=>⟨by rw[h6];exact(h7 t v m).1,(h7 t v m).2⟩)
  ·rw[h6];simpa using List.all_eq_true.1 a0 t ht
  ·rw[Bb]at T hd;cases hx:c.args.toList[j]? with
   |none=>rw[hx]at T;cases T
   |some x=>rw[hx]at T hd;simp only[BB,AV]at T hd;subst T hd;exact DR s.env x
 refine wpIn_mono (hw (some B) X h _ w ap λl e=>by injection e with e;subst e;exact⟨r,hb⟩) ?_;rintro e a1 w1 ⟨z,env1,H1,⟨rfl,D,W,a6,G⟩,s1,x1,_⟩;obtain⟨Z,O,r1,i,u,q1,q2,q3,q4,q5,q6,q7⟩:=s1.sim.lp g D W;have i:z.io g=some O:=i;have u:w1.heap[O]? =some (.loop r1):=u;have I:g<H.length:=by
  rcases Ag g H.length with h2|h2
  ·exact h2
  ·rw[BP h2]at he;cases he
 have eB:O=B:=by have:=(x1.same g I (by rw[show z.gen g=0 from Z,show h.gen g=0 from hg])).1;rw[i,C]at this;injection this
 subst eB;obtain⟨a4,ar⟩:=s1.sim.loopSet W i u .busy D.pending;have a3:({r1 with state:=.busy}:Loop)={r1 with state:=.busy,pending:=D.pending}:=by rw[<-q2]
 refine⟨_,run_beginRound u (by rw[q1,a6]),?_⟩;rw[a3];refine wpIn_mono (G (some O) X z a1 _ ⟨a4,s1.env.later (ar.later X),s1.size⟩ λl e=>by injection e with e;subst e;exact⟨_,World.putObj_heap_same (bU u)⟩) ?_;rintro e a2 w2 ⟨F,env2,H2,q,s2,x2,_⟩
 have E: ∀(b:Option Code) (y:fB),H2[g]? =some (.lp y)→K (.bool b.isNone) (H2.set g (.lp {y with state:=if b.isNone then .ready else .done,pending:=b}))→
   ∃v M,(Instr.endRound O b).run P w2= .ok v M/\R (.returned v) M:=by
  intro b y Y hk;obtain⟨ax,B2,r2,p,A,p1,p2,p3,p4,p5,p6,p7⟩:=s2.sim.lp g y Y;have p:F.io g=some B2:=p;have A:w2.heap[B2]? =some (.loop r2):=A;have ad:g<H1.length:=DD I x1.n;have eB:B2=O:=by have:=(x2.same g (by simpa using ad) (by rw[show F.gen g=0 from ax,show z.gen g=0 from Z])).1;rw[p,i]at this;injection this
  subst eB;obtain⟨a5,a8⟩:=s2.sim.loopSet Y p A (if b.isNone then .ready else .done) b;exact⟨_,_,run_endRound b A,_,_,F,_,rfl,hk,.bool _,a5,((x1.trans ar).trans x2).trans a8⟩
 cases e with
 |normal=>obtain⟨y,q1,q2⟩:=q;exact E none y q1 q2
 |ret=>obtain⟨y,q1,q2⟩:=q;exact E (some .ret) y q1 q2
 |exit k=>obtain⟨y,q1,q2⟩:=q;exact E (some (.exit k)) y q1 q2
 |_=>exact q.elim
end
section
variable {P:Program} {N:Nat} {env:Env} {H:Aq} {Q:Exit->Env->Aq->Prop}
def xL(P:Program)(N:Nat)(env:Env)(id:Nat)(Q:Exit->Env->Aq->Prop)(H:Aq):Prop:=
 ∃L,H[id]? =some (.lp L)/\L.state≠ .busy/\(match L.pending with
  |none=>Q .normal env (H.set id .dead)
  |some c=>MA P N c env (H.set id .dead) Q)
def rX{r:Option Nat}{n:Nat}{f:FuncId}{args:Array Value}{w:World}{R:Ending->World->Prop}(h:Calls P f args w R):CallsIn (FR r) n P f args w R:=by
 have a:CallsIn Fence.wide n P f args w R:=callsIn_wide.2 h;cases r with
 |none=>exact a
 |some l=>exact a
def eZ{f:Operand}{A:Array Tmp}{assign body:Code}{first u:List AW}{G:FuncId}(env0:Env)(ax: ∀p∈env0,p∈env)(hf:A8 env f= .fn (.func G) first u)(hE:Zu P G=true)
  (Y:Eo P G (first++[.yf H.length]++u) (H++[.lp ⟨N,env0,A,assign,body,.ready,none⟩]) λ_ F=>xL P N env H.length Q F):MA P N (.rangeFunc f A assign body) env H Q:=by
 intro r X h a w s k;have ad:=DR s.env f;rw[hf]at ad
 obtain⟨b,g,a0,n1,n2,al,ap⟩: ∃b g,a.eval f= .func (.func G) b g∧b.size=first.length∧g.size=u.length∧
   (∀(j:Nat) (v:AW) (c:Value),first[j]? =some v->b[j]? =some c->Bh (cx X h H w) v c)/\(∀(j:Nat) (v:AW) (c:Value),u[j]? =some v->g[j]? =some c->Bh (cx X h H w) v c):=by
  generalize a.eval f=cf at ad;cases ad with
  |fn h1 h2 al ap=>exact⟨_,_,rfl,h1,h2,al,ap⟩
 have O: ∀(i:World) (y:Loop) (o:List Deferred),Ik X h H i→HS h H w h H i→y.state= .ready→y.pending=none→y.tmps=a.tmps→y.params=A→y.assign=assign→y.body=body→o.Nodup→
   (∀d∈o,∃D,d={target:=.collected D,args:= #[]}/\w.heap.size<=D/\i.heap[D]? =some (.deferred (some [])))->
   CallsIn (FR r) (0-1) P G (b++ #[.func (.yield i.heap.size) #[] #[]]++g) (i.alloc (.loop y))
    (rangePost (FR r) 0 P i.heap.size (λe a' w'=> ∃J I F,Q e I F/\St X J N I F a' w'/\HS h H w J F w'/\XB a w a' w') {a with defers:=o++a.defers}):=by
  intro i y o s0 E e1 e2 e3 e4 e5 e6 a2 Z;have xp:=HS.push (h:=h) (H:=H) (w:=i) (.loop y) 0 (.lp ⟨N,env0,A,assign,body,.ready,none⟩);have sp:=s0.push_any (.loop y) 0 (.lp ⟨N,env0,A,assign,body,.ready,none⟩) λ_=>.inr ⟨_,rfl,by simp[cx,Gh.at_],i.heap.size,y,by simp[cx,Gh.at_],by show(i.heap.push (.loop y))[i.heap.size]? =_;simp,e1,e2,e4,e5,e6,by rw[e3];exact s.size,λt v m=>by obtain⟨m1,m2⟩:=s.env t v (ax _ m);refine⟨by rw[<-s.size];exact m1,?_⟩;rw[e3];exact m2.later ((E.trans xp).later X)⟩;have ea:i.alloc (.loop y)={i with heap:=i.heap.push (.loop y)}:=rfl;rw[ea];generalize a7:({i with heap:=i.heap.push (.loop y)}:World)=W1 at xp sp;generalize a1:h.at_ H.length (some i.heap.size) 0 0=g1 at xp sp;have T:g1.gen H.length=0/\g1.io H.length=some i.heap.size:=by rw[<-a1];simp[Gh.at_]
  have hl:=(E.trans xp).later X;have a3:(b++ #[Value.func (.yield i.heap.size) #[] #[]]++g).size=(first++[AW.yf H.length]++u).length:=by simp[n1,n2];omega
  have U: ∀(j:Nat) (v:AW) (c:Value),(first++[AW.yf H.length]++u)[j]? =some v->(b++ #[Value.func (.yield i.heap.size) #[] #[]]++g)[j]? =some c->Bh (cx X g1 (H++[.lp ⟨N,env0,A,assign,body,.ready,none⟩]) W1) v c:=by
   intro j v c K z;rcases Ag j (first.length+1)with a6|a4
   ·rw[BW (by simp;omega)]at K;rw[VT (by simp;omega)]at z;rcases Ag j first.length with as|a5
    ·rw[BW as]at K;rw[VT (by omega)]at z;exact(al j v c K z).later hl
    ·have:j=first.length:=by omega
     subst this;rw[CG (Aj _),G6]at K;rw[gP (by omega),n1,G6]at z;simp at K z;subst K z;exact .yf (by simp[cx]) rfl λ_=>⟨i.heap.size,T.2,rfl⟩
   ·rw[CG (by simp;omega)]at K;rw[gP (by simp;omega)]at z;refine(ap _ v c ?_ z).later hl;simpa[n1]using K
  have hC:=Y X g1 W1 _ sp a3 U;apply (rX hC).mono
  ·rintro e w' ⟨c,v,J,F,rfl,⟨L,hL,V,hQ⟩,sc,rv,x⟩;obtain⟨hg,B,R,C,hb,q1,q2,q3,q4,q5,q6,q7⟩:=sc.lp H.length L hL;have C:J.io H.length=some B:=C;have hb:w'.heap[B]? =some (.loop R):=hb;have eB:B=i.heap.size:=by have:=(x.same H.length (by simp) (by rw[show J.gen H.length=0 from hg,T.1])).1;rw[C,T.2]at this;injection this
   subst eB;obtain⟨s2,x2⟩:=sc.loopSet hL C hb .exhausted R.pending;have ar:H.length<(F.set H.length (.lp {L with state:=.exhausted,pending:=R.pending})).length:=by have:=x.n;simp at this⊢;omega
   obtain⟨s3,x3⟩:=s2.kill ar;rw[Zz]at s3 x3;have S:=((xp.trans x).trans x2).trans x3;have st:St X J N env (F.set H.length .dead) {a with defers:=o++a.defers} (w'.putObj i.heap.size (.loop {R with state:=.exhausted,pending:=R.pending})):=⟨s3,λt v m=>⟨(s.env t v m).1,(s.env t v m).2.later ((E.trans S).later X)⟩,s.size⟩
   have df:XB a w {a with defers:=o++a.defers} (w'.putObj i.heap.size (.loop {R with state:=.exhausted,pending:=R.pending})):=by refine⟨o,rfl,a2,λd hd=>?_⟩;obtain⟨D,h1,h2,h3⟩:=Z d hd;exact⟨D,h1,h2,S.defs s0 h3⟩
   refine⟨R.pending,_,run_endLoop hb (by rw[q1];exact V),?_⟩;rw[q2]at*;cases hp:L.pending with
   |none=>rw[hp]at hQ st df S;exact⟨J,env,_,hQ,st,E.trans S,df⟩
   |some cd=>rw[hp]at hQ st df S s3;apply wpIn_mono (hQ r X J _ _ st (k.later (E.trans S)));rintro e' a' a8 ⟨h2,env2,H2,q,s',x',d'⟩;exact⟨h2,env2,H2,q,s',(E.trans S).trans x',df.trans s3 (E.trans S) x' d'⟩
 have M: ∀(l:Nat) (W:World),(resolve a.eval (rangeCall f l) 0).run P W= .ok {target:=.fn (.func G) g,args:=b++ #[.func (.yield l) #[] #[]]} W:=by intro l W;have z:a.eval (.const (.func (.yield l) #[] #[]))= .func (.yield l) #[] #[]:=rfl;simp[resolve,a0,z,Deferred.ofValue]
 refine wpIn_rangeFunc λfn _=>?_;cases r with
 |none=>
  have E:HS h H w h H (w.alloc (.deferred (some []))):=HS.grow rfl rfl rfl (by show _<=(w.heap.push _).size;simp) λk hk=>by show(w.heap.push _)[k]? =_;rw[LK,if_neg (by omega)]
  have s0:Ik X h H (w.alloc (.deferred (some []))):=s.sim.grow rfl rfl rfl (by show _<=(w.heap.push _).size;simp) λk hk=>by show(w.heap.push _)[k]? =_;rw[LK,if_neg (by omega)]
  have hm:=O (w.alloc (.deferred (some []))) {state:=.ready,pending:=none,fn,tmps:=a.tmps,params:=A,assign,body,defers:=w.heap.size} [{target:=.collected w.heap.size,args:= #[]}] s0 E rfl rfl rfl rfl rfl rfl (by simp) λd hd=>by simp only[A5]at hd;exact⟨w.heap.size,hd,Aj _,World.alloc_heap_new w _⟩
  rw[World.size_alloc]at hm;exact⟨_,_,_,_,_,_,_,_,run_enterLoop_outer fn a.tmps A assign body,M _ _,λ_ _=>trivial,by simp only[invoke];exact bf hE _ _,(λh=>by cases h),hm⟩
 |some l=>
  obtain⟨x,hx⟩:=k l rfl;have hm:=O w {state:=.ready,pending:=none,fn,tmps:=a.tmps,params:=A,assign,body,defers:=x.defers} [] s.sim (HS.refl _ _ _) rfl rfl rfl rfl rfl rfl (by simp) λd hd=>by cases hd
  exact⟨_,_,_,_,_,_,_,_,run_enterLoop_inner hx fn a.tmps A assign body,M _ _,λ_ _=>trivial,by simp only[invoke];exact bf hE _ _,(λh=>by cases h),hm⟩
end
def isQ:Op->Bool
 | .move _| .assign _| .pick .. | .load .. | .nilCheck _| .binOp .. | .unOp .. | .convert .. | .fieldAddr .. | .field .. | .indexAddr .. | .index .. | .slice .. | .extract .. | .makeFunc .. | .build .. =>true
 | .call c=>match c.callee with| .builtin .len=>true| .builtin .max=>true| .builtin .min=>true|_=>false
 |_=>false
abbrev ABA:=FuncId->List AW->Aq->Option (AW×Aq)
abbrev ABB:=Nat->Code->Env->Aq->Option (Exit×Env×Aq)
def oZ(P:Program)(env:Env)(H:Aq)(op:Op):Option AW:=
 match op with
 | .buildSlice t len parts=>match Qs P env t len parts with|some (sz,vs)=>some (.vs sz vs)|none=>none
 |op=>CR P env H op
def dq(op:Op):Bool:=match op with| .buildSlice .. =>true|op=>isQ op
def pG(ops:Array Oper)(m:List Nat):Nat->List Nat->List Nat
 |0,_=>[]
 |n+1,left=>
  let rdy:=left.filter λi=>left.all λp=>p==i|| !OQ m p i
  let qs:=rdy.filter λi=>match ops[i]? with|some o=>dq o.op|none=>false
  let last:=λi=>left.all λj=>j==i||OQ m i j||Hl ops j
  let es:=rdy.filter λi=>!Hl ops i&&last i
  let as:=rdy.filter λi=>Hl ops i&&last i
  match qs,es,as with
  |i::_,_,_=>i::pG ops m n (left.erase i)
  |[],i::_,_=>i::pG ops m n (left.erase i)
  |[],[],i::_=>i::pG ops m n (left.erase i)
  |[],[],[]=>[]
def sU(ops:Array Oper):List Nat:=pG ops (Hu ops.toList []) ops.size (List.range ops.size)
section
variable {P:Program} {call:ABA} {code:ABB} {H H':Aq} {v:AW} {F:List Nat}
def dN{N:Nat}{o:Oper}{env:Env}(c:oZ P env H o.op=some v):fD P N o env H (vC env o.op) v:=by
 unfold oZ at c;split at c
 ·rename_i t len a f;split at c
  ·rename_i sz g d;injection c with e;subst e;intro b h j k;refine Sz f (sz:=sz) (vs:=g) ?_ ⟨rfl,rfl⟩;rw[<-d];have i: ∀x∈o.op.operands,A8 b x=A8 env x:=ag j;unfold Qs;have:(a.toList.map λp=>A8 b p.2)=a.toList.map λp=>A8 env p.2:=Fe λp d=>by apply i p.2;rw[f];simp only[Op.operands,List.mem_toArray,BX];exact⟨p,d,rfl⟩
   rw[this]
  ·cases c
 ·exact UX c
end
def jW(F:Fence)(n0:Nat)(P:Program)(c:Code)(K:Exit->Act->World->Prop)(a:Act)(w:World):Prop:=
 ∀(b:Frame) (k:List Item) (cs:List Frame),b.roundOf=F.round->F.fn b.fn->F.room (cs.length+1+n0)->
  ∃e a' w',K e a' w'/\ArrivesIn (Machine.fenced P F) P (lone (b.atR a (.code c:: .inLoop c::k)) cs w) b k cs e a' w'
section
variable {P:Program} {F:Fence} {n0:Nat} {c:Code} {K:Exit->Act->World->Prop} {a:Act} {w:World}
def qY(h:jW F n0 P c K a w):(Code.loop c).wpIn F n0 P K a w:=by intro b k j f g hr;obtain⟨e,i,m,l,d⟩:=h b k j f g hr;exact⟨e,i,m,l,.of_steps (.one (fenced_calm g hr rfl) stepR_loop) d⟩
def nC(h:c.wpIn F n0 P (Exit.then (λt u=>jW F n0 P c K t u) K) a w):jW F n0 P c K a w:=by
 intro b k s p r hr;obtain⟨e,f,g,m,d⟩:=h b (.inLoop c::k) s p r hr;cases e with
 |normal=>obtain⟨o,n,q,j,i⟩:=m b k s p r hr;exact⟨o,n,q,j,.of_steps (StepsIn.trans d (.one (fenced_calm r hr rfl) stepR_inLoop)) i⟩
 |exit y=>exact⟨_,f,g,m,.pass (x:=.inLoop c) rfl (λ_ _=>.inl (by simp)) d⟩
 |goto l=>exact⟨_,f,g,m,.pass (x:=.inLoop c) rfl (λ_ _=>.inl (by simp)) d⟩
 |ret=>exact⟨_,f,g,m,.pass (x:=.inLoop c) rfl (λ_ _=>.inl (by simp)) d⟩
 |panic v=>exact⟨_,f,g,m,.pass (x:=.inLoop c) rfl (λ_ _=>.inl (by simp)) d⟩
 |outgrown=>exact⟨_,f,g,m,.pass (x:=.inLoop c) rfl (λ_ _=>.inl (by simp)) d⟩
def W6{g:Exit->Act->World->Prop}(h:jW F n0 P c K a w)(m: ∀e a w,K e a w->g e a w):jW F n0 P c g a w:=by intro b k j f l hr;obtain⟨e,i,o,n,d⟩:=h b k j f l hr;exact⟨e,i,o,m _ _ _ n,d⟩
end
def MC(P:Program)(N:Nat)(c:Code)(env:Env)(H:Aq)(Q:Exit->Env->Aq->Prop):Prop:=
 ∀(r:Option Nat) (X:Nat->Prop) (h:Gh) (a:Act) (w:World),St X h N env H a w->gN r w->
  jW (FR r) 0 P c (λe a' w'=> ∃h' env' H',Q e env' H'/\St X h' N env' H' a' w'/\HS h H w h' H' w'/\XB a w a' w') a w
section
variable {P:Program} {N:Nat} {env:Env} {H:Aq} {Q:Exit->Env->Aq->Prop}
def MC.mono{c:Code}{i:Exit->Env->Aq->Prop}(h:MC P N c env H Q)(l: ∀e b f,Q e b f->i e b f):MC P N c env H i:=by intro r X g a w s k;apply W6 (h r X g a w s k);rintro e m n ⟨j,b,f,q,d⟩;exact⟨j,b,f,l _ _ _ q,d⟩
def MA.of_loopW{c:Code}(h:MC P N c env H Q):MA P N (.loop c) env H Q:=λr X g a w s k=>qY (h r X g a w s k)
def RE{c:Code}(h:MA P N c env H (oI (λb f=> ∃env2 d,F6 N H.length b f env2 d/\MC P N c env2 d Q) Q)):MC P N c env H Q:=by
 intro r X g a w s k;refine nC (wpIn_mono (h r X g a w s k) ?_);rintro e a2 i ⟨n,env2,d,q,t,x,l⟩;cases e with
 |normal=>obtain⟨m,y,p,C⟩:=q;obtain⟨o,u,B,D⟩:=p.2 X n a2 i t;have j:HS g H w o y i:=F6.ext rfl p.1 B D x;apply W6 (C r X o a2 i u (k.later j));rintro e G I ⟨A,b,f,E,F,v,z⟩;exact⟨A,b,f,E,F,j.trans v,l.trans u.sim j v z⟩
 |_=>exact⟨n,env2,d,q,t,x,l⟩
def nE(P:Program)(N:Nat)(c:Code)(env:Env)(H:Aq)(Q:Exit->Env->Aq->Prop):Prop:=
 match c with
 | .loop x=>MC P N x env H Q
 |c=>MA P N c env H Q
def nE.awp{c:Code}(h:nE P N c env H Q):MA P N c env H Q:=by
 unfold nE at h;split at h
 ·exact .of_loopW h
 ·exact h
def D2{c:Code}(hn: ∀x,c≠ .loop x)(h:MA P N c env H Q):nE P N c env H Q:=by
 unfold nE;split
 ·exact(hn _ rfl).elim
 ·exact h
def nE.mono{c:Code}{d:Exit->Env->Aq->Prop}(h:nE P N c env H Q)(f: ∀e a b,Q e a b->d e a b):nE P N c env H d:=by
 cases c with
 |loop x=>exact MC.mono h f
 |_=>exact MA.mono h f
def MC.weak{c:Code}{env2:Env}{d:Aq}(f:F6 N H.length env H env2 d)(h:MC P N c env2 d Q):MC P N c env H Q:=by intro r X g a w s k;obtain⟨m,t,n,o⟩:=f.2 X g a w s;apply W6 (h r X m a w t k);rintro e v x ⟨l,b,i,q,p,u,j⟩;exact⟨l,b,i,q,p,(F6.ext rfl f.1 n o (HS.refl g H w)).trans u,j⟩
def nE.weak{c:Code}{env2:Env}{a:Aq}(b:F6 N H.length env H env2 a)(h:nE P N c env2 a Q):nE P N c env H Q:=by
 cases c with
 |loop x=>exact MC.weak b h
 |_=>exact MA.weak b h
def MA.after{c:Code}(h:MA P N c env H (λe b f=> ∃env2 d,F6 N H.length b f env2 d/\Q e env2 d)):MA P N c env H Q:=by intro r X g a w s k;apply wpIn_mono (h r X g a w s k);rintro e j v ⟨m,b,f,⟨env2,d,i,q⟩,t,x,l⟩;obtain⟨n,u,o,p⟩:=i.2 X m j v t;exact⟨n,env2,d,q,u,F6.ext rfl i.1 o p x,l⟩
def MC.after{c:Code}(h:MC P N c env H (λe b f=> ∃env2 d,F6 N H.length b f env2 d/\Q e env2 d)):MC P N c env H Q:=by intro r X g a w s k;apply W6 (h r X g a w s k);rintro e j v ⟨m,b,f,⟨env2,d,i,q⟩,t,x,l⟩;obtain⟨n,u,o,p⟩:=i.2 X m j v t;exact⟨n,env2,d,q,u,F6.ext rfl i.1 o p x,l⟩
def nE.after{c:Code}(h:nE P N c env H (λe a d=> ∃env2 b,F6 N H.length a d env2 b/\Q e env2 b)):nE P N c env H Q:=by
 cases c with
 |loop x=>exact MC.after h
 |_=>exact MA.after h
end
def DO(v:AW)(H:Aq):AW->Aq->Prop:=λu H'=>u=v/\H'=H
def Vb(e:Exit)(env:Env)(H:Aq):Exit->Env->Aq->Prop:=λe1 env1 H1=>e1=e/\env1=env/\H1=H
def callT(ρ:Operand->AW):Op->Option (Sum (FuncId×List AW) (Nat×List AW))
 | .call c=>
  match c.callee with
  | .value f=>
   match ρ f with
   | .fn (.func F) first caps=>some (.inl (F,first++c.args.toList.map ρ++caps))
   | .yf id=>some (.inr (id,c.args.toList.map ρ))
   |_=>none
  |_=>none
 |_=>none
def zZ(H:Aq):List (Nat×EM)->Aq
 |[]=>H
 |(i,e)::r=>zZ (H.set i e) r
section
variable {X:Nat->Prop} {h:Gh} {H:Aq} {w:World}
def Ik.regen(s:Ik X h H w){id g g':Nat}{cs:List AW}(n:H[id]? =some (EM.live g cs))(I:g≤g'):
  Ik X (h.at_ id (h.io id) g' (h.cap id)) (H.set id (.live g' cs)) w/\HS h H w (h.at_ id (h.io id) g' (h.cap id)) (H.set id (.live g' cs)) w:=by
 obtain⟨q,p⟩:=s.live id g cs n;have l:h.gen id=g:=q;have t:id<H.length:=by
  rcases Ag id H.length with z|z
  ·exact z
  ·rw[BP z]at n;cases n
 rcases p with⟨F,A⟩|⟨B,j,T,G,f,D,L,o,E,C,c⟩
 ·have d:h.io id=none:=F;rcases Nat.eq_or_lt_of_le I with e|M
  ·subst e;have x:h.at_ id (h.io id) g (h.cap id)=h:=by
    unfold Gh.at_;cases h;simp only[Gh.mk.injEq];refine⟨funext λi=>?_,funext λi=>?_,funext λi=>?_⟩
    ·split<;>simp_all
    ·split
     ·rename_i r;subst r;exact l.symm
     ·rfl
    ·split<;>simp_all
   have y:H.set id (.live g cs)=H:=by
    apply M6;intro i;rw[TF];split
    ·rename_i r;subst r;exact n.symm
    ·rfl
   rw[x,y];exact⟨s,HS.refl _ _ _⟩
  ·subst A;obtain⟨m,rfl⟩: ∃m,g'=m+1:=⟨g'-1,by omega⟩
   have key: ∀(v:Gh) (u:Aq) (k:Nat),v=h.at_ id none (g+k) (h.cap id)->u=H.set id (.live (g+k) [])->(Ik X v u w/\HS h H w v u w)->(Ik X (h.at_ id none (g+(k+1)) (h.cap id)) (H.set id (.live (g+(k+1)) [])) w/\HS h H w (h.at_ id none (g+(k+1)) (h.cap id)) (H.set id (.live (g+(k+1)) [])) w):=by
    intro v u k x y J;subst x y;obtain⟨q1,q2⟩:=J.1.bump (id:=id) (g:=g+k) (cs:=[]) (by simp[t]) (by simp[Gh.at_]);have K:(h.at_ id none (g+k) (h.cap id)).at_ id none (g+k+1) ((h.at_ id none (g+k) (h.cap id)).cap id)=h.at_ id none (g+(k+1)) (h.cap id):=by unfold Gh.at_;simp only[Gh.mk.injEq];refine⟨funext λi=>?_,funext λi=>?_,funext λi=>?_⟩<;>by_cases r:i=id<;>simp[r,PH]
    rw[K,Zz]at q1 q2;exact⟨q1,J.2.trans q2⟩
   have all: ∀k,Ik X (h.at_ id none (g+(k+1)) (h.cap id)) (H.set id (.live (g+(k+1)) [])) w/\HS h H w (h.at_ id none (g+(k+1)) (h.cap id)) (H.set id (.live (g+(k+1)) [])) w:=by
    intro k;induction k with
    |zero=>exact s.bump n d
    |succ k N=>exact key _ _ (k+1) rfl rfl N
   have:=all (m-g);rw[show g+(m-g+1)=m+1 by omega]at this;rw[d];exact this
 ·have b:h.io id=some B:=D;have a:j.size=h.cap id:=o;have:=s.upd (g':=g') (B:=B) (arr:=j) (T:=T) (fz:=G) (w':=w) n I (λ_=>⟨b,a.symm⟩) (.inl b) L (λ_ _ _=>rfl) rfl rfl rfl (Aj _) ⟨f,E,C,c⟩;rw[a]at this;rw[b];exact this
end
section
variable {P:Program} {N:Nat} {o:Oper} {env:Env} {H:Aq} {K:AW->Aq->Prop}
def Bh.regen{X:Nat→Prop}{h:Gh}{H:Aq}{w:World}{id g g' sz off n:Nat}{c:Value}{e:EM}(a:h.gen id=g)(r:Bh (cx X h H w) (.sl id g sz off n) c):
  Bh (cx X (h.at_ id (h.io id) g' (h.cap id)) (H.set id e) w) (.sl id g' sz off n) c:=by
 cases r with
 |sl b i d f=>refine .sl (by simpa[cx]using b) (by simp[cx,Gh.at_]) d λ_=>?_;have:=f a;simpa[cx,Gh.at_]using this
def Ii.regen{id g g' sz off n:Nat}{cs:List AW}{H1:Aq}(j:g<=g')(d:H1[id]? =some (EM.live g cs))(h:Ii P N o env H λv b=>v= .sl id g sz off n/\b=H1)(k:K (.sl id g' sz off n) (H1.set id (.live g' cs))):Ii P N o env H K:=by intro r X f a w s Q;apply Te (h r X f a w s Q);rintro p t ⟨c,v,q,b,i,⟨rfl,rfl⟩,l,e,m⟩;obtain⟨q1,q2⟩:=e.regen (g':=g') d j;exact⟨c,_,_,_,i,k,Bh.regen (e.live id g cs d).1 l,q1,m.trans q2⟩
def QJ{sx xx:Operand}{t e:TypeId}{id g g' n sz m:Nat}{cs news:List AW}(ho:o.op= .call {callee:=.builtin .append,args:= #[sx,xx],argTypes:= #[t,t]})(he:eI P t=some (none,e,sz))(V:0<sz)(b5:QK P e=true)
  (hs:A8 env sx= .sl id g sz 0 n) (F:H[id]? =some (EM.live g cs)) (hn:cs.length=n*sz) (hx:M3 H sz (A8 env xx)=some (m,news)) (bd:n+m<=16777216)
  (b9:g<g'\/(g'=g/\m=0)) (hk:K (.sl id g' sz 0 (n+m)) (H.set id (.live g' (cs++news)))):Ii P N o env H K:=by
 apply Cu (by rw[ho];rfl);intro X h a w s Q;obtain⟨a7,b,hi⟩:=PM he;obtain⟨i,z,y,bz,hz,b7⟩:=Rv b5;have u:=eR hi y;have rs:=DR s.env sx;rw[hs]at rs;have rx:=DR s.env xx;obtain⟨ar,a9⟩:=s.sim.live id g cs F;have b1:h.gen id=g:=ar;have O:id<H.length:=by
  rcases Ag id H.length with J|J
  ·exact J
  ·rw[BP J]at F;cases F
 have a6:M3 H sz (.sl id g sz 0 n)=some (n,cs):=by simp only[M3,F];rw[if_pos ⟨trivial,trivial,by omega⟩];simp[<-hn]
 unfold Oper.wp;have bG:(h.io id=none/\n=0/\a.eval sx= .slice none 0 0)\/ ∃B cap,h.io id=some B/\n<=cap/\cap*sz<=h.cap id/\a.eval sx= .slice (some ⟨B,0,none⟩) n cap:=by
  generalize a.eval sx=c at rs;cases rs with
  |sl p q r hc=>
   rcases hc ar with⟨h1,J,_,h3⟩|⟨B,cap,h1,J,h3,h4⟩
   ·exact .inl ⟨h1,J,h3⟩
   ·exact .inr ⟨B,cap,h1,J,by simpa[cx]using h3,h4⟩
 have ap: ∀(l:Option Addr) (cap:Nat),a.eval sx= .slice l n cap→cap<n+m→0<m→
   Oper.upon P o a (λa' W=> ∃c v h' H',a'=a.put o.dst c/\K v H'/\Bh (cx X h' H' W) v c/\Ik X h' H' W/\HS h H w h' H' W) Q ((execOp a.eval o).run P w):=by
  intro l cap A a2 b3;have sd:=s.sim.drew;obtain⟨ax,al,I,a8,S,d,D,_,M⟩:=Nq (P:=P) sd (rx.later (HS.drew.later X)) V hx;obtain⟨_,_,_,_,_,_,_,a3,_⟩:=Nq (P:=P) s.sim rx V hx;obtain⟨_,_,os,_,_,U,a5,_,b0⟩:=Nq (P:=P) sd (rs.later (HS.drew.later X)) V a6;obtain⟨C,hC,E⟩:=jr (ty:=o.type) (base:=l) (n:=n) (cap:=cap) (os:=os) a7 y hz bz a3 (by rw[u,<-A];exact b0) (by rw[u];exact M) a2 bd;rw[Pc ho (by rw[A];exact E),Oper.upon_value];have hh:cj (cx X h H w.drew) (cs++news) (os.toArray++I.toArray++Builtin.zeroCells z.cells (C-(n+m))) (0,0):=nZ U d a5 D;obtain⟨q1,q2⟩:=sd.upd (g':=g') (B:=w.heap.size) (T:=e) (fz:=(0,0)) (w':={w.drew with heap:=w.drew.heap.push (.cells (os.toArray++I.toArray++Builtin.zeroCells z.cells (C-(n+m))) e)}) F (by omega) (λbl=>by omega)
   (.inr (Aj _)) (by show(w.heap.push _)[w.heap.size]? =_;simp) (λk hk bl=>by show(w.heap.push _)[k]? =w.heap[k]?;rw[LK,if_neg bl]) rfl rfl rfl (by show w.heap.size<=(w.heap.push _).size;simp) hh
  refine⟨_,_,_,_,rfl,hk,?_,q1,HS.drew.trans q2⟩;refine .sl (by simpa[cx]using O) (by simp[cx,Gh.at_]) ⟨_,_,rfl⟩ λ_=>.inr ⟨w.heap.size,C,by simp[cx,Gh.at_],hC,?_,rfl⟩;have e1:I.length=m*sz:=by rw[d.1,S]
  have e2:os.length=n*sz:=by rw[U.1,hn]
  simp only[cx,Gh.at_,if_true,iR,TJ,WB,b7,u,e1,e2];have:(C-(n+m))*sz+(n*sz+m*sz)=C*sz:=by rw[<-EJ,<-EJ];congr 1;omega
  omega
 rcases bG with⟨G,rfl,A⟩|⟨B,cap,G,b8,L,A⟩
 ·rcases Q6 m with hm|hm
  ·subst hm;obtain⟨ax,al,I,a8,S,d,D,R,M⟩:=Nq (P:=P) s.sim rx V hx;have a4:news=[]:=EA (by omega);subst a4;have bN:cs=[]:=EA (by omega);subst bN;have b6:I=[]:=EA d.1;subst b6;have E:=ff (ty:=o.type) (base:=none) (n:=0) (cap:=0) (w':=w) a7 y R (by rw[u];exact M) (by omega) rfl;rw[Pc ho (by rw[A];exact E),Oper.upon_value];obtain⟨q1,q2⟩:=s.sim.regen (g':=g') F (by omega);rw[G]at q1 q2;rw[DQ]at hk;refine⟨_,_,_,_,rfl,hk,?_,q1,q2⟩;exact .sl (by simpa[cx]using O) (by simp[cx,Gh.at_]) ⟨_,_,rfl⟩ λ_=>.inl ⟨by simp[cx,Gh.at_],rfl,rfl,rfl⟩
  ·exact ap none 0 A (by omega) hm
 ·rcases Ag cap (n+m)with b2|a1
  ·exact ap _ cap A b2 (by omega)
  ·obtain⟨ax,al,I,a8,S,d,D,R,M⟩:=Nq (P:=P) s.sim rx V hx;rcases a9 with⟨bt,_⟩|⟨B',Y,T,fz,f,as,hb,a0,ca,bb,Z⟩
   ·rw[show(cx X h H w).io id=h.io id from rfl,G]at bt;cases bt
   ·rw[show(cx X h H w).io id=h.io id from rfl,G]at as;injection as with e0;subst e0;have x:Y.size=h.cap id:=a0;have e1:I.length=m*sz:=by rw[d.1,S]
    have b4:n*sz+m*sz<=Y.size:=by rw[<-EJ,x];exact D4 (PJ _ a1) L
    obtain⟨W,ad,p1,p2,p3,p4,p5,p6,p7,p8,p9⟩:=Sd (P:=P) (off:=n*sz) I 0 Y w hb (by omega) bb D;have E:=ff (ty:=o.type) (base:=some ⟨B,0,none⟩) (n:=n) (cap:=cap) (w':=W) a7 y R (by rw[u];exact M) a1 (by rw[u];simp only[Nv,DE];exact p1);rw[Pc ho (by rw[A];exact E),Oper.upon_value];have hh:cj (cx X h H w) (cs++news) ad fz:=by
     refine⟨λj=>if n*sz<=j/\j<n*sz+m*sz then I.getD (j-n*sz) undef else f j,by simp[hn,S];omega,by rw[p3];exact bb,λj v hj=>?_⟩;rw[p4];simp only[N0,e1];rcases Ag j cs.length with J|J
     ·rw[BW J]at hj;rw[if_neg (by omega),if_neg (by omega)];exact Z j v hj
     ·rw[CG J]at hj;have b':j-cs.length<news.length:=by
       rcases Ag (j-cs.length) news.length with h3|h3
       ·exact h3
       ·rw[BP h3]at hj;cases hj
      rw[if_pos (by omega),if_pos (by omega)];have hg:I[j-n*sz]? =some (I[j-n*sz]'(by omega)):=Ay (by omega);have eg:I.getD (j-n*sz) undef=I[j-n*sz]'(by omega):=by rw[Dr,hg];rfl
      rw[eg];refine⟨hg,D _ (Nw _),d.2 _ v _ hj ?_⟩;rw[hn];exact hg
    obtain⟨q1,q2⟩:=s.sim.upd (g':=g') (B:=B) (arr:=ad) (T:=T) (fz:=fz) (w':=W) F (by omega) (λ_=>⟨G,by rw[p3,x]⟩) (.inl G) p2 (λk _ hk=>p5 k hk) p6 p7 p8 (by rw[p9];exact Aj _) hh;refine⟨_,_,_,_,rfl,hk,?_,q1,q2⟩;refine .sl (by simpa[cx]using O) (by simp[cx,Gh.at_]) ⟨_,_,rfl⟩ λ_=>.inr ⟨B,cap,by simp[cx,Gh.at_],a1,?_,rfl⟩;simp only[cx,Gh.at_,if_true,p3,DE,x];exact L
def ZE{f h:Operand}{t e:TypeId}{sz m:Nat}{a:List AW}(k:o.op= .call {callee:=.builtin .append,args:= #[f,h],argTypes:= #[t,t]})(i:eI P t=some (none,e,sz))(d:0<sz)(c:QK P e=true)
  (l:A8 env f= .nils) (n:M3 H sz (A8 env h)=some (m,a)) (b:m<=16777216) (j:K (.sl H.length m sz 0 m) (H++[.live m a])):Ii P N o env H K:=by
 apply Ii.regen (id:=H.length) (g:=0) (g':=m) (cs:=a) (Cc _) (by simp) (Ii.append_nil k i d c l n b ⟨rfl,rfl⟩);simpa using j
def Rb{t:TypeId}{len sz:Nat}{a:Array (Nat×Operand)}{vs:List AW}(c:o.op= .buildSlice t len a)(d:Qs P env t len a=some (sz,vs))
  (b:K (.sl H.length vs.length sz 0 vs.length) (H++[.live vs.length (vs.flatMap AW.cells)])):Ii P N o env H K:=by
 apply Ii.regen (id:=H.length) (g:=0) (g':=vs.length) (cs:=vs.flatMap AW.cells) (Cc _) (by simp) (ZF c d ⟨rfl,rfl⟩);simpa using b
def Ii.makeSlice{t e:TypeId}{x y:Operand}{u s:IntKind}{l c:Int}{sz:Nat}{z:List AW}(m:o.op= .makeSlice t x y)(j:eI P t=some (none,e,sz))(b:0<sz)(a:QK P e=true)(r:WA P e=some z)(d:z.length=sz)
  (p:A8 env x= .int u l) (q:A8 env y= .int s c) (f:0<=l) (h:l<=c) (i:c<=16777216) (k:K (.sl H.length l.toNat sz 0 l.toNat) (H++[.live l.toNat (List.replicate l.toNat z).flatten])):Ii P N o env H K:=by
 refine Ii.regen (id:=H.length) (g:=0) (g':=l.toNat) (cs:=(List.replicate l.toNat z).flatten) (H1:=H++[.live 0 (List.replicate l.toNat z).flatten]) (sz:=sz) (off:=0) (n:=l.toNat) (Cc _) (by simp) (ec m j b a r d p q f h i ⟨rfl,rfl⟩) (by simpa using k)
end
section
variable {P:Program} {N:Nat} {o:Oper} {env:Env} {H:Aq} {K:AW->Aq->Prop}
def fF(s:List UInt8):List AW:=s.map λb=>.int .u8 (b.toNat:Int)
def gj{k f e:TypeId}{x:Operand}{s:List UInt8}{u:TypeDesc}(A:o.op= .convert k f x)(M:P.underlying k=some u)(E:P.underlying f=some (.slice e))(F:P.underlying e=some (.int .u8))
  (R:A8 env x= .str s) (L:K (.sl H.length 0 1 0 s.length) (H++[.live 0 (fF s)])):Ii P N o env H K:=by
 apply Cu (by rw[A];rfl);intro X h a w C Q;have y:=DR C.env x;rw[R]at y;generalize D:a.eval x=c at y;cases y with
 |str t B=>
  have n:t.size=s.length:=by rw[<-B];rfl
  have m:(execOp a.eval o).run P w= .ok (.value (.slice (some ⟨w.heap.size,0,none⟩) t.size (grownCap w t.size 0 e))) (Lib.bytesWorld w e t):=by have:=Lib.run_convert_string_bytes w k f e t M E F;unfold execOp;rw[A];simp[resolve,D,this]
  unfold Oper.wp;rw[m,Oper.upon_value];have G:=grownCap_ge w t.size 0 e;have g:(Lib.bytesCells w e t).size=grownCap w t.size 0 e:=by simp only[Lib.bytesCells,iR,iS,Array.size_replicate];have:t.data.size=t.size:=rfl;omega
  have S:=C.sim.drew;have O:Lib.bytesWorld w e t={w.drew with heap:=w.drew.heap.push (.cells (Lib.bytesCells w e t) e ((Lib.bytesCells w e t).size,(Lib.bytesCells w e t).size+1))}:=by
   unfold Lib.bytesWorld World.freeze World.alloc;rw[if_neg (by decide)];show World.mk _ _ _ _ _=World.mk _ _ _ _ _;congr 1;apply Array.ext_getElem?;intro j;have g:w.drew.heap.size=w.heap.size:=rfl;rw[YM,LK,LK];by_cases d:j=w.heap.size
   ·subst d;simp[g]
   ·have r:w.heap.size≠j:=Ne.symm d;simp[g,d,r]
  rw[O];have I:cj (cx X h H w.drew) (fF s) (Lib.bytesCells w e t) ((Lib.bytesCells w e t).size,(Lib.bytesCells w e t).size+1):=by
   refine⟨λj=>.int .u8 ((s.getD j 0).toNat:Int),by simp[fF];omega,λi T=>?_,λj v d=>?_⟩
   ·have: ¬(Lib.bytesCells w e t).size<=i:=by omega
    simp[this]
   ·unfold fF at d;rw[Bb]at d;cases l:s[j]? with
    |none=>rw[l]at d;cases d
    |some b=>
     rw[l]at d;simp only[BB,AV]at d;subst d;have J:j<s.length:=by
      rcases Ag j s.length with p|p
      ·exact p
      ·rw[BP p]at l;cases l
     have z:s.getD j 0=b:=by rw[Dr,l];rfl
     refine⟨?_,rfl,?_⟩
     ·have q:t.data[j]? =some b:=by rw[<-l,<-B,LL]
      simp only[z,Lib.bytesCells];rw[VT (by have:t.data.size=t.size:=rfl;simp;omega),VV,q];rfl
     ·simp only[z];exact .int _ _
  refine⟨_,_,_,_,rfl,L,?_,S.push _ e _ (fF s) I,HS.drew.trans (HS.push _ _ _)⟩;refine .sl (by simp[cx]) (by simp[cx,Gh.at_]) ⟨_,_,by rw[n]⟩ λ_=>.inr ⟨w.heap.size,grownCap w t.size 0 e,?_,by omega,?_,by rw[n]⟩
  ·have:w.drew.heap.size=w.heap.size:=rfl;simp[cx,Gh.at_,this]
  ·simp only[cx,Gh.at_,if_true];omega
def jM{b a e:TypeId}{x:Operand}{s:List UInt8}{u:TypeDesc}(h:o.op= .convert b a x)(i:P.underlying b=some u)(c:P.underlying a=some (.slice e))(d:P.underlying e=some (.int .u8))
  (j:A8 env x= .str s) (f:K (.sl H.length s.length 1 0 s.length) (H++[.live s.length (fF s)])):Ii P N o env H K:=by
 refine Ii.regen (id:=H.length) (g:=0) (g':=s.length) (cs:=fF s) (H1:=H++[.live 0 (fF s)]) (sz:=1) (off:=0) (n:=s.length) (Cc _) (by simp) (gj h i c d j ⟨rfl,rfl⟩) (by simpa using f)
end
def F6.virtC{N:Nat}{env:Env}{H:Aq}{b g i sz:Nat}{A:List AW}(Q:H[b]? =some (EM.live g A))(hi:A[i]? =some .nils):
  F6 N H.length env H env (H.set b (.live g (A.set i (.sl H.length 0 sz 0 0)))++[.live 0 []]):=by
 have J:b<H.length:=by
  rcases Ag b H.length with P|P
  ·exact P
  ·rw[BP P]at Q;cases Q
 refine⟨by simp,λX h a w s=>⟨h.at_ H.length none 0 0,?_,λid ar=>by simp[Gh.at_,BS ar],?_⟩⟩
 ·have O:=s.sim.virt;have hx:=HS.virt (h:=h) (H:=H) (w:=w);have W:=hx.later X
  have key: ∀(j:Nat) (e:EM),(H.set b (.live g (A.set i (.sl H.length 0 sz 0 0)))++[EM.live 0 []])[j]? =some e→
    (j≠b/\(H++[EM.live 0 []])[j]? =some e)\/(j=b/\e= .live g (A.set i (.sl H.length 0 sz 0 0))):=by
   intro j e p;rcases Ag j H.length with y|y
   ·rw[BW (by simpa using y),TF]at p;split at p
    ·rename_i G;subst G;injection p with p;exact .inr ⟨rfl,p.symm⟩
    ·rename_i G;exact .inl ⟨λe=>G e.symm,by rw[BW y];exact p⟩
   ·refine .inl ⟨by omega,?_⟩;rw[CG (by simpa using y)]at p;rw[CG y];simpa using p
  have E: ∀B,owned (h.at_ H.length none 0 0) (H.set b (.live g (A.set i (.sl H.length 0 sz 0 0)))++[.live 0 []]) B->owned (h.at_ H.length none 0 0) (H++[.live 0 []]) B:=by
   rintro B ⟨j,e,p,z,o⟩;rcases key j e p with⟨_,q⟩|⟨rfl,rfl⟩
   ·exact⟨j,e,q,z,o⟩
   ·exact⟨j,_,by rw[BW J];exact Q,by simp,o⟩
  have C:(cx X (h.at_ H.length none 0 0) (H++[.live 0 []]) w).Later (cx X (h.at_ H.length none 0 0) (H.set b (.live g (A.set i (.sl H.length 0 sz 0 0)))++[.live 0 []]) w):={size:=Aj _,keep:=λ_ _ _ _=>rfl,own:=λB _ ho=>ho.imp _root_.id (E B),n:=by simp[cx],gen:=λ_ _=>Aj _,same:=λ_ _ _=>⟨rfl,rfl⟩}
  refine⟨⟨λB Y=>⟨(O.out B Y).1,λho=>(O.out B Y).2 (E B ho)⟩,λj g0 ad p=>?_,λj L p=>?_,λj k e e' B q P ax a0 h3 h4=>?_,O.bldKeep λj e p Y=>?_⟩,λt v m=>?_,s.size⟩
  ·rcases key j _ p with⟨_,q⟩|⟨rfl,q⟩
   ·obtain⟨U,hh⟩:=O.live j g0 ad q;refine⟨U,?_⟩;rcases hh with⟨o,h0⟩|⟨B,F,T,fz,f,o,I,x,M,K,l⟩
    ·exact .inl ⟨o,h0⟩
    ·exact .inr ⟨B,F,T,fz,f,o,I,x,M,K,λk v u=>⟨(l k v u).1,(l k v u).2.1,(l k v u).2.2.later C⟩⟩
   ·injection q with h5 h6;subst h5 h6;obtain⟨U,hh⟩:=O.live j g0 A (by rw[BW J];exact Q);refine⟨U,?_⟩;rcases hh with⟨o,h0⟩|⟨B,F,T,fz,f,o,I,x,M,K,l⟩
    ·subst h0;simp at hi
    ·refine .inr ⟨B,F,T,fz,f,o,I,x,by simpa using M,K,λk v u=>?_⟩;rw[TF]at u;split at u
     ·rename_i as;subst as;split at u
      ·injection u with u;subst u;obtain⟨p1,Z,p3⟩:=l i _ hi;refine⟨p1,Z,?_⟩;generalize f i=c at p3 Z;cases p3;exact .sl (by simp[cx]) (by simp[cx,Gh.at_]) ⟨_,_,rfl⟩ λ_=>.inl ⟨by simp[cx,Gh.at_],rfl,rfl,rfl⟩
      ·cases u
     ·obtain⟨p1,Z,p3⟩:=l k v u;exact⟨p1,Z,p3.later C⟩
  ·rcases key j _ p with⟨_,q⟩|⟨rfl,q⟩
   ·obtain⟨U,B,r,q1,q2,q3,q4,q5,q6,q7,q8,q9⟩:=O.lp j L q;exact⟨U,B,r,q1,q2,q3,q4,q5,q6,q7,q8,λt v m=>⟨(q9 t v m).1,(q9 t v m).2.later C⟩⟩
   ·cases q
  ·have back: ∀{j:Nat} {e:EM},(H.set b (.live g (A.set i (.sl H.length 0 sz 0 0)))++[EM.live 0 []])[j]? =some e->e≠ .dead-> ∃e0,(H++[EM.live 0 []])[j]? =some e0/\e0≠ .dead:=by
    intro j e p z;rcases key j _ p with⟨_,q⟩|⟨rfl,q⟩
    ·exact⟨e,q,z⟩
    ·exact⟨_,by rw[BW J];exact Q,by simp⟩
   obtain⟨d,al,ap⟩:=back q ax;obtain⟨d',R,S⟩:=back P a0;exact O.inj j k _ _ B al R ap S h3 h4
  ·rcases key j _ p with⟨_,q⟩|⟨rfl,q⟩
   ·exact⟨q,rfl,rfl,rfl,λ_ _ _ _ _=>rfl⟩
   ·subst q;cases Y
  ·exact⟨(s.env t v m).1,((s.env t v m).2.later W).later C⟩
 ·rintro B ⟨j,e,p,z,o⟩;rcases Ag j H.length with y|y
  ·have D:h.io j=some B:=by simpa[Gh.at_,BS y]using o
   by_cases V:j=b
   ·subst V;exact⟨j,_,Q,by simp,D⟩
   ·rw[BW (by simpa using y),C1 (λe=>V e.symm)]at p;exact⟨j,e,p,z,D⟩
  ·rw[CG (by simpa using y)]at p;have:j=H.length:=by
    rcases Nat.eq_or_lt_of_le y with e|P
    ·exact e.symm
    ·rw[BP (by simp;omega)]at p;cases p
   subst this;simp[Gh.at_]at o
def Bh.nil_vs{x:Cx}{c:Value}{sz:Nat}(a:0<sz)(r:Bh x .nils c):Bh x (.vs sz []) c:=by cases r;exact Bh.vs (rows:=[]) (cap:=0) (λ_ _=>undef) (Aj _) a (λ_ _ h=>by simp at h) (λh=>(h rfl).elim) λ_ _ _ _ h=>by simp at h
def F6.subset{N:Nat}{env env2:Env}{H:Aq}(h: ∀q∈env2,q∈env):F6 N H.length env H env2 H:=⟨Aj _,λ_ g _ _ s=>⟨g,⟨s.sim,λt v m=>s.env t v (h _ m),s.size⟩,λ_ _=>⟨rfl,rfl,rfl⟩,λ_ h=>h⟩⟩
section
variable {P:Program}
def uW{d:Operand→AW}{e:Op}{F:FuncId}{g:List AW}(h:callT d e=some (.inl (F,g))):
  ∃c f first a,e= .call c/\c.callee= .value f/\d f= .fn (.func F) first a/\g=first++c.args.toList.map d++a:=by
 unfold callT at h;split at h
 ·rename_i c;split at h
  ·rename_i f b;split at h
   ·rename_i G first a i
    simp only[AV,Sum.inl.injEq,Br]at h;obtain⟨rfl,rfl⟩:=h;exact⟨c,f,first,a,rfl,b,i,rfl⟩
   ·simp at h
   ·cases h
  ·cases h
 ·cases h
section
variable {N:Nat} {o:Oper} {env:Env} {H H':Aq} {v:AW}
def iD{F:FuncId}{vs:List AW}(h:callT (A8 env) o.op=some (.inl (F,vs)))(d:Zu P F=true)(e:Eo P F vs H (DO v H')):Ii P N o env H (DO v H'):=by obtain⟨c,f,first,b,i,a,g,rfl⟩:=uW h;exact jL i a g d e
end
end
mutual
theorem PZ{p q:Nat->Bool}(h: ∀c,p c=true->q c=true): ∀v:AW,v.idsAll p=true->v.idsAll q=true
 | .ptr c g off,k=>h c k
 | .sl c g sz off len,k=>h c k
 | .yf c,k=>h c k
 | .mp c,k=>h c k
 | .itp c m,k=>by simp only[AW.idsAll,BM]at k⊢;exact⟨h c k.1,h m k.2⟩
 | .vptr cs,k=>Ig h cs k
 | .vs sz rows,k=>Ig h rows k
 | .fn f a b,k=>by simp only[AW.idsAll,BM]at k⊢;exact⟨Ig h a k.1,Ig h b k.2⟩
 | .agg cs,k=>Ig h cs k
 | .tup cs,k=>Ig h cs k
 | .bool _,_=>rfl
 | .int _ _,_=>rfl
 | .str _,_=>rfl
 | .nilp,_=>rfl
 | .nils,_=>rfl
 | .nilf,_=>rfl
 | .any,_=>rfl
theorem Ig{p q:Nat->Bool}(h: ∀a,p a=true->q a=true): ∀l:List AW,AW.idsAllL p l=true->AW.idsAllL q l=true
 |[],_=>rfl
 |v::r,k=>by simp only[AW.idsAllL,BM]at k⊢;exact⟨PZ h v k.1,Ig h r k.2⟩
end
mutual
theorem xM(c d:Nat->Nat): ∀v:AW,(v.ren c).ren d=v.ren λh=>d (c h)
 | .ptr h g j=>rfl
 | .sl h g sz j len=>rfl
 | .yf h=>rfl
 | .mp h=>rfl
 | .itp _ _=>rfl
 | .vptr e=>by simp only[AW.ren,Ru c d e]
 | .vs sz i=>by simp only[AW.ren,Ru c d i]
 | .fn f a b=>by simp only[AW.ren,Ru c d a,Ru c d b]
 | .agg e=>by simp only[AW.ren,Ru c d e]
 | .tup e=>by simp only[AW.ren,Ru c d e]
 | .bool _=>rfl
 | .int _ _=>rfl
 | .str _=>rfl
 | .nilp=>rfl
 | .nils=>rfl
 | .nilf=>rfl
 | .any=>rfl
theorem Ru(a b:Nat->Nat): ∀l:List AW,AW.renL b (AW.renL a l)=AW.renL (λc=>b (a c)) l
 |[]=>rfl
 |v::r=>by simp only[AW.renL,xM a b v,Ru a b r]
end
mutual
theorem r9{p q:Nat->Bool}{d:Nat->Nat}(h: ∀c,p c=true->q (d c)=true): ∀v:AW,v.idsAll p=true->(v.ren d).idsAll q=true
 | .ptr c g off,k=>h c k
 | .sl c g sz off len,k=>h c k
 | .yf c,k=>h c k
 | .mp c,k=>h c k
 | .itp c m,k=>by simp only[AW.ren,AW.idsAll,BM]at k⊢;exact⟨h c k.1,h m k.2⟩
 | .vptr cs,k=>Np h cs k
 | .vs sz rows,k=>Np h rows k
 | .fn f a b,k=>by simp only[AW.ren,AW.idsAll,BM]at k⊢;exact⟨Np h a k.1,Np h b k.2⟩
 | .agg cs,k=>Np h cs k
 | .tup cs,k=>Np h cs k
 | .bool _,_=>rfl
 | .int _ _,_=>rfl
 | .str _,_=>rfl
 | .nilp,_=>rfl
 | .nils,_=>rfl
 | .nilf,_=>rfl
 | .any,_=>rfl
theorem Np{p q:Nat->Bool}{b:Nat->Nat}(h: ∀a,p a=true->q (b a)=true): ∀l:List AW,AW.idsAllL p l=true->AW.idsAllL q (AW.renL b l)=true
 |[],_=>rfl
 |v::r,k=>by simp only[AW.renL,AW.idsAllL,BM]at k⊢;exact⟨r9 h v k.1,Np h r k.2⟩
end
def Pure(v:AW):Prop:=v.idsAll (λ_=>false)=true
def lF(e:EM):Prop:=match e with| .live _ cs=>AW.idsAllL (λ_=>false) cs=true|_=>False
def Pure.all{v:AW}(h:Pure v)(p:Nat->Bool):v.idsAll p=true:=PZ (λ_ e=>by cases e) v h
def Pure.ren{v:AW}(h:Pure v)(ρ:Nat->Nat):v.ren ρ=v:=se (p:=λ_=>false) (λ_ e=>by cases e) v h
def lF.all{e:EM}(h:lF e)(p:Nat->Bool):e.idsAll p=true:=by
 cases e with
 |live g a=>exact Ig (λ_ e=>by cases e) a h
 |_=>cases h
def lF.ren{e:EM}(h:lF e)(ρ:Nat->Nat):e.ren ρ=e:=by
 cases e with
 |live g a=>simp only[EM.ren];rw[Uy (p:=λ_=>false) (λ_ e=>by cases e) a h]
 |_=>cases h
def Eo.sub{P:Program}{F:FuncId}{args:List AW}{H:Aq}{K:AW→Aq→Prop}(bs:List Nat){Qc:AW→Aq→Prop}(a:bs.Nodup)(g: ∀b∈bs,b<H.length)
  (y: ∀b∈bs,((H.getD b .dead).idsAll λi=>decide (i∈bs))=true) (m:AW.idsAllL (λi=>decide (i∈bs)) args=true)
  (z:Eo P F (AW.renL (bs.idxOf ·) args) (Wm H bs) Qc) (B: ∀v k,Qc v k->K (v.ren (M9 H bs)) (RG H bs k)):Eo P F args H K:=by
 intro X h w c s t f;refine(z (Xs X h H bs) (Tg h bs) w c (s.sub a y) (by simpa[Nm]using t) ?_).mono ?_
 ·intro j v d l A;rw[Nm,Bb]at l;cases o:args[j]? with
  |none=>rw[o]at l;cases l
  |some u=>rw[o]at l;simp only[BB,AV]at l;subst l;exact Bh.ren (p:=λi=>decide (i∈bs)) (λi=>pN i) rfl xa (f j u d o A) (L8 m o)
 ·rintro e G ⟨d,v,r,k,rfl,q,E,D,x⟩;have C:bs.length<=k.length:=by have:=x.n;simpa[Wm]using this
  exact⟨d,_,LQ h H bs r,RG H bs k,rfl,B v k q,s.back a g x E,Bh.back a g C D,HS.back a g x⟩
def kS{f:Nat->Nat}: ∀(bs:List Nat) (H a:Aq),(∀e∈a,lF e)->YG f H bs a=zZ H (bs.zip a)
 |[],H,a,_=>by cases a<;>rfl
 |b::bs,H,[],_=>rfl
 |b::bs,H,e::es,h=>by simp only[YG,Q5,zZ];rw[(h e (by simp)).ren,kS bs _ es λc d=>h c (by simp[d])]
def Eo.frame{P:Program}{F:FuncId}{a args:List AW}{g f H:Aq}{v:AW}(bs:List Nat)(t:Eo P F a g (DO v f))(k:bs.Nodup)(A:g.length=bs.length)(B:f.length=bs.length)
  (n: ∀(j b:Nat) (e:EM),bs[j]? =some b->g[j]? =some e->H[b]? =some e) (r: ∀e∈g,lF e) (x: ∀e∈f,lF e) (y:Pure v)
  (o:AW.renL (λj=>bs.getD j 0) a=args) (q:AW.idsAllL (λj=>decide (j<bs.length)) a=true):Eo P F args H (DO v (zZ H (bs.zip f))):=by
 have get: ∀b∈bs,∃(j:Nat) (e:EM),bs[j]? =some b/\g[j]? =some e/\H[b]? =some e:=by
  intro b i;obtain⟨j,d,e⟩:=PE.1 i;have h:bs[j]? =some b:=by rw[Ay d,e]
  have c:g[j]? =some (g[j]'(by omega)):=Ay (by omega);exact⟨j,_,h,c,n j b _ h c⟩
 have m: ∀b∈bs,b<H.length:=by
  intro b i;obtain⟨j,e,_,_,h⟩:=get b i;rcases Ag b H.length with c|c
  ·exact c
  ·rw[BP c]at h;cases h
 have l:Wm H bs=g:=by
  apply M6;intro j;unfold Wm;rw[Bb];cases d:bs[j]? with
  |none=>rw[List.getElem?_eq_none_iff]at d;rw[BP (by omega)];rfl
  |some b=>
   have w:j<bs.length:=by
    rcases Ag j bs.length with c|c
    ·exact c
    ·rw[BP c]at d;cases d
   have c:g[j]? =some (g[j]'(by omega)):=Ay (by omega);have s:=n j b _ d c;rw[c,BB,Dr,s,PK,(r _ (Nw _)).ren]
 refine Eo.sub bs (Qc:=DO v f) k m (λb i=>?_) ?_ ?_ ?_
 ·obtain⟨j,e,_,h,c⟩:=get b i;rw[Dr,c,PK];exact(r e (BV h)).all _
 ·rw[<-o];refine Np (λj d=>?_) a q;simp only[decide_eq_true_eq]at d⊢;rw[Dr,Ay d];exact Nw _
 ·rw[l,<-o,Ru];have:AW.renL (λj=>bs.idxOf (bs.getD j 0)) a=a:=by refine Uy (p:=λj=>decide (j<bs.length)) (λj d=>?_) a q;simp only[decide_eq_true_eq]at d;exact U6 k (by rw[Dr,Ay d];rfl)
  rw[this];exact t
 ·rintro u z ⟨rfl,rfl⟩;refine⟨y.ren _,?_⟩;unfold RG;rw[kS _ _ _ x,dx (by omega)];simp
structure Rz(α:Type)where
 sz:Nat
 f:α->AW
 pos:0<sz
 len: ∀x,(f x).cells.length=sz
 pure: ∀x,Pure (f x)
def Rz.cl{α:Type}(e:Rz α)(l:List α):List AW:=(l.map e.f).flatMap AW.cells
def Rz.clen{a:Type}(e:Rz a): ∀l:List a,(e.cl l).length=l.length*e.sz
 |[]=>by simp[Rz.cl]
 |x::l=>by have:=Rz.clen e l;simp only[Rz.cl,BE,Es,Ad,e.len]at this⊢;rw[this];simp[EJ,Z2]
def od(k:IntKind):Rz Int:=⟨1,.int k,by decide,λ_=>rfl,λ_=>rfl⟩
abbrev Bf:=List UInt8
def ix{α:Type}(l:List α)(i:Int):Option α:=if 0<=i then l[i.toNat]? else none
def Fg{α:Type}(l xs:List α):Option (List α):=if l.length+xs.length<=16777216 then some (l++xs)else none
def AB9{a:Type}{f:a->AW}{l:List a}{i:Int}{x:a}(h:ix l i=some x):0<=i/\(l.map f)[i.toNat]? =some (f x):=by
 unfold ix at h;split at h
 ·rename_i b;exact⟨b,by rw[Bb,h];rfl⟩
 ·cases h
def gQ{c:Type}{l a r:List c}(h:Fg l a=some r):l.length+a.length<=16777216/\r=l++a:=by
 unfold Fg at h;split at h
 ·rename_i b;exact⟨b,(C2 h).symm⟩
 ·cases h
def AAg{a:Type}(e:Rz a)(l:List a):tF e.sz (e.cl l) (l.map e.f):=⟨e.pos,λv b=>by obtain⟨x,_,rfl⟩:=BX.1 b;exact e.len x,rfl⟩
inductive Step(S R:Type)where
 |next (s:S)
 |done (r:R)
def Zl{S R:Type}(body:S->Option (Step S R)):Nat->S->Option R
 |0,_=>none
 |n+1,s=>
  match body s with
  |some (.next s')=>Zl body n s'
  |some (.done r)=>some r
  |none=>none
def sE{S R:Type}{body:S->Option (Step S R)}{n:Nat}{s:S}{r:R}(h:Zl body n s=some r):Zl body (n+1) s=some r:=by
 induction n generalizing s with
 |zero=>cases h
 |succ n b=>
  rw[Zl]at h⊢;cases a:body s with
  |none=>rw[a]at h;cases h
  |some q=>
   rw[a]at h;cases q with
   |next c=>exact b h
   |done r=>exact h
def qZ{S R:Type}{body:S->Option (Step S R)}{n m:Nat}{s:S}{r:R}(h:Zl body n s=some r)(a:n<=m):Zl body m s=some r:=by
 induction a with
 |refl=>exact h
 |step _ b=>exact sE b
open Classical in
noncomputable def Ae{S R:Type}(body:S->Option (Step S R))(s:S):Option R:=if h: ∃r n,Zl body n s=some r then some h.choose else none
def eK{S R:Type}{body:S->Option (Step S R)}{s:S}{r:R}:Ae body s=some r↔ ∃n,Zl body n s=some r:=by
 unfold Ae;constructor
 ·intro h;split at h
  ·rename_i a;obtain⟨n,hn⟩:=a.choose_spec;injection h with h;exact⟨n,by rw[hn,h]⟩
  ·cases h
 ·rintro⟨n,hn⟩;have a: ∃r n,Zl body n s=some r:=⟨r,n,hn⟩
  rw[dif_pos a];obtain⟨m,d⟩:=a.choose_spec;have c:=qZ hn (Nat.le_max_left n m);have b:=qZ d (Nat.le_max_right n m);rw[c]at b;exact b.symm
def Cg{S R:Type}(body:S→Option (Step S R))(s:S):Ae body s=match body s with
  |some (.next b)=>Ae body b
  |some (.done r)=>some r
  |none=>none:=by
 apply Option.ext;intro r;rw[eK];constructor
 ·rintro⟨n,h⟩;cases n with
  |zero=>cases h
  |succ n=>
   rw[Zl]at h;cases a:body s with
   |none=>rw[a]at h;cases h
   |some q=>
    rw[a]at h;cases q with
    |next b=>exact eK.2 ⟨n,h⟩
    |done r=>exact h
 ·intro h;cases a:body s with
  |none=>rw[a]at h;cases h
  |some q=>
   rw[a]at h;cases q with
   |next b=>obtain⟨n,hn⟩:=eK.1 h;exact⟨n+1,by rw[Zl,a];exact hn⟩
   |done c=>exact⟨1,by rw[Zl,a];exact h⟩
def uu{S R:Type}{body:S->Option (Step S R)}(C:S->R->Prop)(c: ∀s b r,body s=some (.next b)->C b r->C s r)(d: ∀s r,body s=some (.done r)->C s r){s:S}{r:R}(h:Ae body s=some r):C s r:=by
 obtain⟨n,hn⟩:=eK.1 h;clear h;induction n generalizing s with
 |zero=>cases hn
 |succ n e=>
  rw[Zl]at hn;cases a:body s with
  |none=>rw[a]at hn;cases hn
  |some q=>
   rw[a]at hn;cases q with
   |next b=>exact c s b r a (e hn)
   |done f=>injection hn with hn;subst hn;exact d s f a
def bnd{b c:Type}{x:Option b}{k:b->Option c}{r:c}(h:x.bind k=some r): ∃a,x=some a/\k a=some r:=by
 cases x with
 |none=>cases h
 |some a=>exact⟨a,rfl,h⟩
abbrev Qy(n:Nat)(α:Type):=Fin n->α
def Qy.all{n:Nat}{α:Type}(x:α):Qy n α:=λ_=>x
def Z5{α:Type}(n:Nat)(e:Rz α)(a:Qy n α):List AW:=(List.finRange n).flatMap λi=>(e.f (a i)).cells
def vq{b:Type}(n:Nat)(e:Rz b)(a:Qy n b):(Z5 n e a).length=n*e.sz:=by
 unfold Z5;have: ∀l:List (Fin n),(l.flatMap λi=>(e.f (a i)).cells).length=l.length*e.sz:=by
  intro l;induction l with
  |nil=>simp
  |cons x l c=>rw[Es,Ad,c,e.len];simp[EJ,Z2]
 rw[this,List.length_finRange]
def Ky{α:Type}{n:Nat}(a:Qy n α)(i:Int):Option α:=if h:0<=i/\i.toNat<n then some (a ⟨i.toNat,h.2⟩)else none
def fg{α:Type}{n:Nat}(a:Qy n α)(i:Int)(v:α):Qy n α:=λj=>if(j.val:Int)=i then v else a j
def iQ{c:Type}{n:Nat}{a:Qy n c}{i:Int}{x:c}(h:Ky a i=some x):0<=i/\ ∃k:Fin n,i=(k.val:Int)/\a k=x:=by
 unfold Ky at h;split at h
 ·rename_i b;exact⟨b.1,⟨i.toNat,b.2⟩,(Int.toNat_of_nonneg b.1).symm,C2 h⟩
 ·cases h
def lj{a d:Type}(g:a→List d)(sz:Nat)(b: ∀x,(g x).length=sz)(l1:List a)(x:a)(l2:List a):
  (l1++x::l2).flatMap g=l1.flatMap g++g x++l2.flatMap g/\(l1.flatMap g).length=l1.length*sz:=by
 refine⟨by simp,?_⟩;induction l1 with
 |nil=>simp
 |cons y l c=>rw[Es,Ad,c,b];simp[EJ,Z2]
def lf{n:Nat}(k:Fin n): ∃l1 l2,List.finRange n=l1++k::l2/\l1.length=k.val/\k∉l1/\k∉l2:=by
 refine⟨(List.finRange n).take k.val,(List.finRange n).drop (k.val+1),?_,by simp[Nat.le_of_lt k.isLt],?_,?_⟩
 ·have b:(List.finRange n).drop k.val=k::(List.finRange n).drop (k.val+1):=by rw[U3 (by simp)];simp
  rw[<-b,FG]
 ·intro h;obtain⟨i,a,e⟩:=PE.1 h;simp at a e;have:=congrArg Fin.val e;simp at this;omega
 ·intro h;obtain⟨i,a,e⟩:=PE.1 h;simp at a e;have:=congrArg Fin.val e;simp at this;omega
def lO{l:Type}{n:Nat}(e:Rz l)(a:Qy n l)(k:Fin n): ∃c d,Z5 n e a=c++(e.f (a k)).cells++d∧c.length=k.val*e.sz∧
  ∀v,Z5 n e (fg a k.val v)=c++(e.f v).cells++d:=by
 obtain⟨l1,l2,o,r,s,t⟩:=lf k;unfold Z5;rw[o];obtain⟨p,q⟩:=lj (λi=>(e.f (a i)).cells) e.sz (λi=>e.len _) l1 k l2;refine⟨_,_,p,by rw[q,r],λv=>?_⟩;have g: ∀j,j≠k->fg a k.val v j=a j:=by intro j b;unfold fg;rw[if_neg];intro h;exact b (Fin.ext (by omega))
 have m:fg a k.val v k=v:=by unfold fg;rw[if_pos rfl]
 rw[(lj (λi=>(e.f (fg a k.val v i)).cells) e.sz (λi=>e.len _) l1 k l2).1];rw[m];congr 1
 ·congr 1;rw[dy,dy];congr 1;exact Fe λj b=>by rw[g j λe=>s (e▸b)]
 ·rw[dy,dy];congr 1;exact Fe λj b=>by rw[g j λe=>t (e▸b)]
section
variable {α:Type} {n:Nat} (e:Rz α) {a:Qy n α} {i:Int} {x:α}
def vr(h:Ky a i=some x)(c b:List AW):(c++Z5 n e a++b).length=c.length+n*e.sz+b.length∧c.length+i.toNat*e.sz+e.sz≤(c++Z5 n e a++b).length∧
  ((c++Z5 n e a++b).drop (c.length+i.toNat*e.sz)).take e.sz=(e.f x).cells/\ ∀v,T4 (c++Z5 n e a++b) (c.length+i.toNat*e.sz) (e.f v).cells=c++Z5 n e (fg a i v)++b:=by
 obtain⟨s,k,rfl,rfl⟩:=iQ h;obtain⟨g,j,l,m,q⟩:=lO e a k;have o:((k.val:Int)).toNat=k.val:=by simp
 have d:=vq n e a;have p:=e.len (a k);refine⟨by simp[d,PH],?_,?_,λv=>?_⟩
 ·rw[l,o];simp only[Ad,m,p];omega
 ·rw[l,o,<-m];have:(c++(g++(e.f (a k)).cells++j)++b)=(c++g)++((e.f (a k)).cells++(j++b)):=by simp
  rw[this,<-Ad,Jv,<-p,TK]
 ·have r:=e.len v;rw[q v,l,o,<-m];have:(c++(g++(e.f (a k)).cells++j)++b)=(c++g)++((e.f (a k)).cells++(j++b)):=by simp
  rw[this];unfold T4;rw[<-Ad,TK,r,<-p,YU,dx (by omega)];simp
def vk{off m:Nat}(c b:List AW)(h:Ky a i=some x)(g:off+m<=e.sz):c.length+i.toNat*e.sz+off+m<=(c++Z5 n e a++b).length/\((c++Z5 n e a++b).drop (c.length+i.toNat*e.sz+off)).take m=((e.f x).cells.drop off).take m:=by obtain⟨_,j,d,_⟩:=vr e h c b;refine⟨by omega,?_⟩;rw[<-d,List.drop_take,List.take_take,LM,Nat.min_eq_left (by omega)]
end
def sapp(a b:Bf):Option Bf:=if a.length+b.length<=9223372036854775807 then some (a++b)else none
def AAh{a b r:Bf}(h:sapp a b=some r):(if a.length+b.length<=9223372036854775807 then some (AW.str (a++b))else none)=some (.str r):=by
 unfold sapp at h;split at h
 ·rename_i c;rw[if_pos c,C2 h]
 ·cases h
def Ry(s:Bf)(lo hi:Int):Option Bf:=if 0<=lo/\lo<=hi/\hi<=s.length then some ((s.drop lo.toNat).take (hi.toNat-lo.toNat))else none
def Zm{α:Type}(s:List α)(lo hi:Int):Option (List α):=if 0<=lo/\lo<=hi/\hi<=s.length then some ((s.drop lo.toNat).take (hi.toNat-lo.toNat))else none
def GA(l:List Int):Bf:=l.map λn=>UInt8.ofNat n.toNat
def pQ: ∀l:List Int,zY (l.map (od .u8).f)=some (GA l)
 |[]=>rfl
 |n::l=>by have:=pQ l;simp only[BE];simp only[od]at this⊢;simp only[zY,this];rfl
def AAQ(k:IntKind)(l:List Int):(od k).cl l=l.map (od k).f:=by
 unfold Rz.cl;induction l with
 |nil=>rfl
 |cons x l a=>simp only[BE,Es,a];rfl
def wy{P:Program}{H:Aq}{b a:TypeId}(l:List Int)(c:kd P a= .str)(d:kd P b= .bytes):
  UW P H b a (.vs 1 (l.map (od .u8).f))=some (.str (GA l)):=by
 simp only[UW,c,d,rowsOf];have:(l.map (od .u8).f).flatMap AW.cells=l.map (od .u8).f:=AAQ .u8 l;simp only[this,if_true,pQ];rfl
def sF{S R:Type}{body:S->Option (Step S R)}{C:S->R->Prop}(h: ∀s q,body s=some q->match q with| .next d=> ∀o,C d o->C s o| .done o=>C s o){s:S}{o:R}(b:Ae body s=some o):C s o:=uu C (λs _ r a c=>h s _ a r c) (λs _ a=>h s _ a) b
def mk{α:Type}(x:α)(l c:Int):Option (List α):=if 0<=l/\l<=c/\c<=16777216 then some (List.replicate l.toNat x)else none
def ACA{a:Type}(e:Rz a)(x:a){l c:Int}{r:List a}(h:mk x l c=some r):(0<=l/\l<=c/\c<=16777216)/\l.toNat=r.length/\(List.replicate l.toNat (e.f x).cells).flatten=e.cl r:=by
 unfold mk at h;split at h
 ·rename_i b;injection h with h;subst h;refine⟨b,by simp,?_⟩;unfold Rz.cl;induction l.toNat with
  |zero=>rfl
  |succ n d=>simp only[TH,TQ,BE,Es,d]
 ·cases h
def Qx(s:Bf):List Int:=s.map λb=>(b.toNat:Int)
def ABU(s:Bf):s.length=(Qx s).length/\fF s=(od .u8).cl (Qx s):=by
 refine⟨by simp[Qx],?_⟩;unfold Rz.cl Qx fF;induction s with
 |nil=>rfl
 |cons b r a=>simp only[BE,Es,a];rfl
def six(s:Bf)(i:Int):Option Int:=if 0<=i then(s[i.toNat]?).map λb=>(b.toNat:Int)else none
def ABT{P:Program}{t:TypeId}{s:Bf}{k:IntKind}{i x:Int}(h:six s i=some x)(d:kd P t= .str):db P t (.str s) (.int k i)=some (.int .u8 x):=by
 unfold six at h;split at h
 ·rename_i c;simp only[db];rw[if_pos ⟨d,c⟩];cases a:s[i.toNat]? with
  |none=>rw[a]at h;cases h
  |some b=>rw[a]at h;simp only[BB,AV]at h⊢;rw[h]
 ·cases h
def lV{g:Type}(e:Rz g){l:List g}{i:Int}{x:g}(h:ix l i=some x): ∃d j,e.cl l=d++(e.f x).cells++j/\d.length=i.toNat*e.sz/\0<=i/\i.toNat<l.length/\l[i.toNat]? =some x/\ ∀v,e.cl (l.set i.toNat v)=d++(e.f v).cells++j:=by
 unfold ix at h;split at h
 case isFalse=>cases h
 rename_i k;obtain⟨c,n⟩:=Pf.1 h;have m:l=l.take i.toNat++x::l.drop (i.toNat+1):=by rw[<-n,<-U3 c,FG]
 have b: ∀v,l.set i.toNat v=l.take i.toNat++v::l.drop (i.toNat+1):=λv=>by rw[List.set_eq_take_append_cons_drop,if_pos c]
 have a: ∀v,e.cl (l.take i.toNat++v::l.drop (i.toNat+1))=e.cl (l.take i.toNat)++(e.f v).cells++e.cl (l.drop (i.toNat+1)):=λv=>by simp[Rz.cl]
 refine⟨e.cl (l.take i.toNat),e.cl (l.drop (i.toNat+1)),?_,?_,k,c,h,λv=>by rw[b,a]⟩
 ·conv=>lhs;rw[m]
  exact a x
 ·rw[e.clen,Cn,Nat.min_eq_left (Nat.le_of_lt c)]
def BZ{α:Type}(l:List α)(i:Int)(v:α):List α:=l.set i.toNat v
def Pa{a:Type}{l:List a}{i:Int}{v:a}{n:Nat}(h:l.length=n):(BZ l i v).length=n:=by rw[<-h];exact Zw
section
variable {α:Type} (e:Rz α) {l:List α} {i:Int} {x:α}
def AAM{a m:Nat}(h:ix l i=some x)(g:a+m<=e.sz):i.toNat*e.sz+a+m<=(e.cl l).length/\((e.cl l).drop (i.toNat*e.sz+a)).take m=((e.f x).cells.drop a).take m:=by obtain⟨j,k,c,d,_⟩:=lV e h;have b:=e.len x;rw[c,<-d];refine⟨by simp only[Ad,b];omega,?_⟩;rw[Ax,YU,dx (by omega),CA,VJ,YU,fV,Fc,b,show m-(e.sz-a)=0 by omega];simp
end
open Go.RowKit
mutual
def AW.beq:AW->AW->Bool
 | .bool a,.bool b=>a==b
 | .int k n,.int k' n'=>decide (k=k')&&decide (n=n')
 | .str s,.str t=>decide (s=t)
 | .nilp,.nilp=>true
 | .nils,.nils=>true
 | .nilf,.nilf=>true
 | .ptr a b c,.ptr a' b' c'=>decide (a=a')&&(decide (b=b')&&decide (c=c'))
 | .vptr cs,.vptr ds=>AW.beqL cs ds
 | .vs a cs,.vs b ds=>decide (a=b)&&AW.beqL cs ds
 | .sl a b c d e,.sl a' b' c' d' e'=>decide (a=a')&&(decide (b=b')&&(decide (c=c')&&(decide (d=d')&&decide (e=e'))))
 | .agg cs,.agg ds=>AW.beqL cs ds
 | .tup cs,.tup ds=>AW.beqL cs ds
 |_,_=>false
def AW.beqL:List AW->List AW->Bool
 |[],[]=>true
 |a::r,b::s=>AW.beq a b&&AW.beqL r s
 |_,_=>false
end
mutual
theorem beq_eq: ∀(a b:AW),AW.beq a b=true->a=b
 | .bool a,b,h=>by cases b<;>simp[AW.beq]at h;rw[h]
 | .int k n,b,h=>by cases b<;>simp[AW.beq]at h;rw[h.1,h.2]
 | .str s,b,h=>by cases b<;>simp[AW.beq]at h;rw[h]
 | .nilp,b,h=>by cases b<;>simp[AW.beq]at h;rfl
 | .nils,b,h=>by cases b<;>simp[AW.beq]at h;rfl
 | .nilf,b,h=>by cases b<;>simp[AW.beq]at h;rfl
 | .ptr _ _ _,b,h=>by cases b<;>simp[AW.beq]at h;rw[h.1,h.2.1,h.2.2]
 | .vptr cs,b,h=>by cases b<;>simp[AW.beq]at h;rw[Z6 cs _ h]
 | .vs a cs,b,h=>by cases b<;>simp[AW.beq]at h;rw[h.1,Z6 cs _ h.2]
 | .sl _ _ _ _ _,b,h=>by cases b<;>simp[AW.beq]at h;rw[h.1,h.2.1,h.2.2.1,h.2.2.2.1,h.2.2.2.2]
 | .agg cs,b,h=>by cases b<;>simp[AW.beq]at h;rw[Z6 cs _ h]
 | .tup cs,b,h=>by cases b<;>simp[AW.beq]at h;rw[Z6 cs _ h]
 | .fn _ _ _,b,h=>by cases b<;>simp[AW.beq]at h
 | .yf _,b,h=>by cases b<;>simp[AW.beq]at h
 | .mp _,b,h=>by cases b<;>simp[AW.beq]at h
 | .itp _ _,b,h=>by cases b<;>simp[AW.beq]at h
 | .any,b,h=>by cases b<;>simp[AW.beq]at h
theorem Z6: ∀(a b:List AW),AW.beqL a b=true->a=b
 |[],b,h=>by cases b<;>simp[AW.beqL]at h;rfl
 |x::r,b,h=>by
  cases b with
  |nil=>simp[AW.beqL]at h
  |cons y s=>simp only[AW.beqL,BM]at h;rw[beq_eq x y h.1,Z6 r s h.2]
end
mutual
inductive Ty where
 |bool
 |int (k:IntKind)
 |str
 |list (t:Ty)
 |arr (n:Nat) (t:Ty)
 |prod (ts:QL)
inductive QL where
 |one (t:Ty)
 |cons (t:Ty) (ts:QL)
end
mutual
@[reducible] def Ty.D:Ty->Type
 | .bool=>Bool
 | .int _=>Int
 | .str=>List UInt8
 | .list t=>List t.D
 | .arr n t=>Qy (n+1) t.D
 | .prod ts=>ts.D
@[reducible] def QL.D:QL->Type
 | .one t=>t.D
 | .cons t ts=>t.D×ts.D
end
mutual
def Ty.sz:Ty->Nat
 | .bool=>1
 | .int _=>1
 | .str=>1
 | .list _=>1
 | .arr n t=>(n+1)*t.sz
 | .prod ts=>ts.sz
def QL.sz:QL->Nat
 | .one t=>t.sz
 | .cons t ts=>t.sz+ts.sz
end
mutual
def Ty.enc:(t:Ty)->t.D->AW
 | .bool,b=>.bool b
 | .int k,n=>.int k n
 | .str,s=>.str s
 | .list t,l=>.vs t.sz (l.map t.enc)
 | .arr n t,a=>.agg ((List.finRange (n+1)).flatMap λi=>(t.enc (a i)).cells)
 | .prod ts,x=>.agg (ts.cells x)
def QL.cells:(ts:QL)->ts.D->List AW
 | .one t,x=>(t.enc x).cells
 | .cons t ts,x=>(t.enc x.1).cells++ts.cells x.2
end
mutual
theorem Ty.sz_pos: ∀t:Ty,0<t.sz
 | .bool=>by decide
 | .int _=>by simp[Ty.sz]
 | .str=>by decide
 | .list _=>by simp[Ty.sz]
 | .arr n t=>by simp only[Ty.sz];exact Nat.mul_pos (Nat.succ_pos n) t.sz_pos
 | .prod a=>by simp only[Ty.sz];exact a.sz_pos
theorem QL.sz_pos: ∀a:QL,0<a.sz
 | .one t=>by simp only[QL.sz];exact t.sz_pos
 | .cons t a=>by simp only[QL.sz];have:=t.sz_pos;omega
end
mutual
theorem Ty.enc_len: ∀(t:Ty) (x:t.D),(t.enc x).cells.length=t.sz
 | .bool,_=>rfl
 | .int _,_=>rfl
 | .str,_=>rfl
 | .list _,_=>rfl
 | .arr n t,a=>by
  show((List.finRange (n+1)).flatMap λi=>(t.enc (a i)).cells).length=(n+1)*t.sz;have: ∀l:List (Fin (n+1)),(l.flatMap λi=>(t.enc (a i)).cells).length=l.length*t.sz:=by
   intro l;induction l with
   |nil=>simp
   |cons x l b=>rw[Es,Ad,b,t.enc_len];simp[EJ,Z2]
  rw[this,List.length_finRange]
 | .prod ts,x=>ts.cells_len x
theorem QL.cells_len: ∀(a:QL) (x:a.D),(a.cells x).length=a.sz
 | .one t,x=>by simp only[QL.cells,QL.sz];exact t.enc_len x
 | .cons t a,x=>by simp only[QL.cells,QL.sz,Ad];rw[t.enc_len,a.cells_len]
end
mutual
theorem Ty.enc_pure: ∀(t:Ty) (x:t.D),Pure (t.enc x)
 | .bool,_=>rfl
 | .int _,_=>rfl
 | .str,_=>rfl
 | .list t,l=>by unfold Pure;show AW.idsAllL _ (l.map t.enc)=true;rw[De];intro v b;obtain⟨x,_,rfl⟩:=BX.1 b;exact t.enc_pure x
 | .arr n t,a=>by unfold Pure;show AW.idsAllL _ ((List.finRange (n+1)).flatMap λi=>(t.enc (a i)).cells)=true;rw[De];intro v b;obtain⟨i,_,b⟩:=HW.1 b;exact SY (t.enc_pure _) v b
 | .prod ts,x=>by unfold Pure;show AW.idsAllL _ (ts.cells x)=true;rw[De];exact ts.cells_pure x
theorem QL.cells_pure: ∀(b:QL) (x:b.D),∀v∈b.cells x,Pure v
 | .one t,x,v,a=>SY (t.enc_pure x) v a
 | .cons t b,x,v,a=>by
  simp only[QL.cells,Ar]at a;rcases a with a|a
  ·exact SY (t.enc_pure _) v a
  ·exact b.cells_pure _ v a
end
def Ty.E(t:Ty):Rz t.D:=⟨t.sz,t.enc,t.sz_pos,t.enc_len,t.enc_pure⟩
mutual
def Ty.beq:Ty->Ty->Bool
 | .bool,.bool=>true
 | .int k,.int k'=>decide (k=k')
 | .str,.str=>true
 | .list t,.list t'=>t.beq t'
 | .arr n t,.arr n' t'=>Nat.beq n n'&&t.beq t'
 | .prod ts,.prod ts'=>ts.beq ts'
 |_,_=>false
def QL.beq:QL->QL->Bool
 | .one t,.one t'=>t.beq t'
 | .cons t ts,.cons t' ts'=>t.beq t'&&ts.beq ts'
 |_,_=>false
end
mutual
theorem Ty.beq_eq: ∀(t a:Ty),t.beq a=true->t=a
 | .bool,a,h=>by cases a<;>simp[Ty.beq]at h;rfl
 | .int k,a,h=>by cases a<;>simp[Ty.beq]at h;rw[h]
 | .str,a,h=>by cases a<;>simp[Ty.beq]at h;rfl
 | .list t,a,h=>by cases a<;>simp[Ty.beq]at h;rw[t.beq_eq _ h]
 | .arr n t,a,h=>by cases a<;>simp[Ty.beq]at h;rw[h.1,t.beq_eq _ h.2]
 | .prod ts,a,h=>by cases a<;>simp[Ty.beq]at h;rw[ts.beq_eq _ h]
theorem QL.beq_eq: ∀(t a:QL),t.beq a=true->t=a
 | .one t,a,h=>by cases a<;>simp[QL.beq]at h;rw[t.beq_eq _ h]
 | .cons t ts,a,h=>by cases a<;>simp[QL.beq]at h;rw[t.beq_eq _ h.1,ts.beq_eq _ h.2]
end
def Ty.cast{t t':Ty}(h:t.beq t'=true)(x:t.D):t'.D:=Ty.beq_eq t t' h▸x
def ZG{t a:Ty}(h:t.beq a=true)(x:t.D):a.enc (Ty.cast h x)=t.enc x:=by have:=Ty.beq_eq t a h;subst this;rfl
mutual
def Ty.zero:(t:Ty)->t.D
 | .bool=>false
 | .int _=>(0:Int)
 | .str=>([]:List UInt8)
 | .list t=>([]:List t.D)
 | .arr n t=>(Qy.all t.zero:Qy (n+1) t.D)
 | .prod ts=>ts.zero
def QL.zero:(ts:QL)->ts.D
 | .one t=>t.zero
 | .cons t ts=>(t.zero,ts.zero)
end
inductive Bd where
 |bl (b:Bool)
 |it (k:IntKind) (n:Int)
 |st (s:List UInt8)
 |ls (t:Ty) (l:List t.D)
 |ar (n:Nat) (t:Ty) (a:Qy (n+1) t.D)
 |own (id ver:Nat) (t:Ty) (n:Nat)
 |nil
 |raw (v:AW)
def Bd.w:Bd->Nat
 | .ar n t _=>(n+1)*t.sz
 |_=>1
def Bd.enc:Bd->List AW
 | .bl b=>[.bool b]
 | .it k n=>[.int k n]
 | .st s=>[.str s]
 | .ls t l=>[.vs t.sz (l.map t.enc)]
 | .ar n t a=>((Ty.arr n t).enc a).cells
 | .own id _ t n=>[.sl id n t.sz 0 n]
 | .nil=>[.nils]
 | .raw v=>[v]
def Bd.one:Bd->AW
 | .bl b=>.bool b
 | .it k n=>.int k n
 | .st s=>.str s
 | .ls t l=>.vs t.sz (l.map t.enc)
 | .ar n t a=>(Ty.arr n t).enc a
 | .own id _ t n=>.sl id n t.sz 0 n
 | .nil=>.nils
 | .raw v=>v
def lvs(cs:List Bd):List AW:=cs.flatMap Bd.enc
def Bd.enc_len(x:Bd):x.enc.length=x.w:=by
 cases x with
 |ar n t a=>exact Ty.enc_len (.arr n t) a
 |_=>rfl
inductive TV where
 |c (x:Bd)
 |g (cs:List Bd)
 |aptr (id base n:Nat) (t:Ty) (i:Int) (off:Nat)
 |bptr (id ver:Nat) (t:Ty) (n:Nat) (i:Int) (off:Nat)
 |vptr (cs:List Bd) (post:List AW)
 |tup (vs:List TV)
mutual
def TV.enc:TV->AW
 | .c x=>x.one
 | .g cs=>.agg (lvs cs)
 | .aptr id base _ t i off=>.ptr id 0 (base+i.toNat*t.sz+off)
 | .bptr id _ t n i off=>.ptr id n (i.toNat*t.sz+off)
 | .vptr cs post=>.vptr (lvs cs++post)
 | .tup vs=>.tup (TV.encL vs)
def TV.encL:List TV->List AW
 |[]=>[]
 |v::r=>v.enc::TV.encL r
end
def lY: ∀l:List TV,TV.encL l=l.map TV.enc
 |[]=>rfl
 |v::r=>by simp only[TV.encL,BE,lY r]
abbrev BY:=List (Nat×TV)
inductive LS where
 |ready
 |busy
 |ret
 |exit (x:Nat)
def LS.st:LS->LoopState
 | .ready=>.ready
 | .busy=>.busy
 |_=>.done
def LS.pend:LS->Option Code
 | .ret=>some .ret
 | .exit x=>some (.exit x)
 |_=>none
def LS.beq:LS->LS->Bool
 | .ready,.ready=>true
 | .busy,.busy=>true
 | .ret,.ret=>true
 | .exit x,.exit y=>Nat.beq x y
 |_,_=>false
def LS.beq_eq{a b:LS}(h:a.beq b=true):a=b:=by cases a<;>cases b<;>simp only[LS.beq]at h<;>first|rfl|cases h|rw[Ba h]
inductive Df where
 |dead
 |live (ro:Bool) (cs:List Bd)
 |buf (ro:Bool) (t:Ty) (l:List t.D) (n ver:Nat)
 |lp (ro:Bool) (F:FuncId) (n:Nat) (env:BY) (ps:Array Tmp) (a b:Code) (s:LS)
 |mp (ro:Bool) (k:IntKind) (t:Ty) (es:List (Int×t.D))
abbrev An:=List Df
def Bw(env:BY):Env:=env.map λp=>(p.1,p.2.enc)
def Df.enc:Df->EM
 | .dead=>.dead
 | .live _ cs=>.live 0 (lvs cs)
 | .buf _ t l n _=>.live n (t.E.cl l)
 | .lp _ _ n env ps a b s=>.lp ⟨n,Bw env,ps,a,b,s.st,s.pend⟩
 | .mp _ k t es=>.mp k (es.map λp=>(p.1,t.enc p.2))
def A3(H:An):Aq:=H.map Df.enc
def Sq:TV:=.c (.raw .any)
def BY.get:BY->Nat->TV
 |[],_=>Sq
 |(k,v)::r,t=>match Nat.beq k t with|true=>v|false=>BY.get r t
def BY.del(t:Nat):BY->BY
 |[]=>[]
 |(k,v)::r=>match Nat.beq k t with|true=>BY.del t r|false=>(k,v)::BY.del t r
def BY.put(env:BY)(t:Nat)(v:TV):BY:=(t,v)::BY.del t env
def BY.putO(env:BY):Option Nat->TV->BY
 |some t,v=>env.put t v
 |none,_=>env
def beq_false{a b:Nat}(h:a≠b):Nat.beq a b=false:=by
 cases c:Nat.beq a b with
 |false=>rfl
 |true=>exact absurd (Ba c) h
def SB(env:BY)(t:Nat):(Bw env).get t=(env.get t).enc:=by
 induction env with
 |nil=>simp[Bw,Env.get,BY.get,Sq,TV.enc,Bd.one]
 |cons p r a=>
  obtain⟨k,v⟩:=p;simp only[Bw,BE,Env.get,BY.get]at a⊢;by_cases h:k=t
  ·subst h;rw[if_pos rfl,Ds]
  ·rw[if_neg h,beq_false h];exact a
def wM(env:BY)(t:Nat):Bw (BY.del t env)=(Bw env).filter λp=>decide (p.1≠t):=by
 induction env with
 |nil=>rfl
 |cons p r a=>
  obtain⟨k,v⟩:=p;simp only[BY.del,Bw,BE]at a⊢;by_cases h:k=t
  ·subst h;rw[Ds,ik (by simp)];exact a
  ·rw[beq_false h,il (by simpa using h)];simp only[BE];rw[a]
def gh(env:BY)(t:Nat)(v:TV):Bw (env.put t v)=(Bw env).put t v.enc:=by simp only[BY.put,Env.put,<-wM];rfl
def U5(env:BY)(t:Option Nat)(v:TV):Bw (env.putO t v)=(Bw env).putO t v.enc:=by
 cases t with
 |none=>rfl
 |some t=>exact gh env t v
def wI:Value->Bd
 | .bool b=>.bl b
 | .int k n=>.it k n
 | .string s=>.st s.data.toList
 | .pointer none=>.raw .nilp
 | .slice none 0 0=>.nil
 | .nilFunc=>.raw .nilf
 |_=>.raw .any
def cvT:Value->TV
 | .agg cs=>match cs.toList.all (·.oneCell')with|true=>.g (cs.toList.map wI)|false=>Sq
 |v=>.c (wI v)
def pw(v:Value):(wI v).one=jz v:=by
 cases v with
 |pointer p=>cases p<;>rfl
 |slice a l c=>
  cases a with
  |some _=>rfl
  |none=>
   match l,c with
   |0,0=>rfl
   |0,_+1=>rfl
   |_+1,_=>rfl
 |_=>rfl
def wJ(v:Value):(wI v).enc=[jz v]:=by
 cases v with
 |pointer p=>cases p<;>rfl
 |slice a l c=>
  cases a with
  |some _=>rfl
  |none=>
   match l,c with
   |0,0=>rfl
   |0,_+1=>rfl
   |_+1,_=>rfl
 |_=>rfl
def yU(v:Value):(cvT v).enc=ub v:=by
 cases v with
 |agg b=>
  simp only[cvT,ub];cases h:b.toList.all (·.oneCell')with
  |false=>simp[Sq,TV.enc,Bd.one]
  |true=>
   simp only[TV.enc,if_true,lvs,AW.agg.injEq];clear h;induction b.toList with
   |nil=>rfl
   |cons x r d=>simp only[BE,Es,wJ,d];rfl
 |pointer p=>exact pw (.pointer p)
 |slice a l c=>exact pw (.slice a l c)
 |_=>rfl
def Ij(env:BY):Operand->TV
 | .tmp t=>env.get t
 | .const v=>cvT v
 | .global _=>Sq
 | .func f=>.c (.raw (.fn (.func f) [] []))
def KO(env:BY)(x:Operand):A8 (Bw env) x=(Ij env x).enc:=by
 cases x with
 |tmp t=>exact SB env t
 |const v=>exact(yU v).symm
 |global _=>rfl
 |func f=>rfl
def Tf:List Bd->Nat->Option (List Bd×List Bd)
 |ls,0=>some ([],ls)
 |[],_+1=>none
 |x::r,n+1=>
  match Nat.ble x.w (n+1)with
  |true=>match Tf r (n+1-x.w)with|some (a,b)=>some (x::a,b)|none=>none
  |false=>none
mutual
def Ty.lvs:(t:Ty)->t.D->List Bd
 | .bool,b=>[.bl b]
 | .int k,n=>[.it k n]
 | .str,s=>[.st s]
 | .list t,l=>[.ls t l]
 | .arr n t,a=>[.ar n t a]
 | .prod ts,x=>ts.lvs x
def QL.lvs:(ts:QL)->ts.D->List Bd
 | .one t,x=>t.lvs x
 | .cons t ts,x=>t.lvs x.1++ts.lvs x.2
end
def Bd.scalar:Bd->Bool
 | .ar .. =>false
 | .raw (.agg _)=>false
 |_=>true
def part(P:Program)(t:TypeId)(cs:List Bd)(off:Nat):Option TV:=
 match Tf cs off with
 |some (_,r)=>
  match tI P t with
  |some (true,n)=>match Tf r n with|some (a,_)=>some (.g a)|none=>none
  |some (false,_)=>match r with|x::_=>(match x.scalar with|true=>some (.c x)|false=>none)|[]=>none
  |none=>none
 |none=>none
section
variable {R:Type}
def xo(o:Option TV)(k:TV->Option R):Option R:=
 match o with
 |some v=>k v
 |none=>none
def vp(cs:List Bd)(base n:Nat)(t:Ty):Option (Qy (n+1) t.D):=
 match Tf cs base with
 |some (_,.ar n' t' a::_)=>if h:(Ty.arr n' t').beq (Ty.arr n t)=true then some (Ty.cast h a)else none
 |_=>none
def cn(H:An)(id ver:Nat)(t:Ty):Option (List t.D):=
 match H[id]? with
 |some (.buf _ t' l _ ver')=>match Nat.beq ver ver' with|true=>(if h:(Ty.list t').beq (Ty.list t)=true then some (Ty.cast h l)else none)|false=>none
 |_=>none
def UT(H:An)(id:Nat):Option (List Bd):=
 match H[id]? with
 |some (.live _ cs)=>some cs
 |_=>none
def loadT(P:Program)(H:An)(t:TypeId)(v:TV)(k:TV->Option R):Option R:=
 match v with
 | .c (.raw (.ptr id 0 off))=>match UT H id with|some cs=>xo (part P t cs off) k|none=>none
 | .vptr cs _=>xo (part P t cs 0) k
 | .aptr id base n te i off=>
  match UT H id with
  |some cs=>match vp cs base n te with|some a=>(Ky a i).bind λe=>xo (part P t (te.lvs e) off) k|none=>none
  |none=>none
 | .bptr id ver te _ i off=>match cn H id ver te with|some l=>(ix l i).bind λe=>xo (part P t (te.lvs e) off) k|none=>none
 |_=>none
def vU:AW->TV
 | .bool b=>.c (.bl b)
 | .int k n=>.c (.it k n)
 | .str s=>.c (.st s)
 |v=>.c (.raw v)
def okA(o:Option AW)(k:TV->Option R):Option R:=
 match o with
 |some v=>k (vU v)
 |none=>none
def eqT(as bs:List Bd):Bool:=mv (lvs as) (lvs bs)
def AAN(P:Program)(op:BinOp)(t:TypeId)(x y:TV)(k:TV->Option R):Option R:=
 match x,y with
 | .c (.it kx a),.c (.it ky b)=>
  match op with
  | .shl=>cond (decide (b<0)) none (k (.c (.it kx (kx.wrap (a*2^min b.toNat kx.bits)))))
  | .shr=>cond (decide (b<0)) none (k (.c (.it kx (a.fdiv (2^min b.toNat kx.bits)))))
  | .quo=>if kx=ky then cond (b==0) none (k (.c (.it kx (kx.wrap (a.tdiv b)))))else none
  | .rem=>if kx=ky then cond (b==0) none (k (.c (.it kx (a.tmod b))))else none
  |op=>if kx=ky then okA (fi op kx a b) k else none
 | .c (.bl a),.c (.bl b)=>
  match op with
  | .eql=>if kd P t= .bool then k (.c (.bl (a==b)))else none
  | .neq=>if kd P t= .bool then k (.c (.bl (!(a==b))))else none
  |_=>none
 | .c (.st a),.c (.st b)=>
  match op with
  | .add=>(sapp a b).bind λs=>k (.c (.st s))
  |op=>okA (oP op a b) k
 | .g as,.g bs=>
  match wA P t with
  |some ks=>
   if typed ks (lvs as)=true/\typed ks (lvs bs)=true then
    match op with
    | .eql=>k (.c (.bl (eqT as bs)))
    | .neq=>k (.c (.bl (!eqT as bs)))
    |_=>none
   else none
  |none=>none
 |_,_=>none
def unT(op:UnOp)(v:TV)(k:TV->Option R):Option R:=
 match v with
 | .c x=>okA (unV op x.one) k
 |_=>none
def wF(P:Program)(H:An)(src dst:TypeId)(v:TV)(k:TV->Option R):Option R:=
 match v with
 | .c (.ls (.int .u8) l)=>if kd P dst= .str/\kd P src= .bytes then k (.c (.st (GA l)))else none
 | .c (.own id ver (.int .u8) _)=>if kd P dst= .str/\kd P src= .bytes then(match cn H id ver (.int .u8)with|some l=>k (.c (.st (GA l)))|none=>none)else none
 | .c (.it kk n)=>okA (UW P [] src dst (.int kk n)) k
 | .c (.st s)=>okA (UW P [] src dst (.str s)) k
 |_=>none
def ft(P:Program)(H:An)(s f:Nat)(v:TV)(k:TV->Option R):Option R:=
 match fI P s f with
 |some (off,_,n)=>
  match Nat.beq n 0 with
  |true=>none
  |false=>
   match v with
   | .c (.raw (.ptr id 0 o))=>match UT H id with|some _=>k (.c (.raw (.ptr id 0 (o+off))))|none=>none
   | .vptr cs post=>match Tf cs off with|some (_,r)=>k (.vptr r post)|none=>none
   | .aptr id base n te i o=>match UT H id with|some _=>k (.aptr id base n te i (o+off))|none=>none
   | .bptr id ver te n i o=>match cn H id ver te with|some _=>k (.bptr id ver te n i (o+off))|none=>none
   |_=>none
 |none=>none
def rj(P:Program)(s f:Nat)(v:TV)(k:TV->Option R):Option R:=
 match fI P s f,v with
 |some (off,t,_),.g cs=>xo (part P t cs off) k
 |_,_=>none
def fx(P:Program)(H:An)(t:TypeId)(v i:TV)(k:TV->Option R):Option R:=
 match i with
 | .c (.it _ i)=>
  match eI P t with
  |some (some len,_,sz)=>
   match v with
   | .c (.raw (.ptr id 0 off))=>
    match UT H id with
    |some cs=>
     match Tf cs off with
     |some (_,.ar n te a::_)=>if len=n+1/\sz=te.sz then(Ky a i).bind λ_=>k (.aptr id off n te i 0)else none
     |_=>none
    |none=>none
   | .vptr (.ar n te a::r) post=>if len=n+1/\sz=te.sz then(Ky a i).bind λe=>k (.vptr (te.lvs e) ((((Ty.arr n te).enc a).cells.drop (i.toNat*te.sz+te.sz))++(lvs r++post)))else none
   |_=>none
  |some (none,_,sz)=>
   match v with
   | .c (.ls te l)=>if sz=te.sz then(ix l i).bind λe=>k (.vptr (te.lvs e) [])else none
   | .c (.own id ver te n)=>match cn H id ver te with|some l=>(if sz=te.sz then(ix l i).bind λ_=>k (.bptr id ver te n i 0)else none)|none=>none
   |_=>none
  |none=>none
 |_=>none
def oS(P:Program)(e:TypeId)(sz:Nat)(cs:List Bd)(i:Int)(k:TV->Option R):Nat->Nat->Option R
 |0,_=>none
 |m+1,j=>cond (decide (i=Int.ofNat j)) (xo (part P e cs (j*sz)) k) (oS P e sz cs i k m (j+1))
def sA(P:Program)(t:TypeId)(v i:TV)(k:TV->Option R):Option R:=
 match i with
 | .c (.it _ i)=>
  match v with
  | .g [.ar n te a]=>
   match eI P t with
   |some (some len,e,sz)=>if len=n+1/\sz=te.sz then(Ky a i).bind λx=>xo (part P e (te.lvs x) 0) k else none
   |_=>none
  | .g cs=>
   match eI P t with
   |some (some len,e,sz)=>match Nat.ble len 16 with|true=>oS P e sz cs i k len 0|false=>none
   |_=>none
  | .c (.st s)=>if kd P t= .str then(six s i).bind λb=>k (.c (.it .u8 b))else none
  |_=>none
 |_=>none
def uU(d:Int):Option TV->Option Int
 |none=>some d
 |some (.c (.it _ n))=>some n
 |_=>none
def ss(P:Program)(t:TypeId)(v:TV)(lo hi mx:Option TV)(k:TV->Option R):Option R:=
 match mx with
 |some _=>none
 |none=>
  match v with
  | .c (.st s)=>
   match uU 0 lo,uU s.length hi with
   |some l,some h=>if kd P t= .str then(Ry s l h).bind λx=>k (.c (.st x))else none
   |_,_=>none
  | .c (.ls te xs)=>
   match uU 0 lo,uU xs.length hi,eI P t with
   |some l,some h,some (none,_,sz)=>if sz=te.sz then(Zm xs l h).bind λx=>k (.c (.ls te x))else none
   |_,_,_=>none
  |_=>none
def AAc(P:Program)(H:An)(t:TypeId)(v:TV)(k:TV->Option R):Option R:=
 match P.underlying t,v with
 |some .string,.c (.st s)=>k (.c (.it .i64 s.length))
 |some (.array n _),_=>k (.c (.it .i64 n))
 |some (.slice _),.c (.ls _ l)=>k (.c (.it .i64 l.length))
 |some (.slice _),.c (.own id ver te n)=>match cn H id ver te with|some _=>k (.c (.it .i64 n))|none=>none
 |some (.slice _),.c .nil=>k (.c (.it .i64 0))
 |_,_=>none
def mmT(mx:Bool)(x y:TV)(k:TV->Option R):Option R:=
 match x,y with
 | .c (.it kx a),.c (.it _ b)=>k (.c (.it kx (if mx then(if b>a then b else a)else(if b<a then b else a))))
 |_,_=>none
def AAd(x y z:TV)(k:TV->Option R):Option R:=
 match x,y,z with
 | .c (.it kx a),.c (.it _ b),.c (.it _ c)=>k (.c (.it kx (if c<(if b<a then b else a)then c else(if b<a then b else a))))
 |_,_,_=>none
def TV.words:TV->Option (List Bd)
 | .c x=>match x.scalar&&x.one.solid with|true=>some [x]|false=>none
 | .g cs=>some cs
 |_=>none
mutual
def Ty.zlvs:(t:Ty)->List Bd
 | .bool=>[.bl false]
 | .int k=>[.it k 0]
 | .str=>[.st []]
 | .list _=>[.nil]
 | .arr n t=>[.ar n t (Qy.all t.zero)]
 | .prod ts=>ts.zlvs
def QL.zlvs:QL->List Bd
 | .one t=>t.zlvs
 | .cons t ts=>t.zlvs++ts.zlvs
end
mutual
def tA(P:Program):Nat->TypeId->Option Ty
 |0,_=>none
 |d+1,t=>
  match P.underlying t with
  |some .bool=>some .bool
  |some (.int k)=>some (.int k)
  |some .string=>some .str
  |some (.slice e)=>(tA P d e).map Ty.list
  |some (.array (n+1) e)=>(tA P d e).map (Ty.arr n)
  |some (.struct fs)=>(zw P d fs.toList).map Ty.prod
  |_=>none
def zw(P:Program):Nat->List Field->Option QL
 |0,_=>none
 |_+1,[]=>none
 |d+1,[f]=>(tA P d f.type).map QL.one
 |d+1,f::r=>match tA P d f.type,zw P d r with|some t,some ts=>some (.cons t ts)|_,_=>none
end
def ng:AW->Bd
 | .bool b=>.bl b
 | .int k n=>.it k n
 | .str s=>.st s
 |v=>.raw v
def mm(P:Program)(t:TypeId):Option (List Bd):=
 match WA P t with
 |some z=>
  match tA P 1000 t with
  |some ty=>match AW.beqL z (lvs ty.zlvs)with|true=>some ty.zlvs|false=>some (z.map ng)
  |none=>some (z.map ng)
 |none=>none
def vI(cs:List Bd)(off:Nat)(vs:List Bd)(n:Nat):Option (List Bd):=
 match Tf cs off with
 |some (a,r)=>match Tf r n with|some (_,b)=>some (a++(vs++b))|none=>none
 |none=>none
def xk:List Bd->Nat
 |[]=>0
 |x::r=>x.w+xk r
def qD(p:XC):List Bd->List (Nat×TV)->Option (List Bd)
 |cs,[]=>some cs
 |cs,(i,v)::r=>
  match p.at_ i,v.words with
  |some (off,size),some ws=>
   match Nat.beq (xk ws) size with
   |true=>match vI cs off ws size with|some cs'=>qD p cs' r|none=>none
   |false=>none
  |_,_=>none
def rW(P:Program)(t:TypeId)(parts:List (Nat×TV)):Option TV:=
 match mm P t,mW P t with
 |some z,some p=>(qD p z parts).map TV.g
 |_,_=>none
def mX:List TV->Option (List AW)
 |[]=>some []
 | .c x::r=>match x.scalar,mX r with|true,some l=>some (x.one::l)|_,_=>none
 |_=>none
def zE(P:Program)(env:BY)(H:An)(op:Op)(k:TV->Option R):Option R:=
 match op with
 | .move x| .assign x=>k (Ij env x)
 | .pick c a b=>match Ij env c with| .c (.bl t)=>cond t (k (Ij env a)) (k (Ij env b))|_=>none
 | .load t a=>loadT P H t (Ij env a) k
 | .nilCheck x=>
  match Ij env x with
  | .c (.raw (.ptr id 0 off))=>match UT H id with|some _=>k (.c (.raw (.ptr id 0 off)))|none=>none
  | .c (.raw (.fn (.func f) a b))=>k (.c (.raw (.fn (.func f) a b)))
  | .vptr cs post=>k (.vptr cs post)
  | .aptr id base n te i off=>match UT H id with|some _=>k (.aptr id base n te i off)|none=>none
  | .bptr id ver te n i off=>match cn H id ver te with|some _=>k (.bptr id ver te n i off)|none=>none
  |_=>none
 | .binOp op t x y _=>AAN P op t (Ij env x) (Ij env y) k
 | .unOp op _ x=>unT op (Ij env x) k
 | .convert s d x=>wF P H s d (Ij env x) k
 | .fieldAddr s x f=>ft P H s f (Ij env x) k
 | .field s x f=>rj P s f (Ij env x) k
 | .indexAddr t x i=>fx P H t (Ij env x) (Ij env i) k
 | .index t x i=>sA P t (Ij env x) (Ij env i) k
 | .slice t x lo hi mx=>ss P t (Ij env x) (lo.map (Ij env)) (hi.map (Ij env)) (mx.map (Ij env)) k
 | .extract x i=>match Ij env x with| .tup vs=>(match vs[i]? with|some v=>k v|none=>none)|_=>none
 | .makeFunc f a b=>match mX (a.toList.map (Ij env)),mX (b.toList.map (Ij env))with|some l,some m=>k (.c (.raw (.fn f l m)))|_,_=>none
 | .build t parts=>xo (rW P t (parts.toList.map λp=>(p.1,Ij env p.2))) k
 | .call {callee:=.builtin .len,args:=⟨[x]⟩,argTypes:=⟨[t]⟩}=>AAc P H t (Ij env x) k
 | .call {callee:=.builtin .max,args:=⟨[x,y]⟩,.. }=>mmT true (Ij env x) (Ij env y) k
 | .call {callee:=.builtin .min,args:=⟨[x,y]⟩,.. }=>mmT false (Ij env x) (Ij env y) k
 | .call {callee:=.builtin .min,args:=⟨[x,y,z]⟩,.. }=>AAd (Ij env x) (Ij env y) (Ij env z) k
 |_=>none
end
def TC(H:An)(id ver:Nat)(t:Ty)(n:Nat):Prop:=
 id<H.length/\ ∀ro t' l n' ver',H[id]? =some (.buf ro t' l n' ver')->ver<=ver'/\(ver=ver'->t'=t/\n'=n)
def Bd.ok(H:An):Bd->Prop
 | .own id ver t n=>TC H id ver t n
 |_=>True
def lok(H:An)(cs:List Bd):Prop:= ∀x∈cs,x.ok H
mutual
def TV.refs:TV->List Bd
 | .c x=>[x]
 | .g cs=>cs
 | .aptr .. =>[]
 | .bptr id ver t n _ _=>[.own id ver t n]
 | .vptr cs _=>cs
 | .tup vs=>TV.refsL vs
def TV.refsL:List TV->List Bd
 |[]=>[]
 |v::r=>v.refs++TV.refsL r
end
def TV.ok(H:An)(v:TV):Prop:=lok H v.refs
def Df.ok(H:An):Df->Prop
 | .live _ cs=>lok H cs
 | .buf _ _ l n _=>n=l.length
 | .dead=>True
 | .lp _ _ _ env _ _ _ _=> ∀p∈env,∀id ver t n,Bd.own id ver t n∉p.2.refs
 | .mp .. =>True
structure PB(env:BY)(H:An):Prop where
 env: ∀p∈env,p.2.ok H
 heap: ∀e∈H,e.ok H
def Gj{H:An}{a b:List Bd}:lok H (a++b)↔lok H a/\lok H b:=by simp only[lok,Ar];exact⟨λh=>⟨λx c=>h x (.inl c),λx c=>h x (.inr c)⟩,λh x c=>c.elim (h.1 x) (h.2 x)⟩
def yp{H:An}:lok H []:=λ_ h=>by cases h
def oA{v:TV}: ∀{l:List TV},v∈l-> ∀x∈v.refs,x∈TV.refsL l
 |w::r,a,x,hx=>by
  simp only[TV.refsL,Ar];rcases Al.1 a with rfl|a
  ·exact .inl hx
  ·exact .inr (oA a x hx)
def je{H:An}{a:List TV}(h:(TV.tup a).ok H){v:TV}(b:v∈a):v.ok H:=λx c=>h x (by simp only[TV.refs];exact oA b x c)
def Po{H:An}: ∀{vs:List TV},(∀v∈vs,v.ok H)->(TV.tup vs).ok H
 |[],_=>λx a=>by simp[TV.refs,TV.refsL]at a
 |v::r,h=>by
  have:=Po (vs:=r) λw b=>h w (by simp[b]);intro x a;simp only[TV.refs,TV.refsL,Ar]at a;rcases a with a|a
  ·exact h v (by simp) x a
  ·exact this x a
def jU{env:BY}{H:An}(h: ∀p∈env,p.2.ok H)(t:Nat):(env.get t).ok H:=by
 induction env with
 |nil=>intro x a;simp only[BY.get,Sq,TV.refs,A5]at a;subst a;trivial
 |cons p r c=>
  obtain⟨k,v⟩:=p;simp only[BY.get];split
  ·exact h (k,v) (by simp)
  ·exact c λp b=>h p (by simp[b])
def tS{H:An}(v:Value):(wI v).ok H:=by
 cases v with
 |pointer p=>cases p<;>trivial
 |slice a l c=>
  cases a with
  |some _=>trivial
  |none=>
   match l,c with
   |0,0=>trivial
   |0,_+1=>trivial
   |_+1,_=>trivial
 |_=>trivial
def bk{H:An}:Sq.ok H:=λx a=>by simp only[Sq,TV.refs,A5]at a;subst a;trivial
def JL{H:An}{x:Bd}(h:x.ok H):(TV.c x).ok H:=λy a=>by simp only[TV.refs,A5]at a;subst a;exact h
def AAT{H:An}(v:Value):(cvT v).ok H:=by
 cases v with
 |agg b=>
  simp only[cvT];cases h:b.toList.all (·.oneCell')with
  |false=>exact bk
  |true=>intro x a;simp only[TV.refs,BX]at a;obtain⟨y,_,rfl⟩:=a;exact tS y
 |_=>exact JL (tS _)
def af{env:BY}{H:An}(h: ∀p∈env,p.2.ok H)(x:Operand):(Ij env x).ok H:=by
 cases x with
 |tmp t=>exact jU h t
 |const v=>exact AAT v
 |global _=>exact bk
 |func f=>exact JL trivial
def GN(a b:List Bd):lvs (a++b)=lvs a++lvs b:=U4
def Gg(x:Bd)(b:List Bd):lvs (x::b)=x.enc++lvs b:=Es
def Zs: ∀a:List Bd,(lvs a).length=xk a
 |[]=>rfl
 |x::r=>by rw[Gg,Ad,x.enc_len,Zs r];rfl
def Nr: ∀{c:List Bd} {n:Nat} {a b:List Bd},Tf c n=some (a,b)->c=a++b/\(lvs a).length=n
 |c,0,a,b,h=>by cases c<;>simp only[Tf,AV,Br]at h<;>obtain⟨rfl,rfl⟩:=h<;>exact⟨rfl,rfl⟩
 |[],n+1,a,b,h=>by simp[Tf]at h
 |x::r,n+1,a,b,h=>by
  simp only[Tf]at h;split at h
  ·rename_i d;split at h
   ·rename_i i j g;simp only[AV,Br]at h;obtain⟨rfl,rfl⟩:=h;obtain⟨e,f⟩:=Nr g;refine⟨by rw[e];rfl,?_⟩;rw[Gg,Ad,f,x.enc_len];have:=JF d;omega
   ·cases h
  ·cases h
mutual
theorem Ty.lvs_enc: ∀(t:Ty) (x:t.D),lvs (t.lvs x)=(t.enc x).cells
 | .bool,_=>rfl
 | .int _,_=>rfl
 | .str,_=>rfl
 | .list _,_=>rfl
 | .arr n t,a=>by simp only[Ty.lvs,lvs,Es,iq,DQ,Bd.enc]
 | .prod ts,x=>by simp only[Ty.lvs,Ty.enc,AW.cells];exact ts.lvs_cells x
theorem QL.lvs_cells: ∀(a:QL) (x:a.D),Go.Ab.lvs (a.lvs x)=a.cells x
 | .one t,x=>by simp only[QL.lvs,QL.cells];exact t.lvs_enc x
 | .cons t a,x=>by simp only[QL.lvs,QL.cells];rw[GN,t.lvs_enc,a.lvs_cells]
end
mutual
theorem Ty.lvs_ok{H:An}: ∀(t:Ty) (x:t.D),lok H (t.lvs x)
 | .bool,_=>λy b=>by simp only[Ty.lvs,A5]at b;subst b;trivial
 | .int _,_=>λy b=>by simp only[Ty.lvs,A5]at b;subst b;trivial
 | .str,_=>λy b=>by simp only[Ty.lvs,A5]at b;subst b;trivial
 | .list _,_=>λy b=>by simp only[Ty.lvs,A5]at b;subst b;trivial
 | .arr n t,a=>λy b=>by simp only[Ty.lvs,A5]at b;subst b;trivial
 | .prod ts,x=>by simp only[Ty.lvs];exact ts.lvs_ok x
theorem QL.lvs_ok{H:An}: ∀(a:QL) (x:a.D),lok H (a.lvs x)
 | .one t,x=>by simp only[QL.lvs];exact t.lvs_ok x
 | .cons t a,x=>by simp only[QL.lvs];exact Gj.2 ⟨t.lvs_ok _,a.lvs_ok _⟩
end
def LV{x:Bd}(h:x.scalar=true):x.enc=[x.one]:=by
 cases x with
 |ar n t a=>cases h
 |_=>rfl
def Bd.scalar_cells{x:Bd}(h:x.scalar=true):x.one.cells=[x.one]:=by
 cases x with
 |ar n t a=>cases h
 |raw v=>cases v<;>first|rfl|cases h
 |_=>rfl
def Pp{P:Program}{t:TypeId}{e:List Bd}{d:Nat}{v:TV}(h:part P t e d=some v):
  (∃n,tI P t=some (true,n)/\d+n<=(lvs e).length/\v.enc= .agg (((lvs e).drop d).take n)\/tI P t=some (false,n)/\(lvs e)[d]? =some v.enc)/\ ∀H,lok H e->v.ok H:=by
 unfold part at h;split at h
 ·rename_i a r l;obtain⟨rfl,j⟩:=Nr l;split at h
  ·rename_i n i;split at h
   ·rename_i b c g;obtain⟨rfl,k⟩:=Nr g;injection h with h;subst h;refine⟨⟨n,.inl ⟨i,?_,?_⟩⟩,λH f=>?_⟩
    ·simp only[GN,Ad];omega
    ·simp only[TV.enc,GN,AW.agg.injEq];rw[<-j,Jv,<-k,TK]
    ·exact(Gj.1 (Gj.1 f).2).1
   ·cases h
  ·rename_i n i;split at h
   ·rename_i x r;split at h
    ·rename_i m;injection h with h;subst h;refine⟨⟨n,.inr ⟨i,?_⟩⟩,λH f=>JL ((Gj.1 f).2 x (by simp))⟩;rw[GN,Gg,LV m,CG (by omega)];simp[j,TV.enc]
    ·cases h
   ·cases h
  ·cases h
 ·cases h
def eN{P:Program}{t:TypeId}{c:List Bd}{b:Nat}{v:TV}(h:part P t c b=some v){j:Aq}{a:AW}
  (hr: ∀n,b+n<=(lvs c).length->Ov j a n=some (((lvs c).drop b).take n)):bv P t j a=some v.enc:=by
 obtain⟨⟨n,e|e⟩,_⟩:=Pp h
 ·obtain⟨i,g,d⟩:=e;simp only[bv,i,hr n g,BB,d]
 ·obtain⟨i,d⟩:=e;have k:b<(lvs c).length:=by
   rcases Ag b (lvs c).length with f|f
   ·exact f
   ·rw[BP f]at d;cases d
  simp only[bv,i,hr 1 (by omega),AJ];rw[fT,fS,d];rfl
def kH{H:An}{b:Nat}{a:List Bd}(h:UT H b=some a): ∃ro,H[b]? =some (.live ro a):=by
 unfold UT at h;split at h
 ·rename_i ro c d;injection h with h;subst h;exact⟨ro,d⟩
 ·cases h
def E7(H:An)(a:Nat):(A3 H)[a]? =(H[a]?).map Df.enc:=Bb
def mJ{H:An}{b:Nat}{a:List Bd}(h:UT H b=some a):(A3 H)[b]? =some (.live 0 (lvs a)):=by obtain⟨ro,c⟩:=kH h;rw[E7,c];rfl
def yn{H:An}{d:Nat}{a:List Bd}(b: ∀e∈H,e.ok H)(h:UT H d=some a):lok H a:=by obtain⟨ro,c⟩:=kH h;exact b _ (BV c)
def rV{H:An}{e a:Nat}{t:Ty}{l:List t.D}(h:cn H e a t=some l): ∃ro n,H[e]? =some (.buf ro t l n a):=by
 unfold cn at h;split at h
 ·rename_i ro f k n b g;split at h
  ·rename_i j;have d:a=b:=Ba j;subst d;split at h
   ·rename_i i;have c:f.beq t=true:=i;have:=Ty.beq_eq f t c;subst this;injection h with h;refine⟨ro,n,?_⟩;rw[g,<-h];rfl
   ·cases h
  ·cases h
 ·cases h
def gS{H:An}{c a n:Nat}{t:Ty}{l:List t.D}(f: ∀e∈H,e.ok H)(hr:TC H c a t n)(h:cn H c a t=some l):(A3 H)[c]? =some (.live n (t.E.cl l))/\l.length=n:=by obtain⟨ro,g,b⟩:=rV h;obtain⟨_,d⟩:=hr.2 _ _ _ _ _ b;obtain⟨_,rfl⟩:=d rfl;have:g=l.length:=f _ (BV b);refine⟨?_,this.symm⟩;rw[E7,b];rfl
def rQ{g:List Bd}{d n:Nat}{t:Ty}{a:Qy (n+1) t.D}(h:vp g d n t=some a): ∃c b,g=c++(.ar n t a::b)/\(lvs c).length=d:=by
 unfold vp at h;split at h
 ·rename_i c l m k b i;split at h
  ·rename_i j;have:=Ty.beq_eq _ _ j;injection this with e f;subst e f;injection h with h;obtain⟨e,f⟩:=Nr i;refine⟨c,b,?_,f⟩;rw[e,<-h];rfl
  ·cases h
 ·cases h
def YW(n:Nat)(t:Ty)(a:Qy (n+1) t.D):(Bd.ar n t a).enc=Z5 (n+1) t.E a:=rfl
section
variable {P:Program} {R:Type} {H:An} {k:TV->Option R} {r:R}
def Tz{o:Option TV}(h:xo o k=some r): ∃v,o=some v/\k v=some r:=by
 unfold xo at h;split at h
 ·exact⟨_,rfl,h⟩
 ·cases h
def bm(v:AW):(vU v).enc=v:=by cases v<;>rfl
def bn(v:AW):(vU v).ok H:=by cases v<;>exact JL trivial
def de{o:Option AW}(h:okA o k=some r): ∃v,o=some v/\k (vU v)=some r:=by
 unfold okA at h;split at h
 ·exact⟨_,rfl,h⟩
 ·cases h
def eJ{b:Bool}{o:Option R}(h:cond b none o=some r):b=false/\o=some r:=by
 cases b with
 |true=>cases h
 |false=>exact⟨rfl,h⟩
def kI{t:TypeId}{v:TV}(D: ∀e∈H,e.ok H)(F:v.ok H)(h:loadT P H t v k=some r): ∃u,bv P t (A3 H) v.enc=some u.enc/\k u=some r/\u.ok H:=by
 unfold loadT at h;split at h
 ·rename_i A g;split at h
  ·rename_i C p;obtain⟨u,f,o⟩:=Tz h;refine⟨u,eN f λn b=>?_,o,(Pp f).2 H (yn D p)⟩;simp only[TV.enc,Bd.one,Ov,mJ p];rw[if_pos ⟨trivial,b⟩]
  ·cases h
 ·rename_i C d;obtain⟨u,f,o⟩:=Tz h;refine⟨u,eN f λn b=>?_,o,(Pp f).2 H F⟩;simp only[TV.enc,Ov];rw[DE]at b;rw[if_pos (by simp;omega),TO,lK b]
 ·rename_i A q n c i g;split at h
  ·rename_i C p;split at h
   ·rename_i a I;obtain⟨e,z,h⟩:=Dt.1 h;obtain⟨u,f,o⟩:=Tz h;obtain⟨j,d,rfl,s⟩:=rQ I;refine⟨u,eN f λm b=>?_,o,(Pp f).2 H (c.lvs_ok e)⟩;rw[c.lvs_enc,c.enc_len]at b;obtain⟨w,x⟩:=vk c.E (lvs j) (lvs d) z b;have G:lvs (j++(.ar n c a::d))=lvs j++Z5 (n+1) c.E a++lvs d:=by rw[GN,Gg,YW,Ax]
    simp only[TV.enc,Ov,mJ p,G];have y:q+i.toNat*c.sz+g=(lvs j).length+i.toNat*c.E.sz+g:=by rw[s];rfl
    rw[y,if_pos ⟨trivial,w⟩,x,c.lvs_enc];rfl
   ·cases h
  ·cases h
 ·rename_i A B c n i g;split at h
  ·rename_i l p;obtain⟨e,z,h⟩:=Dt.1 h;obtain⟨u,f,o⟩:=Tz h;obtain⟨y,_⟩:=gS D (F (.own A B c n) (by simp[TV.refs])) p;refine⟨u,eN f λm b=>?_,o,(Pp f).2 H (c.lvs_ok e)⟩;rw[c.lvs_enc,c.enc_len]at b;obtain⟨w,x⟩:=AAM c.E z b;simp only[TV.enc,Ov,y];rw[if_pos ⟨trivial,w⟩];show some (List.take m (List.drop (i.toNat*c.E.sz+g) (c.E.cl l)))=_;rw[x,c.lvs_enc];rfl
  ·cases h
 ·cases h
def rS{c:BinOp}{d:IntKind}{a b:Int}{v:AW}(h:fi c d a b=some v):c≠ .shl/\c≠ .shr:=by constructor<;>rintro rfl<;>cases h
def rT{j:BinOp}{t:TypeId}{x y:TV}(h:AAN P j t x y k=some r): ∃u,pg P j t x.enc y.enc=some u.enc/\k u=some r/\u.ok H:=by
 unfold AAN at h;split at h
 ·rename_i z a A b;simp only[TV.enc,Bd.one,pg];split at h
  ·obtain⟨e,h⟩:=eJ h;have c: ¬b<0:=by simpa using e
   refine⟨_,?_,h,JL trivial⟩;simp only[dl,if_neg c,TV.enc,Bd.one]
  ·obtain⟨e,h⟩:=eJ h;have c: ¬b<0:=by simpa using e
   refine⟨_,?_,h,JL trivial⟩;simp only[dl,if_neg c,TV.enc,Bd.one]
  ·split at h
   ·rename_i d;obtain⟨e,h⟩:=eJ h;have c: ¬b=0:=by simpa using e
    refine⟨_,?_,h,JL trivial⟩;simp only[if_pos d,fi,if_neg c,TV.enc,Bd.one]
   ·cases h
  ·split at h
   ·rename_i d;obtain⟨e,h⟩:=eJ h;have c: ¬b=0:=by simpa using e
    refine⟨_,?_,h,JL trivial⟩;simp only[if_pos d,fi,if_neg c,TV.enc,Bd.one]
   ·cases h
  ·rename_i n o p q;split at h
   ·rename_i d;obtain⟨v,f,h⟩:=de h;refine⟨_,?_,h,bn v⟩;rw[bm];obtain⟨q1,q2⟩:=rS f;cases j<;>first|exact absurd rfl q1|exact absurd rfl q2|(simp only[if_pos d];exact f)
   ·cases h
 ·rename_i a b;simp only[TV.enc,Bd.one,pg];split at h
  ·split at h
   ·rename_i d;exact⟨_,by simp only[if_pos d,TV.enc,Bd.one],h,JL trivial⟩
   ·cases h
  ·split at h
   ·rename_i d;exact⟨_,by simp only[if_pos d,TV.enc,Bd.one],h,JL trivial⟩
   ·cases h
  ·cases h
 ·rename_i a b;simp only[TV.enc,Bd.one,pg];split at h
  ·obtain⟨s,l,h⟩:=Dt.1 h;exact⟨_,by simp only[oP,TV.enc,Bd.one];exact AAh l,h,JL trivial⟩
  ·obtain⟨v,f,h⟩:=de h;exact⟨_,by rw[bm];exact f,h,bn v⟩
 ·rename_i m bs;split at h
  ·rename_i w g;split at h
   ·rename_i i;simp only[TV.enc,pg,g,if_pos i];split at h
    ·exact⟨_,by simp only[TV.enc,Bd.one,eqT],h,JL trivial⟩
    ·exact⟨_,by simp only[TV.enc,Bd.one,eqT],h,JL trivial⟩
    ·cases h
   ·cases h
  ·cases h
 ·cases h
def vP{a:UnOp}{v:TV}(h:unT a v k=some r): ∃u,unV a v.enc=some u.enc/\k u=some r/\u.ok H:=by
 unfold unT at h;split at h
 ·obtain⟨v,b,h⟩:=de h;exact⟨_,by rw[bm];exact b,h,bn v⟩
 ·cases h
def ABH(l:List Int):(Ty.int .u8).E.cl l=l.map (od .u8).f:=by
 unfold Rz.cl;induction l with
 |nil=>rfl
 |cons n l a=>simp only[BE,Es,a];rfl
def uZ{b a:TypeId}{c:IntKind}{n:Int}{d:Aq}:UW P d b a (.int c n)=UW P [] b a (.int c n):=by unfold UW;cases kd P a<;>rfl
def ua{b a:TypeId}{s:List UInt8}{c:Aq}:UW P c b a (.str s)=UW P [] b a (.str s):=by unfold UW;cases kd P a<;>rfl
def pk{d a:TypeId}{v:TV}(g: ∀e∈H,e.ok H)(c:v.ok H)(h:wF P H d a v k=some r): ∃u,UW P (A3 H) d a v.enc=some u.enc/\k u=some r/\u.ok H:=by
 unfold wF at h;split at h
 ·rename_i l;split at h
  ·rename_i b;refine⟨_,?_,h,JL trivial⟩;exact wy l b.1 b.2
  ·cases h
 ·rename_i m f n;split at h
  ·rename_i b;split at h
   ·rename_i l j;obtain⟨i,hn⟩:=gS g (c (.own m f (.int .u8) n) (by simp[TV.refs])) j;refine⟨_,?_,h,JL trivial⟩;simp only[TV.enc,Bd.one,UW,b.1,b.2,if_true,rowsOf,i];rw[if_pos ⟨trivial,rfl,by rw[(Ty.int .u8).E.clen,hn];show 0+n<=n*1;omega⟩];have:((Ty.int .u8).E.cl l).length=n:=by rw[(Ty.int .u8).E.clen,hn];exact Nat.mul_one n
    rw[TO,<-this,fW,ABH];exact congrArg (Option.map AW.str) (pQ l)
   ·cases h
  ·cases h
 ·obtain⟨v,c,h⟩:=de h;exact⟨_,by rw[bm];exact uZ.trans c,h,bn v⟩
 ·obtain⟨v,c,h⟩:=de h;exact⟨_,by rw[bm];exact ua.trans c,h,bn v⟩
 ·cases h
end
section
variable {P:Program} {R:Type} {H:An} {k:TV->Option R} {r:R}
def dF{a:Nat}{b:List Bd}(h:UT H a=some b):RI (A3 H) a 0=true:=by simp[RI,mJ h]
def kp{b a n:Nat}{t:Ty}{l:List t.D}(c: ∀e∈H,e.ok H)(hr:TC H b a t n)(h:cn H b a t=some l):RI (A3 H) b n=true:=by simp[RI,(gS c hr h).1]
def jJ{s f:Nat}{v:TV}(y: ∀e∈H,e.ok H)(g:v.ok H)(h:ft P H s f v k=some r): ∃u,TW P (A3 H) s f v.enc=some u.enc/\k u=some r/\u.ok H:=by
 unfold ft at h;split at h
 ·rename_i C t n A;split at h
  ·cases h
  ·rename_i hn;have d:n≠0:=λe=>by subst e;cases hn
   unfold TW;simp only[A,if_neg d];split at h
   ·rename_i j o;split at h
    ·rename_i q c;exact⟨_,by simp only[TV.enc,Bd.one,shift,dF c,if_true],h,JL trivial⟩
    ·cases h
   ·rename_i q w;split at h
    ·rename_i a b B;obtain⟨rfl,z⟩:=Nr B;refine⟨_,?_,h,(Gj.1 g).2⟩;simp only[TV.enc,shift];rw[if_pos (by simp only[Ad,GN];omega),GN,Ax,<-z,Jv]
    ·cases h
   ·rename_i j p n x i o;split at h
    ·rename_i q c;refine⟨_,?_,h,λ_ h=>by cases h⟩;simp only[TV.enc,shift,dF c,if_true,PH]
    ·cases h
   ·rename_i j m x n i o;split at h
    ·rename_i l c;refine⟨_,?_,h,g⟩;simp only[TV.enc,shift,kp y (g (.own j m x n) (by simp[TV.refs])) c,if_true,PH]
    ·cases h
   ·cases h
 ·cases h
def pF{t:TypeId}{b:List Bd}{a:Nat}{v:TV}(h:part P t b a=some v){C:List AW}{o:Nat}(i: ∀n,a+n<=(lvs b).length->o+n<=C.length/\(C.drop o).take n=((lvs b).drop a).take n):kQ P t C o=some v.enc:=by
 obtain⟨⟨n,d|d⟩,_⟩:=Pp h
 ·obtain⟨g,f,c⟩:=d;obtain⟨q1,q2⟩:=i n f;simp only[kQ,g,if_pos q1,q2,c]
 ·obtain⟨g,c⟩:=d;have j:a<(lvs b).length:=by
   rcases Ag a (lvs b).length with e|e
   ·exact e
   ·rw[BP e]at c;cases c
  obtain⟨q1,q2⟩:=i 1 j;simp only[kQ,g];have:=congrArg List.head? q2;rw[fT,fS,fT,fS,c]at this;simpa using this
def og{s f:Nat}{v:TV}(e:v.ok H)(h:rj P s f v k=some r): ∃u,lc P s f v.enc=some u.enc/\k u=some r/\u.ok H:=by
 unfold rj at h;split at h
 ·rename_i g t n i c;obtain⟨u,b,d⟩:=Tz h;refine⟨u,?_,d,(Pp b).2 H e⟩;simp only[lc,c,TV.enc];exact pF b λn a=>⟨a,rfl⟩
 ·cases h
def lH{n:Nat}{b:Type}{a:Qy n b}{i:Int}{x:b}(h:Ky a i=some x):0<=i/\i<n:=by obtain⟨c,j,rfl,_⟩:=iQ h;exact⟨c,by have:=j.isLt;omega⟩
def jV{t:TypeId}{v i:TV}(w: ∀e∈H,e.ok H)(F:v.ok H)(h:fx P H t v i k=some r): ∃u,Tb P (A3 H) t v.enc i.enc=some u.enc/\k u=some r/\u.ok H:=by
 unfold fx at h;split at h
 ·rename_i M i;simp only[TV.enc,Bd.one,Tb];split at h
  ·rename_i len A sz p;simp only[p];split at h
   ·rename_i q G;split at h
    ·rename_i J m;split at h
     ·rename_i I n b a g L;split at h
      ·rename_i d;obtain⟨rfl,rfl⟩:=d;obtain⟨e,c,h⟩:=Dt.1 h;refine⟨_,?_,h,λ_ h=>by cases h⟩;rw[if_pos (lH c)];simp only[TV.enc,Bd.one,shift,dF m,if_true,N0]
      ·cases h
     ·cases h
    ·cases h
   ·rename_i n b a N g;split at h
    ·rename_i d;obtain⟨rfl,rfl⟩:=d;obtain⟨e,c,h⟩:=Dt.1 h;refine⟨_,?_,h,b.lvs_ok e⟩;rw[if_pos (lH c)];obtain⟨_,o,s,_⟩:=vr b.E c [] [];simp only[CA,DQ,BH,DE]at o s;have C:i.toNat*b.sz+b.sz<=(Z5 (n+1) b.E a).length:=o;simp only[TV.enc,shift,Gg,YW];rw[if_pos (by simp only[Ad];omega)];rw[b.lvs_enc,Ax,nL (by omega)];have z:(Z5 (n+1) b.E a).drop (i.toNat*b.sz)=(b.enc e).cells++(Z5 (n+1) b.E a).drop (i.toNat*b.sz+b.sz):=by rw[<-LM];have D:((Z5 (n+1) b.E a).drop (i.toNat*b.sz)).take b.sz=(b.enc e).cells:=s;rw[<-D,FG]
     rw[z,Ax];rfl
    ·cases h
   ·cases h
  ·rename_i A sz p;simp only[p];split at h
   ·rename_i b l;split at h
    ·rename_i d;subst d;obtain⟨e,c,h⟩:=Dt.1 h;obtain⟨q1,q2⟩:=AB9 (f:=b.enc) c;refine⟨_,?_,h,b.lvs_ok e⟩;simp only[TV.enc,Bd.one];rw[if_pos ⟨q1,trivial⟩,q2,b.lvs_enc,DQ];rfl
    ·cases h
   ·rename_i q j b n;split at h
    ·rename_i l m;split at h
     ·rename_i d;subst d;obtain⟨e,c,h⟩:=Dt.1 h;have hr:=F (.own q j b n) (by simp[TV.refs]);obtain⟨K,hn⟩:=gS w hr m;refine⟨.bptr q j b n i 0,?_,h,λx y=>by simp only[TV.refs,A5]at y;subst y;exact hr⟩;obtain⟨_,_,_,_,B,o,_,_⟩:=lV b.E c;simp only[TV.enc,Bd.one];rw[if_pos ⟨B,by omega,trivial,kp w hr m⟩,DE,N0]
     ·cases h
    ·cases h
   ·cases h
  ·cases h
 ·cases h
theorem gb{e:TypeId}{sz:Nat}{cs:List Bd}{i:Int}(d:lok H cs): ∀{m j:Nat},oS P e sz cs i k m j=some r-> ∃u,(0<=i/\i<((j+m:Nat):Int))/\kQ P e (lvs cs) (i.toNat*sz)=some u.enc/\k u=some r/\u.ok H
 |0,j,h=>by cases h
 |m+1,j,h=>by
  simp only[oS]at h;cases a:decide (i=Int.ofNat j)with
  |true=>
   rw[a]at h;have f:i=(j:Int):=by simpa using a
   obtain⟨u,c,g⟩:=Tz h;subst f;refine⟨u,⟨by omega,by omega⟩,?_,g,(Pp c).2 H d⟩;exact pF c λn b=>⟨by simpa using b,rfl⟩
  |false=>rw[a]at h;obtain⟨u,q1,q2⟩:=gb d (m:=m) (j:=j+1) h;exact⟨u,⟨q1.1,by omega⟩,q2⟩
def ov{t:TypeId}{v i:TV}(A:v.ok H)(h:sA P t v i k=some r): ∃u,db P t v.enc i.enc=some u.enc/\k u=some r/\u.ok H:=by
 unfold sA at h;split at h
 ·rename_i B i;split at h
  ·rename_i n c a;split at h
   ·rename_i len x sz f;split at h
    ·rename_i z;obtain⟨rfl,rfl⟩:=z;obtain⟨e,p,h⟩:=Dt.1 h;obtain⟨u,q,g⟩:=Tz h;refine⟨u,?_,g,(Pp q).2 H (c.lvs_ok e)⟩;simp only[TV.enc,Bd.one,db,f];rw[if_pos (lH p)];refine pF q λm d=>?_;rw[c.lvs_enc,c.enc_len,DE]at d;obtain⟨l,o⟩:=vk c.E (off:=0) [] [] p (m:=m) (by rw[DE];exact d);simp only[CA,DQ,BH,DE,N0,TO]at l o;have w:lvs [Bd.ar n c a]=Z5 (n+1) c.E a:=by rw[Gg,YW];simp[lvs]
     rw[w,c.lvs_enc,TO];exact⟨l,o⟩
    ·cases h
   ·cases h
  ·rename_i j _;split at h
   ·rename_i len x sz f;split at h
    ·obtain⟨u,q1,q2,q3⟩:=gb (cs:=j) (H:=H) A h;refine⟨u,?_,q3⟩;simp only[TV.enc,Bd.one,db,f];rw[if_pos (by simpa using q1),q2]
    ·cases h
   ·cases h
  ·rename_i s;split at h
   ·rename_i g;obtain⟨b,y,h⟩:=Dt.1 h;exact⟨_,by simp only[TV.enc,Bd.one];exact ABT y g,h,JL trivial⟩
   ·cases h
  ·cases h
 ·cases h
def gR{d:Nat}{o:Option TV}{l:Int}(h:uU d o=some l)(a:0<=l):UA d (o.map TV.enc)=some l.toNat:=by
 unfold uU at h;split at h
 ·injection h with h;subst h;simp[UA]
 ·injection h with h;subst h;simp[UA,TV.enc,Bd.one,mP,a]
 ·cases h
def pL{t:TypeId}{v:TV}{m j n:Option TV}(h:ss P t v m j n k=some r): ∃u,dm P (A3 H) t v.enc (m.map TV.enc) (j.map TV.enc) (n.map TV.enc)=some u.enc/\k u=some r/\u.ok H:=by
 unfold ss at h;split at h
 ·cases h
 ·split at h
  ·rename_i s;split at h
   ·rename_i l y i c;split at h
    ·rename_i g;obtain⟨x,a,h⟩:=Dt.1 h;refine⟨_,?_,h,JL trivial⟩;unfold Ry at a;split at a
     ·rename_i b;injection a with a;subst a;simp only[TV.enc,Bd.one,dm,gR (d:=0) i b.1,gR c (Int.le_trans b.1 b.2.1),fb];rw[if_pos ⟨g,by omega⟩]
     ·cases a
    ·cases h
   ·cases h
  ·rename_i z f;split at h
   ·rename_i l y A sz i c w;split at h
    ·rename_i g;subst g;obtain⟨x,a,h⟩:=Dt.1 h;refine⟨_,?_,h,JL trivial⟩;unfold Zm at a;split at a
     ·rename_i b;injection a with a;subst a;have e:(f.map z.enc).length=f.length:=Cm _;have o:=gR (d:=0) i b.1;have p:=gR c (Int.le_trans b.1 b.2.1);have q:UA f.length none=some f.length:=rfl;simp only[TV.enc,Bd.one,dm,e,o,p,fb,q,w];rw[if_pos ⟨trivial,by omega,by omega,by omega,by simp⟩,List.map_take,List.map_drop]
     ·cases a
    ·cases h
   ·cases h
  ·cases h
def sD{t:TypeId}{v:TV}(d: ∀e∈H,e.ok H)(g:v.ok H)(h:AAc P H t v k=some r): ∃u,kh P (A3 H) t v.enc=some u.enc/\k u=some r/\u.ok H:=by
 unfold AAc at h;split at h
 ·rename_i s a;exact⟨_,by simp only[kh,a,TV.enc,Bd.one],h,JL trivial⟩
 ·rename_i n e a;exact⟨_,by simp only[kh,a,TV.enc,Bd.one],h,JL trivial⟩
 ·rename_i c l e a;exact⟨_,by simp only[kh,a,TV.enc,Bd.one,Cm],h,JL trivial⟩
 ·rename_i e i b c n a;split at h
  ·rename_i l f;refine⟨_,?_,h,JL trivial⟩;simp only[kh,a,TV.enc,Bd.one,kp d (g (.own i b c n) (by simp[TV.refs])) f,if_true]
  ·cases h
 ·rename_i e a;exact⟨_,by simp only[kh,a,TV.enc,Bd.one],h,JL trivial⟩
 ·cases h
end
def V9{v:TV}{c:List Bd}(h:v.words=some c):v.enc.solid=true/\v.enc.cells=lvs c/\ ∀H,v.ok H->lok H c:=by
 unfold TV.words at h;split at h
 ·rename_i x;split at h
  ·rename_i a;simp only[BM]at a;injection h with h;subst h;refine⟨a.2,?_,λH b=>b⟩;rw[Gg,LV a.1];exact Bd.scalar_cells a.1
  ·cases h
 ·injection h with h;subst h;exact⟨rfl,rfl,λH b=>b⟩
 ·cases h
def eP{e f c:List Bd}{d n:Nat}(h:vI e d f n=some c)(hn:(lvs f).length=n):lvs c=T4 (lvs e) d (lvs f)/\d+n<=(lvs e).length/\ ∀H,lok H e->lok H f->lok H c:=by
 unfold vI at h;split at h
 ·rename_i a r o;obtain⟨rfl,k⟩:=Nr o;split at h
  ·rename_i m b g;obtain⟨rfl,l⟩:=Nr g;injection h with h;subst h;refine⟨?_,by simp only[GN,Ad];omega,λH i j=>?_⟩
   ·unfold T4;simp only[GN];rw[<-k,TK,<-LM,Jv,hn,<-l,Jv];simp
   ·obtain⟨q1,q2⟩:=Gj.1 i;exact Gj.2 ⟨q1,Gj.2 ⟨j,(Gj.1 q2).2⟩⟩
  ·cases h
 ·cases h
mutual
theorem Ty.zlvs_ok{H:An}: ∀t:Ty,lok H t.zlvs
 | .bool=>λy a=>by simp only[Ty.zlvs,A5]at a;subst a;trivial
 | .int _=>λy a=>by simp only[Ty.zlvs,A5]at a;subst a;trivial
 | .str=>λy a=>by simp only[Ty.zlvs,A5]at a;subst a;trivial
 | .list _=>λy a=>by simp only[Ty.zlvs,A5]at a;subst a;trivial
 | .arr n t=>λy a=>by simp only[Ty.zlvs,A5]at a;subst a;trivial
 | .prod b=>by simp only[Ty.zlvs];exact b.zlvs_ok
theorem QL.zlvs_ok{H:An}: ∀a:QL,lok H a.zlvs
 | .one t=>by simp only[QL.zlvs];exact t.zlvs_ok
 | .cons t a=>by simp only[QL.zlvs];exact Gj.2 ⟨t.zlvs_ok,a.zlvs_ok⟩
end
def up(v:AW):(ng v).enc=[v]:=by cases v<;>rfl
def wg{H:An}(v:AW):(ng v).ok H:=by cases v<;>trivial
def jX: ∀z:List AW,lvs (z.map ng)=z
 |[]=>rfl
 |v::r=>by rw[BE,Gg,jX r,up];rfl
def uE{H:An}(z:List AW):lok H (z.map ng):=λx a=>by obtain⟨v,_,rfl⟩:=BX.1 a;exact wg v
def WC{P:Program}{t:TypeId}{z:List Bd}(h:mm P t=some z):WA P t=some (lvs z)/\ ∀H,lok H z:=by
 unfold mm at h;split at h
 ·rename_i a b;split at h
  ·rename_i e d;split at h
   ·rename_i c;injection h with h;subst h;exact⟨by rw[b,Z6 _ _ c],λH=>e.zlvs_ok⟩
   ·injection h with h;subst h;exact⟨by rw[b,jX],λH=>uE a⟩
  ·injection h with h;subst h;exact⟨by rw[b,jX],λH=>uE a⟩
 ·cases h
def ld{p:XC}: ∀{a:List (Nat×TV)} {c b:List Bd},qD p c a=some b->j9 p (lvs c) (a.map λq=>(q.1,q.2.enc))=some (lvs b)/\ ∀H,lok H c->(∀q∈a,q.2.ok H)->lok H b
 |[],c,b,h=>by simp only[qD,AV]at h;subst h;exact⟨rfl,λH h _=>h⟩
 |(i,v)::r,c,b,h=>by
  simp only[qD]at h;split at h
  ·rename_i o size z k n;split at h
   ·rename_i m;have d:=Ba m;split at h
    ·rename_i y e;obtain⟨w,g,x⟩:=V9 n;obtain⟨s,t,u⟩:=eP e (by rw[Zs,d]);obtain⟨q1,q2⟩:=ld h;refine⟨?_,λH j f=>q2 H (u H j (x H (f (i,v) (by simp)))) λq l=>f q (by simp[l])⟩;simp only[BE,j9,k];rw[if_pos ⟨w,by rw[g,Zs,d],t⟩,g,<-s];exact q1
    ·cases h
   ·cases h
  ·cases h
section
variable {P:Program} {R:Type} {env:BY} {H:An} {k:TV->Option R} {r:R}
def ph{t:TypeId}{a:List (Nat×TV)}{v:TV}(h:rW P t a=some v):lQ P t (a.map λq=>(q.1,q.2.enc))=some v.enc/\((∀q∈a,q.2.ok H)->v.ok H):=by
 unfold rW at h;split at h
 ·rename_i z p g e;obtain⟨i,j⟩:=WC g;rw[VP]at h;obtain⟨k,d,rfl⟩:=h;obtain⟨b,c⟩:=ld d;refine⟨?_,λf=>c H (j H) f⟩;simp only[lQ,i,e,b,BB,TV.enc]
 ·cases h
def jh: ∀{l:List TV} {m:List AW},mX l=some m->m=l.map TV.enc
 |[],m,h=>by simp only[mX,AV]at h;subst h;rfl
 | .c x::r,m,h=>by
  simp only[mX]at h;split at h
  ·rename_i b _ a;injection h with h;subst h;rw[BE,<-jh a];rfl
  ·cases h
 | .g _::_,m,h=>by simp[mX]at h
 | .aptr .. ::_,m,h=>by simp[mX]at h
 | .bptr .. ::_,m,h=>by simp[mX]at h
 | .vptr .. ::_,m,h=>by simp[mX]at h
 | .tup _::_,m,h=>by simp[mX]at h
def nm{a:Bool}{x y:TV}(h:mmT a x y k=some r): ∃u,zp a [x.enc,y.enc]=some u.enc/\k u=some r/\u.ok H:=by
 unfold mmT at h;split at h
 ·exact⟨_,by simp only[TV.enc,Bd.one,zp],h,JL trivial⟩
 ·cases h
def sK{x y z:TV}(h:AAd x y z k=some r): ∃u,mm3 x.enc y.enc z.enc=some u.enc/\k u=some r/\u.ok H:=by
 unfold AAd at h;split at h
 ·exact⟨_,by simp only[TV.enc,Bd.one,mm3],h,JL trivial⟩
 ·cases h
def nz{L:Op}(ok:PB env H)(h:zE P env H L k=some r): ∃v,CR P (Bw env) (A3 H) L=some v.enc/\k v=some r/\v.ok H:=by
 have j: ∀x,(Ij env x).ok H:=af ok.env;have d:=KO env;unfold zE at h;split at h
 ·exact⟨_,by simp only[CR,d],h,j _⟩
 ·exact⟨_,by simp only[CR,d],h,j _⟩
 ·rename_i c a b;split at h
  ·rename_i t O;have w:A8 (Bw env) c= .bool t:=by rw[d,O];rfl
   cases t with
   |true=>exact⟨_,by simp only[CR,w,if_true,d],h,j _⟩
   |false=>exact⟨_,by simp only[CR,w,F3,if_false,d],h,j _⟩
  ·cases h
 ·obtain⟨u,e,g⟩:=kI ok.heap (j _) h;exact⟨u,by simp only[CR,d,e],g⟩
 ·rename_i x;split at h
  ·rename_i B z s;split at h
   ·rename_i G A;have w:A8 (Bw env) x= .ptr B 0 z:=by rw[d,s];rfl
    exact⟨_,by simp only[CR,w,dF A,if_true,TV.enc,Bd.one],h,JL trivial⟩
   ·cases h
  ·rename_i f a b s;have w:A8 (Bw env) x= .fn (.func f) a b:=by rw[d,s];rfl
   exact⟨_,by simp only[CR,w,TV.enc,Bd.one],h,JL trivial⟩
  ·rename_i G D s;have w:A8 (Bw env) x= .vptr (lvs G++D):=by rw[d,s];rfl
   have:=j x;rw[s]at this;exact⟨_,by simp only[CR,w,TV.enc],h,this⟩
  ·rename_i B C n F i z s;split at h
   ·rename_i G A;have w:A8 (Bw env) x= .ptr B 0 (C+i.toNat*F.sz+z):=by rw[d,s];rfl
    have:=j x;rw[s]at this;exact⟨_,by simp only[CR,w,dF A,if_true,TV.enc],h,this⟩
   ·cases h
  ·rename_i B J F n i z s;split at h
   ·rename_i l A;have w:A8 (Bw env) x= .ptr B n (i.toNat*F.sz+z):=by rw[d,s];rfl
    have:=j x;rw[s]at this;exact⟨_,by simp only[CR,w,kp ok.heap (this (.own B J F n) (by simp[TV.refs])) A,if_true,TV.enc],h,this⟩
   ·cases h
  ·cases h
 ·obtain⟨u,e,g⟩:=rT (H:=H) h;exact⟨u,by simp only[CR,d,e],g⟩
 ·obtain⟨u,e,g⟩:=vP (H:=H) h;exact⟨u,by simp only[CR,d,e],g⟩
 ·obtain⟨u,e,g⟩:=pk ok.heap (j _) h;exact⟨u,by simp only[CR,d,e],g⟩
 ·obtain⟨u,e,g⟩:=jJ ok.heap (j _) h;exact⟨u,by simp only[CR,d,e],g⟩
 ·obtain⟨u,e,g⟩:=og (j _) h;exact⟨u,by simp only[CR,d,e],g⟩
 ·obtain⟨u,e,g⟩:=jV ok.heap (j _) h;exact⟨u,by simp only[CR,d,e],g⟩
 ·obtain⟨u,e,g⟩:=ov (H:=H) (j _) h;exact⟨u,by simp only[CR,d,e],g⟩
 ·rename_i t x U T V;obtain⟨u,e,g⟩:=pL (H:=H) h;have q: ∀o:Option Operand,o.map (A8 (Bw env))=(o.map (Ij env)).map TV.enc:=by
   intro o;cases o with
   |none=>rfl
   |some y=>simp only[BB,d]
  exact⟨u,by simp only[CR,d,q,e],g⟩
 ·rename_i x i;split at h
  ·rename_i S s;split at h
   ·rename_i v E;have w:A8 (Bw env) x= .tup (S.map TV.enc):=by rw[d,s];simp only[TV.enc,lY]
    have K:=j x;rw[s]at K;exact⟨v,by simp only[CR,w,Bb,E,BB],h,je K (BV E)⟩
   ·cases h
  ·cases h
 ·rename_i f a b;split at h
  ·rename_i l m A Q;refine⟨_,?_,h,JL trivial⟩;have q: ∀o:List Operand,o.map (A8 (Bw env))=(o.map (Ij env)).map TV.enc:=by intro o;rw[HV];exact Fe λy _=>d y
   simp only[CR,q,<-jh A,<-jh Q,TV.enc,Bd.one]
  ·cases h
 ·rename_i t I;obtain⟨v,E,h⟩:=Tz h;obtain⟨M,N⟩:=ph (H:=H) E;refine⟨v,?_,h,N λq R=>?_⟩
  ·simp only[CR];rw[<-M,HV];congr 1;exact Fe λp _=>by simp only[Function.comp,d]
  ·obtain⟨p,_,rfl⟩:=BX.1 R;exact j _
 ·obtain⟨u,e,g⟩:=sD ok.heap (j _) h;exact⟨u,by simp only[CR,d,e],g⟩
 ·obtain⟨u,e,g⟩:=nm (H:=H) h;exact⟨u,by simp only[CR,d,e],g⟩
 ·obtain⟨u,e,g⟩:=nm (H:=H) h;exact⟨u,by simp only[CR,d,e],g⟩
 ·obtain⟨u,e,g⟩:=sK (H:=H) h;exact⟨u,by simp only[CR,d,e],g⟩
 ·cases h
end
def Conv(x y:Cx)(v v':AW):Prop:= ∀c,Bh x v c->Bh y v' c
def Rw(x y:Cx)(H H2:Aq):Prop:=
 H2.length=H.length/\ ∀(j:Nat) (e':EM),H2[j]? =some e'->e'= .dead\/
  (∃g cs cs',H[j]? =some (.live g cs)/\e'= .live g cs'/\cs'.length=cs.length/\ ∀(i:Nat) (v':AW),cs'[i]? =some v'-> ∃v,cs[i]? =some v/\Conv x y v v')\/
  (H[j]? =some e'/\ ∀g cs,e'≠ .live g cs)
def Rw.refl(x:Cx)(H:Aq):Rw x x H H:=by
 refine⟨rfl,λj b a=>?_⟩;cases b with
 |dead=>exact .inl rfl
 |live g c=>exact .inr (.inl ⟨g,c,c,a,rfl,rfl,λi v d=>⟨v,d,λ_ r=>r⟩⟩)
 |_=>exact .inr (.inr ⟨a,by simp⟩)
def Rw.own{x y:Cx}{H d:Aq}{h:Gh}(hr:Rw x y H d): ∀B,owned h d B->owned h H B:=by
 rintro B ⟨j,f,i,c,b⟩;rcases hr.2 j f i with a|⟨g,k,e,a,_⟩|⟨a,_⟩
 ·exact(c a).elim
 ·exact⟨j,_,a,by simp,b⟩
 ·exact⟨j,_,a,c,b⟩
def Rw.later{X:Nat->Prop}{h:Gh}{H a:Aq}{w:World}{x y:Cx}(hr:Rw x y H a):(cx X h H w).Later (cx X h a w):={size:=Aj _,keep:=λ_ _ _ _=>rfl,own:=λB _ b=>b.imp _root_.id (hr.own B),n:=by simp[cx,hr.1],gen:=λ_ _=>Aj _,same:=λ_ _ _=>⟨rfl,rfl⟩}
def Ik.rel{X:Nat->Prop}{h:Gh}{H n:Aq}{w:World}(s:Ik X h H w)(hr:Rw (cx X h H w) (cx X h n w) H n):Ik X h n w:=by
 have z:=hr.own (h:=h);have O:(cx X h H w).Later (cx X h n w):=hr.later;have back: ∀{j:Nat} {e:EM},n[j]? =some e->e≠ .dead-> ∃P,H[j]? =some P/\P≠ .dead:=by
  intro j e l y;rcases hr.2 j e l with a|⟨g,A,D,a,_⟩|⟨a,_⟩
  ·exact(y a).elim
  ·exact⟨_,a,by simp⟩
  ·exact⟨_,a,y⟩
 refine⟨λB p=>⟨(s.out B p).1,λho=>(s.out B p).2 (z B ho)⟩,λj R D l=>?_,λj L l=>?_,λi j e e' B a c M N E F=>?_,s.bldKeep λj e l p=>?_⟩
 ·rcases hr.2 j _ l with a|⟨g,A,o,a,c,E,F⟩|⟨_,a⟩
  ·cases a
  ·injection c with U V;subst U V;obtain⟨K,Z⟩:=s.live j R A a;refine⟨K,?_⟩;rcases Z with⟨k,S⟩|⟨B,C,T,Q,f,k,Y,q,ad,J,b⟩
   ·refine .inl ⟨k,?_⟩;subst S;exact EA (by simpa using E)
   ·refine .inr ⟨B,C,T,Q,f,k,Y,q,by omega,J,λi v' hi=>?_⟩;obtain⟨v,hv,W⟩:=F i v' hi;obtain⟨p1,p2,p3⟩:=b i v hv;exact⟨p1,p2,W _ p3⟩
  ·exact absurd rfl (a _ _)
 ·rcases hr.2 j _ l with a|⟨g,A,o,_,c,_⟩|⟨a,_⟩
  ·cases a
  ·cases c
  ·obtain⟨K,B,r,q1,q2,q3,q4,q5,q6,q7,q8,q9⟩:=s.lp j L a;exact⟨K,B,r,q1,q2,q3,q4,q5,q6,q7,q8,λt v m=>⟨(q9 t v m).1,(q9 t v m).2.later O⟩⟩
 ·obtain⟨d,G,I⟩:=back a M;obtain⟨d',u,x⟩:=back c N;exact s.inj i j _ _ B G u I x E F
 ·refine⟨?_,rfl,rfl,rfl,λ_ _ _ _ _=>rfl⟩;rcases hr.2 j _ l with a|⟨g,A,o,_,c,_⟩|⟨a,_⟩
  ·subst a;cases p
  ·subst c;cases p
  ·exact a
def Rw.onto{X:Nat->Prop}{h:Gh}{H b:Aq}{w:World}(hr:Rw (cx X h H w) (cx X h H w) H b):Rw (cx X h H w) (cx X h b w) H b:=by
 have e:(cx X h H w).Later (cx X h b w):=hr.later;refine⟨hr.1,λj k p=>?_⟩;rcases hr.2 j k p with a|⟨g,f,d,a,l,m,n⟩|a
 ·exact .inl a
 ·refine .inr (.inl ⟨g,f,d,a,l,m,λi q o=>?_⟩);obtain⟨v,q1,q2⟩:=n i q o;exact⟨v,q1,λc r=>(q2 c r).later e⟩
 ·exact .inr (.inr a)
def Tj{N:Nat}{env env2:Env}{H b:Aq}(f:b.length=H.length)(hr: ∀X h w,Ik X h H w→Rw (cx X h H w) (cx X h b w) H b∧ ∀t c,(t,c)∈env2→ ∃v,(t,v)∈env∧Conv (cx X h H w) (cx X h b w) v c):
  F6 N H.length env H env2 b:=by
 refine⟨by omega,λX h a w s=>?_⟩;obtain⟨q1,q2⟩:=hr X h w s.sim;refine⟨h,⟨s.sim.rel q1,λt c m=>?_,s.size⟩,λ_ _=>⟨rfl,rfl,rfl⟩,q1.own⟩;obtain⟨v,d,e⟩:=q2 t c m;exact⟨(s.env t v d).1,e _ (s.env t v d).2⟩
def Rw.ext{X:Nat->Prop}{h c:Gh}{H a b:Aq}{w d:World}{x y:Cx}(hr:Rw x y H b)(e:HS c a d h H w):HS c a d h b w where
 os:=e.os
 tape:=e.tape
 output:=e.output
 size:=e.size
 keep:=e.keep
 n:=by rw[hr.1];exact e.n
 gen:=e.gen
 same:=e.same
 fresh B hB:=e.fresh B (hr.own B hB)
 loops:=e.loops
def Ii.after{P:Program}{N:Nat}{o:Oper}{env:Env}{H:Aq}{v f:AW}{H1 b:Aq}(h:Ii P N o env H (DO v H1))
  (hr: ∀X h w,Ik X h H1 w->Rw (cx X h H1 w) (cx X h b w) H1 b/\Conv (cx X h H1 w) (cx X h b w) v f):Ii P N o env H (DO f b):=by
 intro r X g a w s Q;apply Te (h r X g a w s Q);rintro n l ⟨c,u,d,m,i,⟨rfl,rfl⟩,j,e,k⟩;obtain⟨q1,q2⟩:=hr X d l e;exact⟨c,_,d,_,i,⟨rfl,rfl⟩,q2 _ j,e.rel q1,Rw.ext (X:=X) q1 k⟩
def Ii.before{P:Program}{N:Nat}{o:Oper}{env env2:Env}{H H2:Aq}{K:AW->Aq->Prop}(b:F6 N H.length env H env2 H2)(h:Ii P N o env2 H2 K):Ii P N o env H K:=by intro r X g a w s Q;obtain⟨f,q,j,l⟩:=b.2 X g a w s;apply Te (h r X f a w q Q);rintro t u ⟨c,v,e,d,i,k,n,m,p⟩;exact⟨c,v,e,d,i,k,n,m,(F6.ext rfl b.1 j l (HS.refl g H w)).trans p⟩
def Eo.before{P:Program}{F:FuncId}{args args2:List AW}{H H2:Aq}{K:AW→Aq→Prop}(hn:args2.length=args.length)
  (hr: ∀X h w,Ik X h H w->Rw (cx X h H w) (cx X h H2 w) H H2/\ ∀(j:Nat) (b:AW),args2[j]? =some b-> ∃v,args[j]? =some v/\Conv (cx X h H w) (cx X h H2 w) v b)
  (h:Eo P F args2 H2 K):Eo P F args H K:=by
 intro X g w a s n k;obtain⟨q1,q2⟩:=hr X g w s;refine(h X g w a (s.rel q1) (by omega) λj b c m l=>?_).mono ?_
 ·obtain⟨v,o,d⟩:=q2 j b m;exact d _ (k j v c o l)
 ·rintro e t ⟨c,v,i,f,rfl,q,r,p,x⟩;exact⟨c,v,i,f,rfl,q,r,p,(Rw.ext (X:=X) q1 (HS.refl g H w)).trans x⟩
def Ub(v v':AW):Prop:= ∀(x:Cx) (c:Value),Bh x v c->Bh x v' c
def Ub.refl(v:AW):Ub v v:=λ_ _ h=>h
def Ub.nil{sz:Nat}(h:0<sz):Ub .nils (.vs sz []):=λ_ _ r=>r.nil_vs h
def DU(cs cs':List AW):Prop:=cs'.length=cs.length/\ ∀(i:Nat) (v':AW),cs'[i]? =some v'-> ∃v,cs[i]? =some v/\Ub v v'
def DU.refl(a:List AW):DU a a:=⟨rfl,λ_ v h=>⟨v,h,.refl v⟩⟩
def DU.append{a e b f:List AW}(c:DU a e)(g:DU b f):DU (a++b) (e++f):=by
 refine⟨by simp[c.1,g.1],λi j h=>?_⟩;rcases Ag i e.length with d|d
 ·rw[BW d]at h;obtain⟨v,q1,q2⟩:=c.2 i j h;exact⟨v,by rw[BW (by rw[<-c.1];exact d)];exact q1,q2⟩
 ·rw[CG d]at h;obtain⟨v,q1,q2⟩:=g.2 _ j h;exact⟨v,by rw[CG (by rw[<-c.1];exact d),<-c.1];exact q1,q2⟩
def DU.one{v b:AW}(h:Ub v b):DU [v] [b]:=⟨rfl,λi u a=>by
 match i,a with
 |0,a=>simp at a;subst a;exact⟨v,rfl,h⟩
 |i+1,a=>simp at a⟩
def DU.agg{b a:List AW}(h:DU b a):Ub (.agg b) (.agg a):=by
 intro x c r;cases r with
 |agg i e hr=>refine .agg (by rw[i,h.1]) e λj k d g f=>?_;obtain⟨v,q1,q2⟩:=h.2 j k g;exact q2 _ _ (hr j v d q1 f)
mutual
def Ty.mk:(t:Ty)->List Bd->Option (t.D×List Bd)
 | .bool,.bl b::r=>some (b,r)
 | .int k,.it k' n::r=>if k=k' then some (n,r)else none
 | .str,.st s::r=>some (s,r)
 | .list t,.ls t' l::r=>if h:(Ty.list t').beq (Ty.list t)=true then some (Ty.cast h l,r)else none
 | .list _,.nil::r=>some ([],r)
 | .arr n t,.ar n' t' a::r=>if h:(Ty.arr n' t').beq (Ty.arr n t)=true then some (Ty.cast h a,r)else none
 | .prod ts,ls=>ts.mk ls
 |_,_=>none
def QL.mk:(ts:QL)->List Bd->Option (ts.D×List Bd)
 | .one t,ls=>t.mk ls
 | .cons t ts,ls=>
  match t.mk ls with
  |some (x,r)=>match ts.mk r with|some (y,r')=>some ((x,y),r')|none=>none
  |none=>none
end
mutual
theorem Ty.mk_spec: ∀(t:Ty) (b:List Bd) (x:t.D) (r:List Bd),t.mk b=some (x,r)-> ∃a,b=a++r/\DU (lvs a) (t.enc x).cells
 | .bool,b,x,r,h=>by
  cases b with
  |nil=>simp[Ty.mk]at h
  |cons y b=>
   cases y<;>simp only[Ty.mk]at h<;>try (cases h;done)
   simp only[AV,Br]at h;obtain⟨rfl,rfl⟩:=h;exact⟨[_],rfl,DU.refl _⟩
 | .int k,b,x,r,h=>by
  cases b with
  |nil=>simp[Ty.mk]at h
  |cons y b=>
   cases y<;>simp only[Ty.mk]at h<;>try (cases h;done)
   split at h
   ·rename_i f;subst f;simp only[AV,Br]at h;obtain⟨rfl,rfl⟩:=h;exact⟨[_],rfl,DU.refl _⟩
   ·cases h
 | .str,b,x,r,h=>by
  cases b with
  |nil=>simp[Ty.mk]at h
  |cons y b=>
   cases y<;>simp only[Ty.mk]at h<;>try (cases h;done)
   simp only[AV,Br]at h;obtain⟨rfl,rfl⟩:=h;exact⟨[_],rfl,DU.refl _⟩
 | .list t,b,x,r,h=>by
  cases b with
  |nil=>simp[Ty.mk]at h
  |cons y b=>
   cases y<;>simp only[Ty.mk]at h<;>try (cases h;done)
   ·split at h
    ·rename_i c;simp only[AV,Br]at h;obtain⟨rfl,rfl⟩:=h;refine⟨[_],rfl,?_⟩;have d:((Ty.list t).enc (Ty.cast c ‹_›))=_:=ZG c _;rw[d];exact DU.refl _
    ·cases h
   ·simp only[AV,Br]at h;obtain⟨rfl,rfl⟩:=h;exact⟨[_],rfl,DU.one (Ub.nil t.sz_pos)⟩
 | .arr n t,b,x,r,h=>by
  cases b with
  |nil=>simp[Ty.mk]at h
  |cons y b=>
   cases y<;>simp only[Ty.mk]at h<;>try (cases h;done)
   split at h
   ·rename_i c;simp only[AV,Br]at h;obtain⟨rfl,rfl⟩:=h;refine⟨[_],rfl,?_⟩;have d:((Ty.arr n t).enc (Ty.cast c ‹_›))=_:=ZG c _;rw[d];have e: ∀y:Bd,lvs [y]=y.enc:=λy=>by rw[Gg];simp[lvs]
    rw[e];exact DU.refl _
   ·cases h
 | .prod ts,b,x,r,h=>ts.mk_spec b x r (by simpa only[Ty.mk]using h)
theorem QL.mk_spec: ∀(d:QL) (c:List Bd) (x:d.D) (r:List Bd),d.mk c=some (x,r)-> ∃a,c=a++r/\DU (lvs a) (d.cells x)
 | .one t,c,x,r,h=>t.mk_spec c x r (by simpa only[QL.mk]using h)
 | .cons t d,c,x,r,h=>by
  simp only[QL.mk]at h;split at h
  ·rename_i y e f;split at h
   ·rename_i z k g;simp only[AV,Br]at h;obtain⟨rfl,rfl⟩:=h;obtain⟨a,rfl,i⟩:=t.mk_spec c y e f;obtain⟨b,rfl,j⟩:=d.mk_spec e z k g;exact⟨a++b,by rw[Ax],by rw[GN];exact i.append j⟩
   ·cases h
  ·cases h
end
def Ty.isAgg:Ty->Bool
 | .arr .. =>true
 | .prod _=>true
 |_=>false
def Ty.all(t:Ty)(ls:List Bd):Option t.D:=
 match t.mk ls with
 |some (x,[])=>some x
 |_=>none
def FZ{t:Ty}{b:List Bd}{x:t.D}(h:t.all b=some x):DU (Go.Ab.lvs b) (t.enc x).cells:=by
 unfold Ty.all at h;split at h
 ·rename_i y d;injection h with h;subst h;obtain⟨a,rfl,c⟩:=t.mk_spec b y [] d;rw[DQ];exact c
 ·cases h
def Ty.data(t:Ty)(v:TV):Option t.D:=
 match v with
 | .c x=>match t.isAgg|| !x.scalar with|true=>none|false=>t.all [x]
 | .g cs=>match t.isAgg with|true=>t.all cs|false=>none
 |_=>none
def Ty.scalar_cells{t:Ty}(h:t.isAgg=false)(x:t.D):(t.enc x).cells=[t.enc x]:=by cases t<;>first|rfl|cases h
def Ty.agg_enc{t:Ty}(h:t.isAgg=true)(x:t.D):t.enc x= .agg (t.enc x).cells:=by cases t<;>first|rfl|cases h
def LY{t:Ty}{v:TV}{x:t.D}(h:t.data v=some x):Ub v.enc (t.enc x):=by
 unfold Ty.data at h;split at h
 ·rename_i y;split at h
  ·cases h
  ·rename_i a;simp only[Bool.or_eq_false_iff,Bool.not_eq_false']at a;have:=FZ h;rw[t.scalar_cells a.1,Gg,LV a.2]at this;obtain⟨u,b,c⟩:=this.2 0 _ rfl;simp at b;subst b;exact c
 ·rename_i d;split at h
  ·rename_i a;have:=(FZ h).agg;rw[<-t.agg_enc a]at this;exact this
  ·cases h
 ·cases h
def Ty.tv(t:Ty)(x:t.D):TV:=
 match t,x with
 | .bool,b=>.c (.bl b)
 | .int k,n=>.c (.it k n)
 | .str,s=>.c (.st s)
 | .list t,l=>.c (.ls t l)
 | .arr n t,a=>.g [.ar n t a]
 | .prod ts,x=>.g (ts.lvs x)
def Ty.tv_enc(t:Ty)(x:t.D):(t.tv x).enc=t.enc x:=by
 cases t with
 |arr n t=>
  have a: ∀y:Bd,Go.Ab.lvs [y]=y.enc:=λy=>by rw[Gg];simp[Go.Ab.lvs]
  simp only[Ty.tv,TV.enc,a];rfl
 |prod b=>simp only[Ty.tv,TV.enc,b.lvs_cells];rfl
 |_=>rfl
def Ty.tv_ok{H:An}(t:Ty)(x:t.D):(t.tv x).ok H:=by
 cases t with
 |arr n t=>exact λy a=>by simp only[Ty.tv,TV.refs,A5]at a;subst a;trivial
 |prod b=>exact b.lvs_ok x
 |_=>exact JL trivial
def Df.ro:Df->Bool
 | .dead=>false
 | .live b _=>b
 | .buf b _ _ _ _=>b
 | .lp b _ _ _ _ _ _ _=>b
 | .mp b _ _ _=>b
def Df.isLp:Df->Bool
 | .lp .. =>true
 |_=>false
def vS(H H':An):Prop:= ∀(id:Nat),id<H.length-> ∀ro F n env ps a b s,H'[id]? =some (.lp ro F n env ps a b s)-> ∃ro0 s0,H[id]? =some (.lp ro0 F n env ps a b s0)
def vS.refl(H:An):vS H H:=λ_ _ _ _ _ _ _ _ _ _ h=>⟨_,_,h⟩
def Df.lock:Df->Df
 | .dead=>.dead
 | .live _ cs=>.live true cs
 | .buf _ t l n ver=>.buf true t l n ver
 | .lp _ F n env ps a b s=>.lp true F n env ps a b s
 | .mp _ k t es=>.mp true k t es
def mK(e:Df):e.lock.enc=e.enc:=by cases e<;>rfl
structure B8(H H':An):Prop where
 len:H.length<=H'.length
 refs: ∀id ver t n,TC H id ver t n->TC H' id ver t n
 ro: ∀(id:Nat) (e:Df),H[id]? =some e->e.ro=true->H'[id]? =some e
 nb: ∀id,id<H.length->(∀t l n ver,H[id]? ≠some (.buf false t l n ver))-> ∀t l n ver,H'[id]? ≠some (.buf false t l n ver)
 lp:vS H H'
def B8.refl(H:An):B8 H H:=⟨Aj _,λ_ _ _ _ h=>h,λ_ _ h _=>h,λ_ _ h=>h,.refl H⟩
def B8.trans{a b c:An}(h:B8 a b)(k:B8 b c):B8 a c:=⟨D4 h.len k.len,λd f t n q=>k.refs d f t n (h.refs d f t n q),λd e q r=>k.ro d e (h.ro d e q r) r,λd q r=>k.nb d (DD q h.len) (h.nb d q r),λd q _ _ _ _ _ _ _ _ r=>by obtain⟨i,j,g⟩:=k.lp d (DD q h.len) _ _ _ _ _ _ _ _ r;exact h.lp d q _ _ _ _ _ _ _ _ g⟩
def B8.leaf{H b:An}(h:B8 H b){x:Bd}(k:x.ok H):x.ok b:=by
 cases x with
 |own c a t n=>exact h.refs c a t n k
 |_=>trivial
def B8.lok{H a:An}(h:B8 H a){b:List Bd}(k:lok H b):lok a b:=λx c=>h.leaf (k x c)
def B8.tv{H a:An}(h:B8 H a){v:TV}(k:v.ok H):v.ok a:=h.lok k
def B8.ent{H a:An}(h:B8 H a){e:Df}(k:e.ok H):e.ok a:=by
 cases e with
 |live b d=>exact h.lok k
 |buf b t l n c=>exact k
 |dead=>trivial
 |lp=>exact k
 |mp=>exact k
def B8.env{H a:An}(h:B8 H a){env:BY}(k: ∀p∈env,p.2.ok H): ∀p∈env,p.2.ok a:=λp b=>h.tv (k p b)
def B8.push(H:An)(e:Df):B8 H (H++[e]):=by
 refine⟨by simp,λc j t n h=>⟨by have:=h.1;simp;omega,λro i l g d b=>?_⟩,λc k b hr=>?_,λc a h=>by rw[BW a];exact h,λc a _ _ _ _ _ _ _ _ h=>by rw[BW a]at h;exact⟨_,_,h⟩⟩
 ·rw[BW h.1]at b;exact h.2 ro i l g d b
 ·have:c<H.length:=by
   rcases Ag c H.length with f|f
   ·exact f
   ·rw[BP f]at b;cases b
  rw[BW this];exact b
def B8.set{H:An}{m:Nat}{e u:Df}(p:H[m]? =some e)(hr:e.ro=false)
  (z: ∀ro t l n k,u= .buf ro t l n k-> ∃d w r f,e= .buf d t w r f/\(f<k\/(f=k/\r=n)))
  (C: ∀ro F n env A a b s,u= .lp ro F n env A a b s-> ∃d x,e= .lp d F n env A a b x:=by intro _ _ _ _ _ _ _ _ h;cases h):B8 H (H.set m u):=by
 have o:m<H.length:=by
  rcases Ag m H.length with v|v
  ·exact v
  ·rw[BP v]at p;cases p
 refine⟨by simp,λj k t n h=>⟨by simpa using h.1,λro J l I B g=>?_⟩,λj G g y=>?_,λj g h t l n k i=>?_,λj g _ _ _ _ _ _ _ _ i=>?_⟩
 ·by_cases c:j=m
  ·subst c;rw[EI o]at g;injection g with g;obtain⟨d,w,r,f,q1,q2⟩:=z _ _ _ _ _ g;subst q1;obtain⟨D,E⟩:=h.2 _ _ _ _ _ p;rcases q2 with q2|⟨rfl,rfl⟩
   ·exact⟨by omega,λe=>by omega⟩
   ·exact⟨D,E⟩
  ·rw[C1 (λe=>c e.symm)]at g;exact h.2 _ _ _ _ _ g
 ·have c:j≠m:=by rintro rfl;rw[p]at g;injection g with g;subst g;rw[hr]at y;cases y
  rw[C1 (λe=>c e.symm)];exact g
 ·by_cases c:j=m
  ·subst c;rw[EI o]at i;injection i with i;obtain⟨d,w,r,f,q1,_⟩:=z _ _ _ _ _ i;subst q1;have:d=false:=hr;subst this;exact h _ _ _ _ p
  ·rw[C1 (λe=>c e.symm)]at i;exact h _ _ _ _ i
 ·by_cases c:j=m
  ·subst c;rw[EI o]at i;injection i with i;obtain⟨d,x,q⟩:=C _ _ _ _ _ _ _ _ i;exact⟨d,x,by rw[p,q]⟩
  ·rw[C1 (λe=>c e.symm)]at i;exact⟨_,_,i⟩
def Od{H:An}{e:Df}(h: ∀x∈H,x.ok H)(b:e.ok (H++[e])): ∀x∈H++[e],x.ok (H++[e]):=by
 intro x a;rcases Ar.1 a with a|a
 ·exact(B8.push H e).ent (h x a)
 ·simp at a;subst a;exact b
def SZ{H:An}{b:Nat}{a:Df}(e:B8 H (H.set b a))(h: ∀x∈H,x.ok H)(d:a.ok (H.set b a)): ∀x∈H.set b a,x.ok (H.set b a):=by
 intro x c;rcases Q2 c with c|rfl
 ·exact e.ent (h x c)
 ·exact d
def Frame(F:List Nat)(H H':An):Prop:= ∀j,j<H.length->j∉F->H'[j]? =H[j]?
def Frame.refl(F:List Nat)(H:An):Frame F H H:=λ_ _ _=>rfl
def Frame.push(F:List Nat)(H:An)(e:Df):Frame F H (H++[e]):=λ_ a _=>BW a
def Frame.set{F:List Nat}{H:An}{a:Nat}{e:Df}(h:a∈F):Frame F H (H.set a e):=λj _ hn=>C1 λq:a=j=>hn (by rw[<-q];exact h)
def yh:TV->List Nat
 | .c (.raw a)=>g9 a
 | .c (.own id _ _ _)=>[id]
 | .aptr id .. =>[id]
 | .bptr id .. =>[id]
 |_=>[]
def yi(v:TV):g9 v.enc=yh v:=by
 cases v with
 |c x=>
  cases x with
  |ar n t a=>rfl
  |_=>rfl
 |_=>rfl
def Pj(H:An)(e:Df):A3 (H++[e])=A3 H++[e.enc]:=by simp[A3]
def ND(H:An)(a:Nat)(e:Df):A3 (H.set a e)=(A3 H).set a e.enc:=by simp[A3,List.map_set]
def CO(H:An):(A3 H).length=H.length:=Cm _
section
variable {R:Type}
def storeT(P:Program)(H:An)(t:TypeId)(p v:TV)(k:TV->An->Option R):Option R:=
 match v.words,tI P t with
 |some ws,some (_,n)=>
  match Nat.beq (xk ws) n with
  |false=>none
  |true=>
   match p with
   | .c (.raw (.ptr id 0 off))=>
    match H[id]? with
    |some (.live false cs)=>match vI cs off ws n with|some cs'=>k Sq (H.set id (.live false cs'))|none=>none
    |_=>none
   | .aptr id base m te i off=>
    match H[id]? with
    |some (.live false cs)=>
     match Tf cs base with
     |some (pre,.ar m' te' a::post)=>
      if h:(Ty.arr m' te').beq (Ty.arr m te)=true then
       (Ky (n:=m+1) (Ty.cast h a) i).bind λe=>
        match vI (te.lvs e) off ws n with
        |some ls=>match te.all ls with|some e'=>k Sq (H.set id (.live false (pre++(.ar m te (fg (n:=m+1) (Ty.cast h a) i e')::post))))|none=>none
        |none=>none
      else none
     |_=>none
    |_=>none
   | .bptr id ver te _ i off=>
    match H[id]? with
    |some (.buf false te' l n' ver')=>
     match Nat.beq ver ver' with
     |true=>
      if h:(Ty.list te').beq (Ty.list te)=true then
       (ix (α:=te.D) (Ty.cast h l) i).bind λe=>
        match vI (te.lvs e) off ws n with
        |some ls=>match te.all ls with|some e'=>k Sq (H.set id (.buf false te (BZ (α:=te.D) (Ty.cast h l) i e') n' ver'))|none=>none
        |none=>none
      else none
     |false=>none
    |_=>none
   |_=>none
 |_,_=>none
def qx{a x b d:List AW}{c:Nat}(h:c+d.length<=x.length):T4 (a++x++b) (a.length+c) d=a++T4 x c d++b:=by
 unfold T4;have e:(a++x++b).take (a.length+c)=a++x.take c:=by rw[Ax,fV,Dq (by omega),VJ,lK (by omega)]
 have f:(a++x++b).drop (a.length+c+d.length)=x.drop (c+d.length)++b:=by rw[Ax,PH,<-LM,Jv,nL h]
 rw[e,f];simp
def Rw.set_less{x y:Cx}{H n o:Aq}{h g:Nat}{k cs':List AW}(d:h<H.length)(u:n=H.set h (.live g k))(w:o=H.set h (.live g cs'))(p:DU k cs')(f:x.Later y):Rw x y n o:=by
 subst u w;refine⟨by simp,λj s b=>?_⟩;have q: ∀c z:Nat,True:=λ_ _=>trivial;by_cases a:j=h
 ·subst a;rw[EI d]at b;injection b with b;subst b;refine .inr (.inl ⟨g,k,cs',by rw[EI d],rfl,p.1,λi m l=>?_⟩);obtain⟨v,q1,q2⟩:=p.2 i m l;exact⟨v,q1,λc r=>q2 _ _ (r.later f)⟩
 ·rw[C1 (λe=>a e.symm)]at b;cases s with
  |live t c0=>exact .inr (.inl ⟨t,c0,c0,by rw[C1 (λe=>a e.symm)];exact b,rfl,rfl,λi m l=>⟨m,l,λc r=>r.later f⟩⟩)
  |_=>exact .inr (.inr ⟨by rw[C1 (λe=>a e.symm)];exact b,by simp⟩)
def bV{X:Nat->Prop}{h:Gh}{H b:Aq}{w:World}(l:b.length=H.length)(i: ∀(j:Nat) (e:EM),b[j]? =some e->e≠ .dead-> ∃a,H[j]? =some a/\a≠ .dead):(cx X h H w).Later (cx X h b w):={size:=Aj _,keep:=λ_ _ _ _=>rfl,gen:=λ_ _=>Aj _,same:=λ_ _ _=>⟨rfl,rfl⟩,n:=by simp[cx,l],own:=λB _ m=>m.imp _root_.id (λ⟨j,e,k,d,c⟩=>by obtain⟨a,f,g⟩:=i j e k d;exact⟨j,a,f,g,c⟩)}
def Ii.set_less{P:Program}{N:Nat}{o:Oper}{env:Env}{H:Aq}{v:AW}{a g:Nat}{i cs':List AW}(b:a<H.length)(h:Ii P N o env H (DO v (H.set a (.live g i))))(n:DU i cs'):Ii P N o env H (DO v (H.set a (.live g cs'))):=by
 refine Ii.after h λX l w _=>?_;have f:(cx X l (H.set a (.live g i)) w).Later (cx X l (H.set a (.live g cs')) w):=by
  refine bV (by simp) λj e m k=>?_;by_cases d:j=a
  ·subst d;exact⟨_,EI b,by simp⟩
  ·rw[C1 (λe=>d e.symm)]at m⊢;exact⟨e,m,k⟩
 exact⟨Rw.set_less b rfl rfl n f,λc r=>r.later f⟩
def Ez{b:Type}{l:List b}{i:Nat}{x:b}(h:l[i]? =some x):i<l.length:=by
 rcases Ag i l.length with a|a
 ·exact a
 ·rw[BP a]at h;cases h
variable {P:Program} {N:Nat} {o:Oper} {env:BY} {H:An} {k:TV->An->Option R} {r:R}
def iM(P:Program)(N:Nat)(o:Oper)(env:BY)(H:An)(F:List Nat)(k:TV->An->Option R)(r:R):Prop:=
 ∃v H',Ii P N o (Bw env) (A3 H) (DO v.enc (A3 H'))/\k v H'=some r/\v.ok H'/\(∀e∈H',e.ok H')/\B8 H H'/\Frame F H H'
def pM{t:TypeId}{x y:Operand}(ok:PB env H)(ho:o.op= .store t x y)(h:storeT P H t (Ij env x) (Ij env y) k=some r):iM P N o env H (yh (Ij env x)) k r:=by
 have Y:=KO env;have a1:(Ij env y).ok H:=af ok.env y;have ap:(Ij env x).ok H:=af ok.env x;unfold storeT at h;split at h
 ·rename_i ws b n hw ht;obtain⟨w1,X,w3⟩:=V9 hw;split at h
  ·cases h
  ·rename_i hn;have f:(lvs ws).length=n:=by rw[Zs];exact Ba hn
   have T:tI P t=some (b,(Ij env y).enc.cells.length):=by rw[X,f,ht]
   split at h
   ·rename_i p d I;split at h
    ·rename_i cs w;split at h
     ·rename_i O hs;obtain⟨s1,s2,s3⟩:=eP hs f;have F:(A3 H)[p]? =some (.live 0 (lvs cs)):=by rw[E7,w];rfl
      have j:B8 H (H.set p (.live false O)):=B8.set w rfl λ_ _ _ _ _ h=>by cases h
      refine⟨Sq,_,?_,h,bk,SZ j ok.heap (j.lok (s3 H (ok.heap _ (BV w)) (w3 H a1))),j,Frame.set (by rw[I];exact A5.2 rfl)⟩;refine Ii.store ho (id:=p) (g:=0) (off:=d) (v:=(Ij env y).enc) (by rw[Y,I];rfl) (Y y) w1 F T (by rw[X,f];exact s2) ⟨rfl,?_⟩;rw[ND,X,<-s1];rfl
     ·cases h
    ·cases h
   ·rename_i p B m te i d I;split at h
    ·rename_i cs w;split at h
     ·rename_i A Z c a q hs;split at h
      ·rename_i hb;have V:=Ty.beq_eq _ _ hb;injection V with hm U;subst hm U;obtain⟨e,hg,h⟩:=Dt.1 h;split at h
       ·rename_i ls S;split at h
        ·rename_i Q C;obtain⟨ad,L⟩:=Nr hs;obtain⟨s1,s2,_⟩:=eP S f;have u:=FZ C;have s:(Ty.cast hb a:Qy (Z+1) c.D)=a:=rfl;rw[s]at hg h;obtain⟨h0,J,rfl,rfl⟩:=iQ hg;obtain⟨M,c2,q1,q2,q3⟩:=lO c.E a J;have F:(A3 H)[p]? =some (.live 0 (lvs A++M++(c.enc (a J)).cells++(c2++lvs q))):=by rw[E7,w,ad];show some (EM.live 0 (lvs (A++(.ar Z c a::q))))=_;rw[GN,Gg,YW,q1];simp only[Ax];rfl
         have j:B8 H (H.set p (.live false (A++(.ar Z c (fg (n:=Z+1) a (J.val:Int) Q)::q)))):=B8.set w rfl λ_ _ _ _ _ h=>by cases h
         have al:lok H cs:=ok.heap _ (BV w);rw[ad]at al;obtain⟨o1,o2⟩:=Gj.1 al;refine⟨Sq,_,?_,h,bk,SZ j ok.heap (j.lok (Gj.2 ⟨o1,λz hz=>?_⟩)),j,Frame.set (by rw[I];exact A5.2 rfl)⟩
         ·have G:d+(lvs ws).length<=(c.enc (a J)).cells.length:=by rw[f,<-c.lvs_enc];exact s2
          have st:=Ii.store (P:=P) (N:=N) (K:=DO .any ((A3 H).set p (.live 0 (T4 (lvs A++M++(c.enc (a J)).cells++(c2++lvs q)) (B+(J.val:Int).toNat*c.sz+d) (Ij env y).enc.cells)))) ho (id:=p) (g:=0)
           (off:=B+(J.val:Int).toNat*c.sz+d) (v:=(Ij env y).enc) (by rw[Y,I];rfl) (Y y) w1 F T (by rw[X,f];simp only[Ad,q2,L];have:c.E.sz=c.sz:=rfl;rw[f]at G;simp only[DP,this];omega) ⟨rfl,rfl⟩
          have ea:B+(J.val:Int).toNat*c.sz+d=(lvs A++M).length+d:=by rw[Ad,L,q2,DP];rfl
          rw[X,ea,qx G]at st;have R:=Ii.set_less (cs':=lvs (A++(.ar Z c (fg (n:=Z+1) a (J.val:Int) Q)::q))) (by rw[CO];exact Ez w) st (by rw[GN,Gg,YW,q3 Q];simp only[Ax];refine(DU.refl _).append ((DU.refl _).append (DU.append ?_ (DU.refl _)));rw[<-c.lvs_enc,<-s1];exact u);rw[ND];exact R
         ·rcases Al.1 hz with rfl|hz
          ·trivial
          ·exact o2 z (by simp[hz])
        ·cases h
       ·cases h
      ·cases h
     ·cases h
    ·cases h
   ·rename_i p W te nn i d I;split at h
    ·rename_i c l n' a2 w;split at h
     ·rename_i hv;have a0:=Ba hv;subst a0;split at h
      ·rename_i hb;have V:=Ty.beq_eq _ _ hb;injection V with U;subst U;obtain⟨e,hg,h⟩:=Dt.1 h;split at h
       ·rename_i ls S;split at h
        ·rename_i Q C;obtain⟨s1,s2,_⟩:=eP S f;have u:=FZ C;have s:(Ty.cast hb l:List c.D)=l:=rfl;rw[s]at hg h;obtain⟨M,c2,q1,q2,q3,q4,_,q5⟩:=lV c.E hg;have hr:TC H p W c nn:=by rw[I]at ap;exact ap (.own p W c nn) (by simp[TV.refs])
         obtain⟨_,ax⟩:=hr.2 _ _ _ _ _ w;obtain⟨_,rfl⟩:=ax rfl;have as:n'=l.length:=ok.heap _ (BV w);have F:(A3 H)[p]? =some (.live n' (M++(c.enc e).cells++c2)):=by rw[E7,w];show some (EM.live n' (c.E.cl l))=_;rw[q1];rfl
         have j:B8 H (H.set p (.buf false c (BZ l i Q) n' W)):=B8.set w rfl λ_ _ _ _ _ h=>by cases h;exact⟨_,_,_,_,rfl,.inr ⟨rfl,rfl⟩⟩
         refine⟨Sq,_,?_,h,bk,SZ j ok.heap ((Pa as.symm).symm),j,Frame.set (by rw[I];exact A5.2 rfl)⟩;have G:d+(lvs ws).length<=(c.enc e).cells.length:=by rw[f,<-c.lvs_enc];exact s2
         have st:=Ii.store (P:=P) (N:=N) (K:=DO .any ((A3 H).set p (.live n' (T4 (M++(c.enc e).cells++c2) (i.toNat*c.sz+d) (Ij env y).enc.cells)))) ho (id:=p) (g:=n')
          (off:=i.toNat*c.sz+d) (v:=(Ij env y).enc) (by rw[Y,I];rfl) (Y y) w1 F T (by rw[X,f];simp only[Ad,q2];have:c.E.sz=c.sz:=rfl;rw[f]at G;rw[this];omega) ⟨rfl,rfl⟩
         have ea:i.toNat*c.sz+d=M.length+d:=by rw[q2];rfl
         rw[X,ea,qx G]at st;have R:=Ii.set_less (cs':=c.E.cl (BZ l i Q)) (by rw[CO];exact Ez w) st (by unfold BZ;rw[q5 Q];refine DU.append (DU.append (DU.refl _) ?_) (DU.refl _);rw[<-c.lvs_enc,<-s1];exact u);rw[ND];exact R
        ·cases h
       ·cases h
      ·cases h
     ·cases h
    ·cases h
   ·cases h
 ·cases h
end
section
variable {R:Type}
def rP(P:Program)(H:An)(t:TypeId)(k:TV->An->Option R):Option R:=
 match mm P t with
 |some z=>k (.c (.raw (.ptr H.length 0 0))) (H++[.live false z])
 |none=>none
def yI(H:An)(v:TV)(k:TV->An->Option R):Option R:=
 match v.words with
 |some ws=>k (.c (.raw (.ptr H.length 0 0))) (H++[.live false ws])
 |none=>none
def fJ(t:Ty):List TV->Option (List t.D)
 |[]=>some []
 |v::r=>match t.data v,fJ t r with|some x,some xs=>some (x::xs)|_,_=>none
def yY(P:Program)(t:TypeId):Option Ty:=
 match eI P t with
 |some (none,e,sz)=>
  match tA P 1000 e with
  |some te=>if sz=te.sz/\QK P e=true then some te else none
  |none=>none
 |_=>none
def ba(len:Nat)(te:Ty)(parts:Array (Nat×Operand))(vs:List TV):Bool:=
 decide (parts.toList.map (·.1)=List.range len)&&(vs.all λv=>match v.words with|some ws=>Nat.beq (xk ws) te.sz|none=>false)&&Nat.ble len 4096&&Nat.ble te.sz 4096
def Wn(P:Program)(env:BY)(H:An)(t:TypeId)(len:Nat)(parts:Array (Nat×Operand))(k:TV->An->Option R):Option R:=
 match yY P t with
 |some te=>
  match ba len te parts (parts.toList.map λp=>Ij env p.2)with
  |true=>match fJ te (parts.toList.map λp=>Ij env p.2)with|some xs=>k (.c (.own H.length 0 te xs.length)) (H++[.buf false te xs xs.length 0])|none=>none
  |false=>none
 |none=>none
def js(P:Program)(env:BY)(t:TypeId)(len:Nat)(parts:Array (Nat×Operand))(k:TV->Option R):Option R:=
 match yY P t with
 |some te=>
  match ba len te parts (parts.toList.map λp=>Ij env p.2)with
  |true=>match fJ te (parts.toList.map λp=>Ij env p.2)with|some xs=>k (.c (.ls te xs))|none=>none
  |false=>none
 |none=>none
def bW(P:Program)(H:An)(t:TypeId)(x y:TV)(k:TV->An->Option R):Option R:=
 match eI P t,x,y with
 |some (none,e,_),.c (.it _ l),.c (.it _ c)=>
  match yY P t,mm P e with
  |some te,some z=>match te.all z with|some zd=>(mk zd l c).bind λr=>k (.c (.own H.length 0 te r.length)) (H++[.buf false te r r.length 0])|none=>none
  |_,_=>none
 |_,_,_=>none
def mi(P:Program)(H:An)(src dst:TypeId)(x:TV)(k:TV->An->Option R):Option R:=
 match P.underlying src,P.underlying dst,x with
 |some _,some (.slice e),.c (.st s)=>
  match P.underlying e with
  |some (.int .u8)=>k (.c (.own H.length 0 (.int .u8) (Qx s).length)) (H++[.buf false (.int .u8) (Qx s) (Qx s).length 0])
  |_=>none
 |_,_,_=>none
def xN(H:An)(te:Ty)(v:TV):Option (List te.D):=
 match v with
 | .c (.ls te' l)=>if h:(Ty.list te').beq (Ty.list te)=true then some (Ty.cast h l)else none
 | .c (.own id ver te' _)=>if h:(Ty.list te').beq (Ty.list te)=true then(match cn H id ver te' with|some l=>some (Ty.cast (t:=.list te') (t':=.list te) h l)|none=>none)else none
 | .c .nil=>some []
 |_=>none
def kj(P:Program)(H:An)(t:TypeId)(s x:TV)(k:TV->An->Option R):Option R:=
 match yY P t with
 |some te=>
  match xN H te x with
  |some xs=>
   match s with
   | .c .nil=>(Fg [] xs).bind λr=>k (.c (.own H.length 0 te r.length)) (H++[.buf false te r r.length 0])
   | .c (.own id ver te' _)=>
    match H[id]? with
    |some (.buf false t2 l _ ver')=>
     match Nat.beq ver ver' with
     |true=>
      if h:(Ty.list t2).beq (Ty.list te)=true/\(Ty.list te').beq (Ty.list te)=true then
       (Fg (α:=te.D) (Ty.cast h.1 l) xs).bind λr=>k (.c (.own id (ver+1) te r.length)) (H.set id (.buf false te r r.length (ver+1)))
      else none
     |false=>none
    |_=>none
   |_=>none
  |none=>none
 |none=>none
variable {P:Program} {N:Nat} {o:Oper} {env:BY} {H:An} {k:TV->An->Option R} {r:R}
def mQ{H:An}{t:Ty}{l:List t.D}{a:Nat}{ro:Bool}:(TV.c (.own H.length a t l.length)).ok (H++[.buf ro t l l.length a]):=by refine JL ⟨by simp,λe h f g d b=>?_⟩;rw[CG (Aj _),G6]at b;simp only[M7,AV,Df.buf.injEq]at b;obtain⟨_,rfl,_,rfl,rfl⟩:=b;exact⟨Aj _,λ_=>⟨rfl,rfl⟩⟩
def kv(H:An)(b:Ty)(n a:Nat):(TV.c (.own H.length a b n)).enc= .sl (A3 H).length n b.sz 0 n:=by rw[CO];rfl
def oO{t:TypeId}(ok:PB env H)(b:o.op= .alloc t)(h:rP P H t k=some r):iM P N o env H [] k r:=by
 unfold rP at h;split at h
 ·rename_i z d;obtain⟨e,f⟩:=WC d;refine⟨_,_,?_,h,JL trivial,Od ok.heap (f _),B8.push _ _,Frame.push _ _ _⟩;have a:(TV.c (.raw (.ptr H.length 0 0))).enc= .ptr (A3 H).length 0 0:=by rw[CO];rfl
  rw[a,Pj];exact Ii.alloc b e ⟨rfl,rfl⟩
 ·cases h
def rU{t:TypeId}{x:Operand}(ok:PB env H)(b:o.op= .box t x)(h:yI H (Ij env x) k=some r):iM P N o env H [] k r:=by
 unfold yI at h;split at h
 ·rename_i i d;obtain⟨e,f,g⟩:=V9 d;refine⟨_,_,?_,h,JL trivial,Od ok.heap ((B8.push _ _).lok (g H (af ok.env x))),B8.push _ _,Frame.push _ _ _⟩;have a:(TV.c (.raw (.ptr H.length 0 0))).enc= .ptr (A3 H).length 0 0:=by rw[CO];rfl
  rw[a,Pj];exact Ii.box b (KO env x) e ⟨rfl,by rw[f];rfl⟩
 ·cases h
def fq{t:Ty}: ∀{b:List TV} {a:List t.D},fJ t b=some a->DU (b.map TV.enc) (a.map t.enc)
 |[],a,h=>by simp only[fJ,AV]at h;subst h;exact DU.refl _
 |v::r,a,h=>by
  simp only[fJ]at h;split at h
  ·rename_i x e c d;injection h with h;subst h;have:=fq d;exact(DU.one (LY c)).append this
  ·cases h
def dG{t:Ty}: ∀{e:List TV} {b:List t.D},fJ t e=some b->DU ((e.map TV.enc).flatMap AW.cells) (t.E.cl b)
 |[],b,h=>by simp only[fJ,AV]at h;subst h;exact DU.refl _
 |v::r,b,h=>by
  simp only[fJ]at h;split at h
  ·rename_i x f a j;injection h with h;subst h;have k:=dG j;have g:t.E.cl (x::f)=(t.enc x).cells++t.E.cl f:=by simp only[Rz.cl,BE,Es];rfl
   rw[BE,Es,g];refine DU.append ?_ k;unfold Ty.data at a;split at a
   ·rename_i y;split at a
    ·cases a
    ·rename_i d;simp only[Bool.or_eq_false_iff,Bool.not_eq_false']at d;have c:=FZ a;rw[Gg,LV d.2,<-Bd.scalar_cells d.2]at c;have i:lvs ([]:List Bd)=[]:=rfl;rw[i,DQ]at c;exact c
   ·rename_i l;split at a
    ·exact FZ a
    ·cases a
   ·cases a
  ·cases h
def dH{t:TypeId}{b:Ty}(h:yY P t=some b): ∃e,eI P t=some (none,e,b.sz)/\QK P e=true:=by
 unfold yY at h;split at h
 ·rename_i e sz c;split at h
  ·rename_i d _;split at h
   ·rename_i a;injection h with h;subst h;exact⟨e,by rw[c,a.1],a.2⟩
   ·cases h
  ·cases h
 ·cases h
def mU{t:TypeId}{b:Ty}{len:Nat}{a:Array (Nat×Operand)}(h:yY P t=some b)(c:ba len b a (a.toList.map λp=>Ij env p.2)=true):
  Qs P (Bw env) t len a=some (b.sz,(a.toList.map λp=>Ij env p.2).map TV.enc):=by
 obtain⟨e,k,l⟩:=dH h;unfold ba at c;simp only[BM,decide_eq_true_eq]at c;obtain⟨⟨⟨f,g⟩,i⟩,j⟩:=c;have d:(a.toList.map λp=>A8 (Bw env) p.2)=(a.toList.map λp=>Ij env p.2).map TV.enc:=by rw[HV];exact Fe λp _=>KO env p.2
 unfold Qs;simp only[k,d];refine if_pos ⟨b.sz_pos,l,f,?_,JF i,JF j⟩;rw[DG];intro v n;obtain⟨u,m,rfl⟩:=BX.1 n;have:=DG.1 g u m;split at this
 ·rename_i s o;obtain⟨q,r,_⟩:=V9 o;simp only[q,r,Zs,Bool.true_and,decide_eq_true_eq];exact Ba this
 ·cases this
def uc{t:Ty}{a:List TV}{b:List t.D}(h:fJ t a=some b):b.length=a.length:=by have:=(fq h).1;simpa using this
def Rw.push_less{x y:Cx}{H:Aq}{g:Nat}{f b:List AW}(n:DU f b)(e:x.Later y):Rw x y (H++[.live g f]) (H++[.live g b]):=by
 refine⟨by simp,λj o d=>?_⟩;rcases Ag j H.length with a|a
 ·rw[BW a]at d;cases o with
  |live p c0=>exact .inr (.inl ⟨p,c0,c0,by rw[BW a];exact d,rfl,rfl,λi m h=>⟨m,h,λc r=>r.later e⟩⟩)
  |_=>exact .inr (.inr ⟨by rw[BW a];exact d,by simp⟩)
 ·have k:=Ez d;simp at k;have l:j=H.length:=by omega
  subst l;rw[CG (Aj _),G6]at d;simp at d;subst d;refine .inr (.inl ⟨g,f,b,by simp,rfl,n.1,λi m h=>?_⟩);obtain⟨v,q1,q2⟩:=n.2 i m h;exact⟨v,q1,λc r=>q2 _ _ (r.later e)⟩
def Ii.push_less{E:Env}{A:Aq}{v:AW}{g:Nat}{f a:List AW}(h:Ii P N o E A (DO v (A++[.live g f])))(m:DU f a):Ii P N o E A (DO v (A++[.live g a])):=by
 refine Ii.after h λX l w _=>?_;have d:(cx X l (A++[.live g f]) w).Later (cx X l (A++[.live g a]) w):=by
  refine bV (by simp) λj e i k=>?_;rcases Ag j A.length with b|b
  ·rw[BW b]at i⊢;exact⟨e,i,k⟩
  ·have:=Ez i;simp at this;have:j=A.length:=by omega
   subst this;exact⟨.live g f,by simp,by simp⟩
 exact⟨Rw.push_less m d,λc r=>r.later d⟩
def gT{t:TypeId}{len:Nat}{a:Array (Nat×Operand)}(ok:PB env H)(f:o.op= .buildSlice t len a)(h:Wn P env H t len a k=some r):iM P N o env H [] k r:=by
 unfold Wn at h;split at h
 ·rename_i i d;split at h
  ·rename_i g;split at h
   ·rename_i j c;have e:=mU d g;have b:=uc c;refine⟨_,_,?_,h,mQ,Od ok.heap rfl,B8.push _ _,Frame.push _ _ _⟩;rw[kv,Pj];have:=Rb (N:=N) (H:=A3 H) (K:=DO _ _) f e ⟨rfl,rfl⟩;rw[Cm,<-b]at this;exact Ii.push_less this (dG c)
   ·cases h
  ·cases h
 ·cases h
def za{a:Ty}{vs:List AW}{n:List a.D}(h:DU vs (n.map a.enc))(J:DU (vs.flatMap AW.cells) (a.E.cl n))(A: ∀v∈vs,v.cells.length=a.sz):Ub (.vs a.sz vs) (.vs a.sz (n.map a.enc)):=by
 intro x c M;cases M with
 |vs f o r z G s=>
  have hn:(n.map a.enc).length=vs.length:=h.1;rw[<-hn];have key: ∀(j:Nat) (e:AW) (i:Nat) (v:AW),(n.map a.enc)[j]? =some e->e.cells[i]? =some v-> ∃b l,vs[j]? =some b/\b.cells[i]? =some l/\Ub l v:=by
   intro j e i v g m;obtain⟨b,q1,_⟩:=h.2 j e g;have d: ∀u∈n.map a.enc,u.cells.length=a.sz:=λu K=>by obtain⟨y,_,rfl⟩:=BX.1 K;exact a.enc_len y
   have C:=gk d j e i v g m;obtain⟨l,k,p⟩:=J.2 _ v C;have I:i<a.sz:=by have:=Ez m;rw[d e (BV g)]at this;exact this
   have H:=A b (BV q1);have w:b.cells[i]? =some (b.cells[i]'(by omega)):=Ay (by omega);have F:=gk A j b i _ q1 w;rw[F]at k;injection k with k;exact⟨b,l,q1,by rw[w,k],p⟩
  refine Bh.vs f (by rw[hn];exact o) r (λj e g=>?_) (λq=>?_) λj e i v g m=>?_
  ·obtain⟨y,_,rfl⟩:=BX.1 (BV g);exact a.enc_len y
  ·obtain⟨B,t,q1,q2,q3,q4⟩:=G (λe=>q (EA (by rw[hn,e];rfl)));refine⟨B,t,q1,q2,q3,λj e i v g m=>?_⟩;obtain⟨b,l,k,p,_⟩:=key j e i v g m;exact q4 j b i l k p
  ·obtain⟨b,l,k,p,L⟩:=key j e i v g m;exact L _ _ (s j b i l k p)
def jY{t:TypeId}{x y:Operand}(ok:PB env H)(u:o.op= .makeSlice t x y)(h:bW P H t (Ij env x) (Ij env y) k=some r):iM P N o env H [] k r:=by
 have m:=KO env;unfold bW at h;split at h
 ·rename_i e sz Q l O c p w A;split at h
  ·rename_i b z f B;split at h
   ·rename_i L g;obtain⟨I,q,h⟩:=Dt.1 h;obtain⟨M,d,v⟩:=dH f;rw[p]at d;simp only[AV,Br,true_and]at d;obtain⟨rfl,rfl⟩:=d;obtain⟨J,R⟩:=WC B;have a:=FZ g;obtain⟨⟨D,F,G⟩,j,s⟩:=ACA b.E L q;refine⟨_,_,?_,h,mQ,Od ok.heap rfl,B8.push _ _,Frame.push _ _ _⟩;rw[kv,Pj];have i:(lvs z).length=b.sz:=by rw[<-a.1,b.enc_len]
    have:=Ii.makeSlice (N:=N) (H:=A3 H) (K:=DO _ _) u p b.sz_pos v J i (by rw[m,w];rfl) (by rw[m,A];rfl) D F G ⟨rfl,rfl⟩;rw[j]at this;apply Ii.push_less this;rw[<-s,j];clear this s j q h;induction I.length with
    |zero=>exact DU.refl _
    |succ n C=>rw[TH,TH,TQ,TQ];exact DU.append a C
   ·cases h
  ·cases h
 ·cases h
def mj{b a:TypeId}{x:Operand}(ok:PB env H)(j:o.op= .convert b a x)(h:mi P H b a (Ij env x) k=some r):iM P N o env H [] k r:=by
 have f:=KO env;unfold mi at h;split at h
 ·rename_i u e s l g m;split at h
  ·rename_i i;refine⟨_,_,?_,h,mQ,Od ok.heap rfl,B8.push _ _,Frame.push _ _ _⟩;rw[kv,Pj];obtain⟨c,d⟩:=ABU s;have:=jM (N:=N) (H:=A3 H) (K:=DO _ _) j l g i (by rw[f,m];rfl) ⟨rfl,rfl⟩;rw[d,c]at this;exact this
  ·cases h
 ·cases h
def sg{f:Ty}{v:TV}{d:List f.D}(q: ∀e∈H,e.ok H)(s:v.ok H)(h:xN H f v=some d):M3 (A3 H) f.sz v.enc=some (d.length,f.E.cl d):=by
 unfold xN at h;split at h
 ·rename_i a l;split at h
  ·rename_i i;have c:=Ty.beq_eq _ _ i;injection c with b;subst b;injection h with h;have g:l=d:=h;subst g;simp only[TV.enc,Bd.one,M3,if_true,Cm];rfl
  ·cases h
 ·rename_i t m a n;split at h
  ·rename_i i;have c:=Ty.beq_eq _ _ i;injection c with b;subst b;split at h
   ·rename_i l r;injection h with h;have g:l=d:=h;subst g;obtain⟨p,o⟩:=gS q (s (.own t m a n) (by simp[TV.refs])) r;have j:=a.E.clen l;have k:a.E.sz=a.sz:=rfl;rw[k]at j;simp only[TV.enc,Bd.one,M3,p];rw[if_pos ⟨trivial,trivial,by rw[j,o];omega⟩,TO,<-o,<-j,fW]
   ·cases h
  ·cases h
 ·injection h with h;subst h;rfl
 ·cases h
def mq{t Q:TypeId}{z R:Operand}(ok:PB env H)(V:o.op= .call {callee:=.builtin .append,args:= #[z,R],argTypes:= #[t,Q]})(ht:t=Q)(h:kj P H t (Ij env z) (Ij env R) k=some r):iM P N o env H (yh (Ij env z)) k r:=by
 subst ht;have A:=KO env;unfold kj at h;split at h
 ·rename_i te J;obtain⟨e,U,W⟩:=dH J;split at h
  ·rename_i f O;have a:=sg ok.heap (af ok.env R) O;rw[<-A]at a;split at h
   ·rename_i d;obtain⟨l,w,hk⟩:=Dt.1 h;obtain⟨B,p⟩:=gQ w;rw[CA]at p;subst p;refine⟨_,_,?_,hk,mQ,Od ok.heap rfl,B8.push _ _,Frame.push _ _ _⟩;rw[kv,Pj];have:=ZE (N:=N) (H:=A3 H) (K:=DO _ _) V U te.sz_pos W (by rw[A,d];rfl) a (by simpa using B) ⟨rfl,rfl⟩;exact this
   ·rename_i x j al n d;split at h
    ·rename_i c l y X b;split at h
     ·rename_i hv;have M:=Ba hv;subst M;split at h
      ·rename_i C;have L:=Ty.beq_eq _ _ C.1;injection L with s;have v:=Ty.beq_eq _ _ C.2;injection v with u;subst u;subst s;obtain⟨l2,w,h⟩:=Dt.1 h;have g:(Ty.cast C.1 l:List c.D)=l:=rfl;rw[g]at w;obtain⟨B,rfl⟩:=gQ w;have hr:TC H x j c n:=by have:=af ok.env z;rw[d]at this;exact this (.own x j c n) (by simp[TV.refs])
       obtain⟨_,G⟩:=hr.2 _ _ _ _ _ b;obtain⟨_,rfl⟩:=G rfl;have i:y=l.length:=ok.heap _ (BV b);have m:(A3 H)[x]? =some (.live y (c.E.cl l)):=by rw[E7,b];rfl
       have q:B8 H (H.set x (.buf false c (l++f) (l++f).length (j+1))):=B8.set b rfl λ_ _ _ _ _ h=>by cases h;exact⟨_,_,_,_,rfl,.inl (Nat.lt_succ_self _)⟩
       refine⟨_,_,?_,h,JL ⟨by simpa using Ez b,λad Q l' n2 Y F=>?_⟩,SZ q ok.heap rfl,q,Frame.set (by rw[d];exact A5.2 rfl)⟩
       ·have T:=c.E.clen l;have I:c.E.sz=c.sz:=rfl;rw[I]at T;have:=QJ (N:=N) (H:=A3 H) (g':=y+f.length) (K:=DO _ _) V U c.sz_pos W (by rw[A,d];rfl) m (by rw[T,i]) a (by rw[i];exact B) (by
         rcases Q6 f.length with S|S
         ·exact .inr ⟨by omega,S⟩
         ·exact .inl (by omega)) ⟨rfl,rfl⟩
        rw[ND];have Z:(l++f).length=y+f.length:=by rw[Ad,i]
        have e2:c.E.cl (l++f)=c.E.cl l++c.E.cl f:=by simp[Rz.cl]
        simp only[TV.enc,Bd.one,Df.enc];rw[Z,e2];exact this
       ·rw[EI (Ez b)]at F;simp only[AV,Df.buf.injEq]at F;obtain⟨_,rfl,_,rfl,rfl⟩:=F;exact⟨Aj _,λ_=>⟨rfl,rfl⟩⟩
      ·cases h
     ·cases h
    ·cases h
   ·cases h
  ·cases h
 ·cases h
end
def Mr(id ver:Nat)(t:Ty)(l:List t.D):Bd->Bd
 | .own id' ver' t' n=>match Nat.beq id id'&&Nat.beq ver ver' with|true=>.ls t l|false=>.own id' ver' t' n
 |x=>x
mutual
def gq(id ver:Nat)(t:Ty)(l:List t.D):TV->TV
 | .c x=>.c (Mr id ver t l x)
 | .g cs=>.g (cs.map (Mr id ver t l))
 | .tup vs=>.tup (aj id ver t l vs)
 | .aptr a b n te i o=>.aptr a b n te i o
 | .bptr a v te n i o=>.bptr a v te n i o
 | .vptr cs post=>.vptr cs post
def aj(id ver:Nat)(t:Ty)(l:List t.D):List TV->List TV
 |[]=>[]
 |v::r=>gq id ver t l v::aj id ver t l r
end
def PN(id ver:Nat)(t:Ty)(l:List t.D):Df->Df
 | .live false cs=>.live false (cs.map (Mr id ver t l))
 |e=>e
def frz(id:Nat)(env:BY)(H:An):Option (BY×An):=
 match H[id]? with
 |some (.buf false t l _ ver)=>some (env.map λp=>(p.1,gq id ver t l p.2),(H.map (PN id ver t l)).set id .dead)
 |_=>none
def RK(x y:Cx)(a b:List AW):Prop:=b.length=a.length/\ ∀(i:Nat) (v':AW),b[i]? =some v'-> ∃v,a[i]? =some v/\Conv x y v v'
def RK.append{x y:Cx}{a e b f:List AW}(c:RK x y a e)(g:RK x y b f):RK x y (a++b) (e++f):=by
 refine⟨by simp[c.1,g.1],λi j h=>?_⟩;rcases Ag i e.length with d|d
 ·rw[BW d]at h;obtain⟨v,q1,q2⟩:=c.2 i j h;exact⟨v,by rw[BW (by rw[<-c.1];exact d)];exact q1,q2⟩
 ·rw[CG d]at h;obtain⟨v,q1,q2⟩:=g.2 _ j h;exact⟨v,by rw[CG (by rw[<-c.1];exact d),<-c.1];exact q1,q2⟩
def RK.later{x y:Cx}(l:x.Later y)(a:List AW):RK x y a a:=⟨rfl,λ_ v h=>⟨v,h,λ_ r=>r.later l⟩⟩
def RK.one{x y:Cx}{v b:AW}(h:Conv x y v b):RK x y [v] [b]:=⟨rfl,λi u a=>by
 match i,a with
 |0,a=>simp at a;subst a;exact⟨v,rfl,h⟩
 |i+1,a=>simp at a⟩
def RK.agg{x y:Cx}{b a:List AW}(h:RK x y b a):Conv x y (.agg b) (.agg a):=by
 intro c r;cases r with
 |agg i e hr=>refine .agg (by rw[i,h.1]) e λj k d g f=>?_;obtain⟨v,q1,q2⟩:=h.2 j k g;exact q2 _ (hr j v d q1 f)
def RK.tup{x y:Cx}{b a:List AW}(h:RK x y b a):Conv x y (.tup b) (.tup a):=by
 intro c r;cases r with
 |tup g hr=>refine .tup (by rw[g,h.1]) λj i d f e=>?_;obtain⟨v,q1,q2⟩:=h.2 j i f;exact q2 _ (hr j v d q1 e)
section
variable {x y:Cx} {H:An} {id n ver:Nat} {t:Ty} {l:List t.D} (lat:x.Later y) (hid:H[id]? =some (.buf false t l n ver)) (hc:Conv x y (.sl id n t.sz 0 n) (.vs t.sz (l.map t.enc)))
include lat hid hc
def gl{z:Bd}(e:z.ok H):RK x y z.enc (Mr id ver t l z).enc/\Conv x y z.one (Mr id ver t l z).one:=by
 have same: ∀w:Bd,RK x y w.enc w.enc/\Conv x y w.one w.one:=λw=>⟨.later lat _,λ_ r=>r.later lat⟩
 cases z with
 |own f b h g=>
  simp only[Mr];split
  ·rename_i a;simp only[BM]at a;have c:=Ba a.1;have d:=Ba a.2;subst c d;obtain⟨_,q⟩:=e.2 _ _ _ _ _ hid;obtain⟨rfl,rfl⟩:=q rfl;exact⟨.one hc,hc⟩
  ·exact same _
 |_=>exact same _
def jP: ∀{a:List Bd},lok H a->RK x y (lvs a) (lvs (a.map (Mr id ver t l)))
 |[],_=>.later lat _
 |z::r,h=>by rw[BE,Gg,Gg];exact(gl lat hid hc (h z (by simp))).1.append (jP λw b=>h w (by simp[b]))
mutual
theorem lq: ∀{v:TV},v.ok H->Conv x y v.enc (gq id ver t l v).enc
 | .c z,h=>(gl lat hid hc (h z (by simp[TV.refs]))).2
 | .g cs,h=>(jP lat hid hc h).agg
 | .tup vs,h=>RK.tup (kD (vs:=vs) h)
 | .aptr ..,_=>λ_ r=>r.later lat
 | .bptr ..,_=>λ_ r=>r.later lat
 | .vptr ..,_=>λ_ r=>r.later lat
theorem kD: ∀{vs:List TV},(TV.tup vs).ok H->RK x y (TV.encL vs) (TV.encL (aj id ver t l vs))
 |[],_=>.later lat _
 |v::r,h=>by simp only[TV.encL,aj];have a:v.ok H:=je h (by simp);have b:(TV.tup r).ok H:=Po λw c=>je h (by simp[c]);exact(RK.one (lq a)).append (kD b)
end
end
def ln{H b:An}{f a:Nat}{t:Ty}{l:List t.D}(c:B8 H b){z:Bd}(d:z.ok H):(Mr f a t l z).ok b:=by
 cases z with
 |own g e i h=>
  simp only[Mr];split
  ·trivial
  ·exact c.leaf d
 |_=>exact c.leaf d
def tZ{H b:An}{g a:Nat}{t:Ty}{l:List t.D}(d:B8 H b){c:List Bd}(h:lok H c):lok b (c.map (Mr g a t l)):=λz f=>by obtain⟨w,e,rfl⟩:=BX.1 f;exact ln d (h w e)
mutual
theorem qE{H d:An}{e b:Nat}{t:Ty}{l:List t.D}(a:B8 H d): ∀{v:TV},v.ok H->(gq e b t l v).ok d
 | .c z,h=>JL (ln a (h z (by simp[TV.refs])))
 | .g cs,h=>tZ a h
 | .tup vs,h=>nX a h
 | .aptr ..,h=>a.lok h
 | .bptr ..,h=>a.lok h
 | .vptr ..,h=>a.lok h
theorem nX{H c:An}{j b:Nat}{t:Ty}{l:List t.D}(d:B8 H c): ∀{e:List TV},(TV.tup e).ok H->(TV.tup (aj j b t l e)).ok c
 |[],_=>λz i=>by simp[aj,TV.refs,TV.refsL]at i
 |v::r,h=>by
  have f:v.ok H:=je h (by simp);have g:(TV.tup r).ok H:=Po λw a=>je h (by simp[a]);refine Po λw a=>?_;simp only[aj]at a;rcases Al.1 a with rfl|a
  ·exact qE d f
  ·exact je (nX d g) a
end
def wV{H:An}{g n m:Nat}{t:Ty}{l:List t.D}(k:H[g]? =some (.buf false t l n m)):B8 H ((H.map (PN g m t l)).set g .dead):=by
 have f:=Ez k;refine⟨by simp,λj z y w h=>⟨by simpa using h.1,λro L F G v d=>?_⟩,λj e d hr=>?_,λj p h y l2 w z a=>?_,λj p _ _ _ _ _ _ _ _ a=>?_⟩
 ·by_cases c:j=g
  ·subst c;rw[EI (by simpa using f)]at d;cases d
  ·rw[C1 (λe=>c e.symm),Bb]at d;cases a:H[j]? with
   |none=>rw[a]at d;cases d
   |some e=>
    rw[a]at d;simp only[BB,AV]at d;cases e with
    |live b o=>cases b<;>simp[PN]at d
    |dead=>cases d
    |lp=>cases d
    |mp=>cases d
    |buf b s q r u=>simp only[PN]at d;exact h.2 _ _ _ _ _ (by rw[a,d])
 ·have c:j≠g:=by rintro rfl;rw[k]at d;injection d with d;subst d;cases hr
  rw[C1 (λe=>c e.symm),Bb,d];cases e with
  |live b o=>cases b with|true=>rfl|false=>cases hr
  |dead=>cases hr
  |buf b s q r u=>rfl
  |lp=>rfl
  |mp=>rfl
 ·by_cases c:j=g
  ·subst c;rw[EI (by simpa using f)]at a;cases a
  ·rw[C1 (λe=>c e.symm),Bb]at a;cases i:H[j]? with
   |none=>rw[i]at a;cases a
   |some e=>
    rw[i]at a;simp only[BB,AV]at a;cases e with
    |live b o=>cases b<;>simp[PN]at a
    |dead=>cases a
    |lp=>cases a
    |mp=>cases a
    |buf b s q r u=>simp only[PN]at a;exact h _ _ _ _ (by rw[i,a])
 ·by_cases c:j=g
  ·subst c;rw[EI (by simpa using f)]at a;cases a
  ·rw[C1 (λe=>c e.symm),Bb]at a;cases i:H[j]? with
   |none=>rw[i]at a;cases a
   |some e=>
    rw[i]at a;simp only[BB,AV]at a;cases e with
    |live b o=>cases b<;>simp[PN]at a
    |dead=>cases a
    |buf b s q r u=>cases a
    |mp=>cases a
    |lp x A I E J B C K=>injection a with _ q2 q3 q4 q5 q6 q7 _;subst q2 q3 q4 q5 q6 q7;exact⟨_,_,rfl⟩
def AAY{d:Nat}{env env2:BY}{H L:An}(ok:PB env H)(h:frz d env H=some (env2,L)):PB env2 L/\B8 H L/\ ∀N,F6 N (A3 H).length (Bw env) (A3 H) (Bw env2) (A3 L):=by
 unfold frz at h;split at h
 ·rename_i t l n o i;simp only[AV,Br]at h;obtain⟨rfl,rfl⟩:=h;have I:=Ez i;have C:=wV i;have hn:n=l.length:=ok.heap _ (BV i);refine⟨⟨λp P=>?_,λe S=>?_⟩,C,λN=>?_⟩
  ·obtain⟨q,A,rfl⟩:=BX.1 P;exact qE C (ok.env q A)
  ·rcases Q2 S with S|rfl
   ·obtain⟨u,T,rfl⟩:=BX.1 S;have G:=ok.heap u T;cases u with
    |live b F=>
     cases b with
     |true=>exact C.lok G
     |false=>exact tZ C G
    |dead=>trivial
    |buf b R Q U V=>exact G
    |lp=>exact G
    |mp=>exact G
   ·trivial
  ·have x:(A3 H)[d]? =some (.live n (t.E.cl l)):=by rw[E7,i];rfl
   refine Tj (by simp[A3]) λX g w s=>?_;have D: ∀j,(A3 ((H.map (PN d o t l)).set d .dead))[j]? =if j=d then some .dead else(H[j]?).map λe=>(PN d o t l e).enc:=by
    intro j;rw[E7];by_cases f:j=d
    ·subst f;rw[if_pos rfl,EI (by simpa using I)];rfl
    ·rw[if_neg f,C1 (λe=>f e.symm),Bb,Option.map_map];rfl
   have back: ∀(j:Nat) (e:EM),(A3 ((H.map (PN d o t l)).set d .dead))[j]? =some e->e≠ .dead->j≠d/\ ∃u,(A3 H)[j]? =some u/\u≠ .dead:=by
    intro j e a k;rw[D]at a;split at a
    ·injection a with a;exact(k a.symm).elim
    ·rename_i f;refine⟨f,?_⟩;cases A:H[j]? with
     |none=>rw[A]at a;cases a
     |some u=>
      refine⟨u.enc,by rw[E7,A];rfl,λM=>k ?_⟩;rw[A]at a;simp only[BB,AV]at a;cases u with
      |live b F=>simp[Df.enc]at M
      |dead=>exact a.symm
      |buf b R Q U V=>simp[Df.enc]at M
      |lp=>simp[Df.enc]at M
      |mp=>simp[Df.enc]at M
   have z:(cx X g (A3 H) w).Later (cx X g (A3 ((H.map (PN d o t l)).set d .dead)) w):=bV (by simp[A3]) λj e a k=>(back j e a k).2;have hO: ∀B,g.io d=some B-> ¬(cx X g (A3 ((H.map (PN d o t l)).set d .dead)) w).O B:=by
    rintro B J (hX|⟨j,e,a,k,K⟩)
    ·exact(s.out B hX).2 ⟨d,_,x,by simp,J⟩
    ·obtain⟨f,u,Z,h2⟩:=back j e a k;exact f (s.inj j d _ _ B Z x h2 (by simp) K J)
   have v:Conv (cx X g (A3 H) w) (cx X g (A3 ((H.map (PN d o t l)).set d .dead)) w) (.sl d n t.sz 0 n) (.vs t.sz (l.map t.enc)):=λc r=>ke s x (AAg t.E l) (by rw[hn];exact Cm _) z rfl hO r;refine⟨⟨by simp[A3],λj e' a=>?_⟩,λtt v' m=>?_⟩
   ·rw[D]at a;split at a
    ·injection a with a;exact .inl a.symm
    ·cases A:H[j]? with
     |none=>rw[A]at a;cases a
     |some u=>
      rw[A]at a;simp only[BB,AV]at a;have y:(A3 H)[j]? =some u.enc:=by rw[E7,A];rfl
      cases u with
      |live b F=>
       refine .inr (.inl ?_);cases b with
       |true=>simp only[PN,Df.enc]at a;exact⟨0,lvs F,lvs F,y,a.symm,rfl,(RK.later z _).2⟩
       |false=>simp only[PN,Df.enc]at a;obtain⟨W,Y⟩:=jP z i v (ok.heap _ (BV A));exact⟨0,lvs F,_,y,a.symm,W,Y⟩
      |dead=>exact .inl a.symm
      |buf b R Q U V=>simp only[PN,Df.enc]at a;exact .inr (.inl ⟨U,R.E.cl Q,R.E.cl Q,y,a.symm,rfl,(RK.later z _).2⟩)
      |lp=>subst a;exact .inr (.inr ⟨y,λ_ _ h=>by cases h⟩)
      |mp=>subst a;exact .inr (.inr ⟨y,λ_ _ h=>by cases h⟩)
   ·simp only[Bw,HV,BX]at m;obtain⟨p,P,e⟩:=m;simp only[Function.comp,Br]at e;obtain⟨rfl,rfl⟩:=e;exact⟨p.2.enc,BX.2 ⟨p,P,rfl⟩,lq z i v (ok.env p P)⟩
 ·cases h
@[reducible] def DL:List Ty->Type
 |[]=>Unit
 |[t]=>t.D
 |t::u::r=>t.D×DL (u::r)
def uo:(ts:List Ty)->List TV->Option (DL ts)
 |[],[]=>some ()
 |[t],[v]=>t.data v
 |t::u::r,v::vs=>
  match t.data v,uo (u::r) vs with
  |some x,some y=>some (x,y)
  |_,_=>none
 |_,_=>none
def pP:(ts:List Ty)->DL ts->List TV
 |[],_=>[]
 |[t],x=>[t.tv x]
 |t::u::r,x=>t.tv x.1::pP (u::r) x.2
def fh:(ts:List Ty)->DL ts->List AW
 |[],_=>[]
 |[t],x=>[t.enc x]
 |t::u::r,x=>t.enc x.1::fh (u::r) x.2
def one:List TV->TV
 |[v]=>v
 |vs=>.tup vs
def jf:List AW->AW
 |[v]=>v
 |vs=>.tup vs
def LJ(bt:Ty):(rs:List Ty)->DL (rs++[bt])->DL rs×bt.D
 |[],y=>((),y)
 |[_],y=>(y.1,y.2)
 |_::u::r,y=>((y.1,(LJ bt (u::r) y.2).1),(LJ bt (u::r) y.2).2)
inductive Sf where
 |c2 (f:FuncId) (te:Ty) (ds rs:List Ty) (post:List AW) (g:List te.D->DL ds->Option (DL (rs++[.list te])))
 |cl (f:FuncId) (t:Ty)
 |c0 (f:FuncId) (ds rs:List Ty) (g:DL ds->Option (DL rs))
 |c1 (f:FuncId) (pos:Nat) (bt:Ty) (ds rs:List Ty) (g:bt.D->DL ds->Option (DL (rs++[bt])))
def Sf.f:Sf->FuncId
 | .c0 f .. =>f
 | .c1 f .. =>f
 | .c2 f .. =>f
 | .cl f _=>f
def fnB:AW->AW->Bool
 | .fn (.func F) [] [],.fn (.func G) [] []=>Nat.beq F G
 |_,_=>false
def AAW{v w:AW}(h:fnB v w=true):v=w:=by
 unfold fnB at h;split at h
 ·rw[Ba h]
 ·cases h
def nv:List TV->List AW->Bool
 |[],[]=>true
 | .c (.raw v)::r,w::s=>fnB v w&&nv r s
 |_,_=>false
def qn: ∀{l:List TV} {p:List AW},nv l p=true->l.map TV.enc=p
 |[],[],_=>rfl
 |[],_::_,h=>by simp[nv]at h
 |v::r,[],h=>by cases v<;>simp[nv]at h
 |v::r,w::s,h=>by
  unfold nv at h;split at h
  ·rename_i e;cases e
  ·rename_i c d;injection c with a1 a2;injection d with a b;subst a1 a2 a b;simp only[BM]at h;rw[BE,qn h.2];exact congrArg (· ::_) (AAW h.1)
  ·cases h
def TB:Nat->AW->List AW->List AW
 |0,v,l=>v::l
 |n+1,v,x::l=>x::TB n v l
 |_+1,v,[]=>[v]
def Sf.Ok(P:Program):Sf->Prop
 | .c2 f te ds rs post g=> ∀l x y,g l x=some y->(LJ (.list te) rs y).2.length=l.length-> ∀H id,H[id]? =some (.live l.length (te.E.cl l))->
  Eo P f (.sl id l.length te.sz 0 l.length::(fh ds x++post)) H (DO (jf (fh rs (LJ (.list te) rs y).1)) (H.set id (.live l.length (te.E.cl (LJ (.list te) rs y).2))))
 | .cl f t=> ∀(l:List t.D) (H:An),(∀e∈H,e.ok H)->(l=[]->Eo P f [.vs t.sz []] (A3 H) (DO (.vs t.sz []) (A3 (H++[.dead]))))/\
  ∀r,l≠ []->Fg [] l=some r->Eo P f [.vs t.sz (l.map t.enc)] (A3 H) (DO (.sl H.length r.length t.sz 0 r.length) (A3 (H++[.buf false t r r.length 0])))
 | .c0 f ds rs g=> ∀x y,g x=some y-> ∀H,Eo P f (fh ds x) H (DO (jf (fh rs y)) H)
 | .c1 f pos bt ds rs g=> ∀b x y,g b x=some y-> ∀H id,H[id]? =some (.live 0 (bt.enc b).cells)->Eo P f (TB pos (.ptr id 0 0) (fh ds x)) H (DO (jf (fh rs (LJ bt rs y).1)) (H.set id (.live 0 (bt.enc (LJ bt rs y).2).cells)))
section
variable {R:Type}
def tM(c:Sf)(vs:List TV)(H:An)(k:TV->An->Option R):Option R:=
 match c with
 | .c0 _ ds rs g=>match uo ds vs with|some x=>(g x).bind λy=>k (one (pP rs y)) H|none=>none
 | .c1 _ pos bt ds rs g=>
  match vs[pos]? with
  |some (.c (.raw (.ptr id 0 0)))=>
   match H[id]? with
   |some (.live false cs)=>
    match bt.all cs,uo ds (vs.take pos++vs.drop (pos+1))with
    |some b,some x=>(g b x).bind λy=>k (one (pP rs (LJ bt rs y).1)) (H.set id (.live false (bt.lvs (LJ bt rs y).2)))
    |_,_=>none
   |_=>none
  |_=>none
 | .c2 _ te ds rs post g=>
  match vs with
  | .c (.own id ver _ _)::r=>
   match H[id]? with
   |some (.buf false t l n' ver')=>
    match Nat.beq ver ver' with
    |true=>
     if h:(Ty.list t).beq (Ty.list te)=true then
      match uo ds (r.take ds.length),nv (r.drop ds.length) post with
      |some x,true=>(g (Ty.cast h l) x).bind λy=>
       cond (Nat.beq (LJ (.list te) rs y).2.length n') (k (one (pP rs (LJ (.list te) rs y).1)) (H.set id (.buf false te (LJ (.list te) rs y).2 n' ver'))) none
      |_,_=>none
     else none
    |false=>none
   |_=>none
  |_=>none
 | .cl _ t=>
  match vs with
  |[.c (.ls te l)]=>
   if h:(Ty.list te).beq (Ty.list t)=true then
    cond (decide (((l.length:Nat):Int)=0)) (k (.c (.ls t [])) (H++[.dead])) ((Fg (α:=t.D) [] (Ty.cast h l)).bind λr=>k (.c (.own H.length 0 t r.length)) (H++[.buf false t r r.length 0]))
   else none
  |[.c .nil]=>k (.c (.ls t [])) (H++[.dead])
  |_=>none
def XA: ∀(a:List Ty) (x:DL a),(pP a x).map TV.enc=fh a x
 |[],_=>rfl
 |[t],x=>by simp only[pP,fh,BE,G3,t.tv_enc]
 |t::u::r,x=>by simp only[pP,fh,BE,t.tv_enc,XA (u::r)]
def gL{H:An}: ∀(b:List Ty) (x:DL b),∀v∈pP b x,v.ok H
 |[],_,v,a=>by simp[pP]at a
 |[t],x,v,a=>by simp only[pP,A5]at a;subst a;exact t.tv_ok x
 |t::u::r,x,v,a=>by
  simp only[pP,Al]at a;rcases a with rfl|a
  ·exact t.tv_ok _
  ·exact gL (u::r) x.2 v a
def ku(a:List TV):(one a).enc=jf (a.map TV.enc):=by
 match a with
 |[]=>rfl
 |[v]=>rfl
 |v::w::r=>simp only[one,jf,TV.enc,lY,BE]
def pB{H:An}{a:List TV}(h: ∀v∈a,v.ok H):(one a).ok H:=by
 match a,h with
 |[],h=>exact Po h
 |[v],h=>exact h v (by simp)
 |v::w::r,h=>exact Po h
def V3: ∀{a:List Ty} {b:List TV} {x:DL a},uo a b=some x->DU (b.map TV.enc) (fh a x)
 |[],[],x,h=>DU.refl _
 |[t],[v],x,h=>DU.one (LY h)
 |t::u::r,v::b,x,h=>by
  simp only[uo]at h;split at h
  ·rename_i y z c d;injection h with h;subst h;exact(DU.one (LY c)).append (V3 d)
  ·cases h
 |[],_::_,x,h=>by simp[uo]at h
 |[t],[],x,h=>by simp[uo]at h
 |[t],_::_::_,x,h=>by simp[uo]at h
 |_::_::_,[],x,h=>by simp[uo]at h
def mB: ∀{n:Nat} {b:List AW} {v:AW} {a:List AW},b[n]? =some v->DU (b.take n++b.drop (n+1)) a->DU b (TB n v a)
 |0,u::b,v,a,h,hl=>by simp at h;subst h;simp only[List.take_zero,CA,YV,TO]at hl;exact(DU.one (Ub.refl u)).append hl
 |n+1,u::b,v,a,h,hl=>by
  simp only[eA]at h;simp only[Z0,YV,Dg]at hl;cases a with
  |nil=>have:=hl.1;simp at this
  |cons d a=>
   have c:Ub u d:=by obtain⟨w,q1,q2⟩:=hl.2 0 d rfl;simp at q1;subst q1;exact q2
   have e:DU (b.take n++b.drop (n+1)) a:=⟨by have:=hl.1;simpa using this,λi g f=>hl.2 (i+1) g f⟩
   exact(DU.one c).append (mB h e)
 |0,[],v,a,h,_=>by simp at h
 |n+1,[],v,a,h,_=>by simp at h
def yS(c:Sf)(vs:List TV):List Nat:=
 match c with
 | .c0 .. =>[]
 | .c1 _ pos .. =>match vs[pos]? with|some v=>yh v|none=>[]
 | .c2 .. =>match vs[0]? with|some v=>yh v|none=>[]
 | .cl .. =>[]
def AB4(c:Sf)(vs:List TV):List TV:=
 match c with
 | .c2 .. =>vs.drop 1
 |_=>vs
def pi{P:Program}{c:Sf}(hc:c.Ok P){vs:List TV}{H:An}{k:TV→An→Option R}{r:R}(hv: ∀v∈vs,v.ok H)(L: ∀e∈H,e.ok H)(h:tM c vs H k=some r):
  ∃v S,Eo P c.f (vs.map TV.enc) (A3 H) (DO v.enc (A3 S))/\k v S=some r/\v.ok S/\(∀e∈S,e.ok S)/\B8 H S/\Frame (yS c vs) H S:=by
 unfold tM at h;split at h
 ·rename_i f T B g;split at h
  ·rename_i x hx;obtain⟨y,hy,h⟩:=Dt.1 h;refine⟨_,H,?_,h,pB (gL B y),L,B8.refl H,Frame.refl _ _⟩;rw[ku,XA];have hl:=V3 hx;refine Eo.before (args2:=fh T x) (H2:=A3 H) hl.1 (λX g0 w s=>⟨⟨rfl,λj e' p=>?_⟩,λj v' p=>?_⟩) (hc x y hy _)
   ·cases e' with
    |dead=>exact .inl rfl
    |live g1 M=>exact .inr (.inl ⟨g1,M,M,p,rfl,rfl,λi v hi=>⟨v,hi,λ_ r=>r⟩⟩)
    |_=>exact .inr (.inr ⟨p,by simp⟩)
   ·obtain⟨v,q1,q2⟩:=hl.2 j v' p;exact⟨v,q1,λd Y=>q2 _ _ Y⟩
  ·cases h
 ·rename_i f pos K T B g;split at h
  ·rename_i u hp;split at h
   ·rename_i cs o;split at h
    ·rename_i b x hb hx;obtain⟨y,hy,h⟩:=Dt.1 h;have I:B8 H (H.set u (.live false (K.lvs (LJ K B y).2))):=B8.set o rfl λ_ _ _ _ _ h=>by cases h
     refine⟨_,_,?_,h,pB (gL B _),SZ I L (K.lvs_ok _),I,Frame.set (by simp only[yS,hp];exact A5.2 rfl)⟩;rw[ku,XA,ND];have F:u<(A3 H).length:=by rw[CO];exact Ez o
     have hl:=V3 hx;have ar:=FZ hb;have a:DU (vs.map TV.enc) (TB pos (.ptr u 0 0) (fh T x)):=by refine mB ?_ (by rw[<-List.map_take,<-List.map_drop,<-HU];exact hl);rw[Bb,hp];rfl
     have m:=hc b x y hy ((A3 H).set u (.live 0 (K.enc b).cells)) u (by rw[EI F]);rw[Zz]at m;have e1:(Df.live false (K.lvs (LJ K B y).2)).enc= .live 0 (K.enc (LJ K B y).2).cells:=by simp only[Df.enc,K.lvs_enc]
     rw[e1];refine Eo.before a.1 (λX g0 w s=>?_) m;have ad:A3 H=(A3 H).set u (.live 0 (lvs cs)):=by
      have:(A3 H)[u]? =some (.live 0 (lvs cs)):=by rw[E7,o];rfl
      apply M6;intro j;by_cases G:j=u
      ·subst G;rw[EI F,this]
      ·rw[C1 (λe=>G e.symm)]
     have ap:(cx X g0 (A3 H) w).Later (cx X g0 ((A3 H).set u (.live 0 (K.enc b).cells)) w):=by
      refine bV (by simp) λj e p as=>?_;by_cases G:j=u
      ·subst G;exact⟨.live 0 (lvs cs),by rw[E7,o];rfl,by simp⟩
      ·rw[C1 (λe=>G e.symm)]at p;exact⟨e,p,as⟩
     refine⟨Rw.set_less F ad rfl ar ap,λj v' p=>?_⟩;obtain⟨v,q1,q2⟩:=a.2 j v' p;exact⟨v,q1,λd Y=>q2 _ _ (Y.later ap)⟩
    ·cases h
   ·cases h
  ·cases h
 ·rename_i f Z T B O g;split at h
  ·rename_i u C t0 n0 r0;split at h
   ·rename_i t l W ax o;split at h
    ·rename_i hb;have al:=Ba hb;subst al;split at h
     ·rename_i J;have n:=Ty.beq_eq _ _ J;injection n with n;subst n;split at h
      ·rename_i x hx hp;obtain⟨y,hy,h⟩:=Dt.1 h;have A:(Ty.cast J l:List t.D)=l:=rfl;rw[A]at hy;have hn:W=l.length:=L _ (BV o);have hr:TC H u C t0 n0:=hv _ Gi (.own u C t0 n0) (by simp[TV.refs]);obtain⟨_,q⟩:=hr.2 _ _ _ _ _ o;obtain⟨rfl,rfl⟩:=q rfl;cases U:Nat.beq (LJ (.list t) B y).2.length W with
       |false=>rw[U]at h;cases h
       |true=>
        rw[U]at h;have N:(LJ (.list t) B y).2.length=W:=Ba U;have I:B8 H (H.set u (.buf false t (LJ (.list t) B y).2 W C)):=B8.set o rfl λ_ _ _ _ _ e=>by cases e;exact⟨_,_,_,_,rfl,.inr ⟨rfl,rfl⟩⟩
        refine⟨_,_,?_,h,pB (gL B _),SZ I L N.symm,I,Frame.set (by simp[yS,yh])⟩;rw[ku,XA,ND];have hl:=V3 hx;have V:=qn hp;have a:DU ((TV.c (.own u C t W)::r0).map TV.enc) (.sl u l.length t.sz 0 l.length::(fh T x++O)):=by
         rw[BE,<-FG T.length r0,HU,V];have e1:(TV.c (.own u C t W)).enc= .sl u l.length t.sz 0 l.length:=by rw[<-hn];rfl
         rw[e1];rw[<-lJ];rw[<-lJ (l:=fh T x++O)];exact(DU.refl _).append (hl.append (DU.refl _))
        have m:=hc l x y hy (by rw[N,hn]) (A3 H) u (by rw[E7,o,<-hn];rfl);have e2:(Df.buf false t (LJ (.list t) B y).2 W C).enc= .live l.length (t.E.cl (LJ (.list t) B y).2):=by rw[<-hn];rfl
        rw[e2];refine Eo.before a.1 (λX g0 w s=>⟨⟨rfl,λj e' p=>?_⟩,λj v' p=>?_⟩) m
        ·cases e' with
         |dead=>exact .inl rfl
         |live g1 M=>exact .inr (.inl ⟨g1,M,M,p,rfl,rfl,λi v hi=>⟨v,hi,λ_ r=>r⟩⟩)
         |_=>exact .inr (.inr ⟨p,by simp⟩)
        ·obtain⟨v,q1,q2⟩:=a.2 j v' p;exact⟨v,q1,λd Y=>q2 _ _ Y⟩
      ·cases h
     ·cases h
    ·cases h
   ·cases h
  ·cases h
 ·rename_i f t;have same: ∀{args z:List AW} {Q:AW->Aq->Prop},DU args z->Eo P f z (A3 H) Q->Eo P f args (A3 H) Q:=λa m=>by
   refine Eo.before a.1 (λX g0 w s=>⟨⟨rfl,λj e' p=>?_⟩,λj v' p=>?_⟩) m
   ·cases e' with
    |dead=>exact .inl rfl
    |live g1 M=>exact .inr (.inl ⟨g1,M,M,p,rfl,rfl,λi v hi=>⟨v,hi,λ_ r=>r⟩⟩)
    |_=>exact .inr (.inr ⟨p,by simp⟩)
   ·obtain⟨v,q1,q2⟩:=a.2 j v' p;exact⟨v,q1,λd Y=>q2 _ _ Y⟩
  split at h
  ·rename_i Z l;split at h
   ·rename_i J;have n:=Ty.beq_eq _ _ J;injection n with n;subst n;have A:(Ty.cast J l:List Z.D)=l:=rfl;rw[A]at h;cases hz:decide (((l.length:Nat):Int)=0)with
    |true=>
     rw[hz]at h;have h0:l=[]:=by
      have:((l.length:Nat):Int)=0:=by simpa using hz
      exact EA (by omega)
     subst h0;refine⟨TV.c (Bd.ls Z []),H++[Df.dead],?_,h,JL trivial,Od L trivial,B8.push _ _,Frame.push _ _ _⟩;exact(hc [] H L).1 rfl
    |false=>
     rw[hz]at h;have h0:l≠ []:=by rintro rfl;simp at hz
     obtain⟨r,hr,h⟩:=Dt.1 h;have e:Df.ok (H++[.buf false Z r r.length 0]) (.buf false Z r r.length 0):=rfl;have q:=(hc l H L).2 r h0 hr;refine⟨TV.c (Bd.own H.length 0 Z r.length),H++[Df.buf false Z r r.length 0],?_,h,mQ,Od L e,B8.push _ _,Frame.push _ _ _⟩;exact q
   ·cases h
  ·refine⟨TV.c (Bd.ls t []),H++[Df.dead],?_,h,JL trivial,Od L trivial,B8.push _ _,Frame.push _ _ _⟩;exact same (DU.one (Ub.nil t.sz_pos)) ((hc [] H L).1 rfl)
  ·cases h
end
section
variable {P:Program} {N:Nat} {o:Oper} {env:Env} {H:Aq} {K:AW->Aq->Prop}
def lg{t I e:TypeId}{x:Operand}{sz:Nat}{rows:List AW}(n:o.op= .binOp .eql t x (.const (.slice none 0 0)) I)(E:P.underlying t=some (.slice e))(F:A8 env x= .vs sz rows)
  (C: ∀b,(rows≠ []->b=false)->K (.bool b) H):Ii P N o env H K:=by
 apply Cu (by rw[n];rfl);intro X h a w s Q;have l:=DR s.env x;rw[F]at l;generalize i:a.eval x=zk at l;cases l with
 | @vs sz rows c cap f m D p z J=>
  have k:=run_underlying E w;have g:(execOp a.eval o).run P w= .ok (.value (.bool c.isNone)) w:=by
   unfold execOp;rw[n];have r:a.eval (.const (.slice none 0 0))= .slice none 0 0:=rfl;have u:(eqGuard .eql t x (.const (.slice none 0 0)) (.slice c rows.length cap) (.slice none 0 0)).run P w= .ok () w:=by unfold eqGuard;simp
   have v:(Op.equal t (.slice c rows.length cap) (.slice none 0 0)).run P w= .ok c.isNone w:=by
    have y: ∃d,Op.maxDepth=d+1:=⟨9999,rfl⟩
    obtain⟨d,A⟩:=y;unfold Op.equal;rw[A];cases c<;>simp[Op.equalIn,k]
   simp only[i,r,Sem.run_bind,u,Result.andThen_ok,binOp,v,Sem.run_pure]
  unfold Oper.wp;rw[g,Oper.upon_value];refine⟨_,_,h,H,rfl,C c.isNone (λj=>?_),.bool _,s.sim,HS.refl _ _ _⟩;obtain⟨B,G,q,_⟩:=z j;rw[q];rfl
def Ii.clear{t e:TypeId}{x:Operand}{C g l n sz:Nat}{O z:List AW}(ho:o.op= .call {callee:=.builtin .clear,args:= #[x],argTypes:= #[t]})(hd:o.dst=none)(he:eI P t=some (none,e,sz))(b0:QK P e=true)(hz:WA P e=some z)(Y:z.length=sz)
  (hx:A8 env x= .sl C g sz l n) (F:H[C]? =some (EM.live g O)) (a5:l+n*sz<=O.length) (hk:K (.tup []) (H.set C (.live g (T4 O l (List.replicate n z).flatten)))):Ii P N o env H K:=by
 apply Cu (by rw[ho];rfl);intro X h a w s Q;obtain⟨b2,b,hi⟩:=PM he;obtain⟨i,zv,v,b5,bb,b3⟩:=Rv b0;have a3:=eR hi v;obtain⟨i',y,a1,a9,a7⟩:=Zt (cx X h H w) hz;have:i'=i:=by rw[v]at a1;exact(C2 a1).symm
 subst this;have:y=zv:=by rw[bb]at a9;exact(C2 a9).symm
 subst this;have A:y.cells.size=sz:=by rw[b3,a3]
 have rx:=DR s.env x;rw[hx]at rx;have S:=run_underlying b2 w;have U:(List.replicate n z).flatten.length=n*sz:=by simp[Y]
 obtain⟨ax,ar⟩:=s.sim.live C g O F;have b1: ∃ad cap,a.eval x= .slice ad n cap/\(n≠0-> ∃B,h.io C=some B/\ad=some ⟨B,l,none⟩):=by
  generalize a.eval x=c at rx;cases rx with
  |sl h1 h2 h3 hc=>
   rcases hc ax with⟨_,q2,_,q4⟩|⟨B,cap,q1,_,_,q4⟩
   ·exact⟨none,0,by rw[q4,q2],λbN=>(bN q2).elim⟩
   ·exact⟨_,cap,q4,λ_=>⟨B,q1,rfl⟩⟩
 obtain⟨ad,cap,al,bd⟩:=b1;have a2:C<H.length:=by
  rcases Ag C H.length with h2|h2
  ·exact h2
  ·rw[BP h2]at F;cases F
 by_cases hn:n=0
 ·subst hn;have G:(execOp a.eval o).run P w= .ok (.value (.tuple #[])) w:=by unfold execOp;rw[ho];simp only[resolve,invoke,builtin,Sem.run_bind,Sem.run_pure,Result.andThen_ok,PD,BE,G3,al,Builtin.clear_];simp[S];cases ad<;>simp
  unfold Oper.wp;rw[G,Oper.upon_value];have e1:H.set C (.live g (T4 O l (List.replicate 0 z).flatten))=H:=by
   have:T4 O l (List.replicate 0 z).flatten=O:=by simp[T4]
   rw[this];apply M6;intro j;by_cases a4:j=C
   ·subst a4;rw[EI a2,F]
   ·rw[C1 λe=>a4 e.symm]
  rw[e1]at hk;exact⟨_,_,h,H,rfl,hk,.tup rfl λ_ _ _ h=>by (cases h),s.sim,HS.refl _ _ _⟩
 ·obtain⟨B,L,rfl⟩:=bd hn;rcases ar with⟨a6,_⟩|⟨B',Z,T,fz,f,R,hb,ap,b4,as,J⟩
  ·rw[show(cx X h H w).io C=h.io C from rfl,L]at a6;cases a6
  rw[show(cx X h H w).io C=h.io C from rfl,L]at R;injection R with e0;subst e0;have W:(Builtin.zeroCells y.cells n).size=n*sz:=by rw[WB,A]
  have I: ∀j,j<n*sz-> ∃d u,(Builtin.zeroCells y.cells n)[j]? =some d/\(List.replicate n z).flatten[j]? =some u/\d.oneCell'=true/\Bh (cx X h H w) u d:=by
   intro j r;have a8:0<sz:=by
    rcases Q6 sz with q|q
    ·subst q;simp at r
    ·exact q
   have hm:j%sz<y.cells.size:=by rw[A];exact VL _ a8
   have E:y.cells[j%sz]? =some (y.cells[j%sz]'hm):=H9 hm;have a0: ∀(m j:Nat),j<m*sz->(List.replicate m z).flatten[j]? =z[j%sz]? :=by
    intro m;induction m with
    |zero=>intro j r;omega
    |succ m ih=>
     intro j r;rw[TH,TQ];rcases Ag j sz with bz|bl
     ·rw[BW (by omega),PI bz]
     ·rw[CG (by omega),Y,ih (j-sz) (by rw[EJ]at r;omega),<-Nat.mod_eq_sub_mod bl]
   have a':z[j%sz]? =some (z[j%sz]'(by rw[Y];exact VL _ a8)):=Ay _;have V:(Builtin.zeroCells y.cells n)[j]? =some (y.cells[j%sz]'hm):=by
    unfold Builtin.zeroCells;rw[VV,Array.getElem?_range,if_pos (by rw[A];exact r)];have bG:j%y.cells.size<y.cells.size:=by rw[A];rw[A]at hm;exact hm
    rw[BB,getElem!_pos y.cells _ bG];simp only[A]
   cases a7 with
   |agg q1 q2 q3=>exact⟨_,_,V,by rw[a0 n j r,a'],q2 _ _ E,q3 _ _ _ a' E⟩
  obtain⟨w',M,p1,p2,p3,p4,p5,p6,p7,p8,p9⟩:=Sd (P:=P) (off:=l) (Builtin.zeroCells y.cells n).toList 0 Z w hb (by simp[W];omega) as (λd hd=>by
   obtain⟨j,r⟩:=RQ hd;have bt:j<n*sz:=by rw[<-W];have:=(Pf.1 r).1;simpa using this
   obtain⟨d',u,q1,_,q3,_⟩:=I j bt;rw[LL]at r;rw[r]at q1;injection q1 with q1;rw[q1];exact q3)
  have G:(execOp a.eval o).run P w= .ok (.value (.tuple #[])) w':=by
   unfold execOp;rw[ho];simp only[resolve,invoke,builtin,Sem.run_bind,Sem.run_pure,Result.andThen_ok,PD,BE,G3,al,Builtin.clear_];have b6: ∀(α:Type) (p q:α),(match n with|0=>p|_+1=>q)=q:=by
    intro α p q;cases n with
    |zero=>exact(hn rfl).elim
    |succ m=>rfl
   obtain⟨m,rfl⟩: ∃m,n=m+1:=⟨n-1,by omega⟩
   simp[S,zeroValue,typeInfo,v,bb];rw[p1];rfl
  have hh:cj (cx X h H w) (T4 O l (List.replicate n z).flatten) M fz:=by
   refine⟨λj=>if l<=j/\j<l+n*sz then(Builtin.zeroCells y.cells n).getD (j-l) undef else f j,by rw[dk (by rw[U];exact a5)];omega,by rw[p3];exact as,λj u r=>?_⟩;rw[mc (by rw[U];exact a5),U]at r;rw[p4];simp only[N0,DF,W,LL];split at r
   ·rename_i D;rw[if_pos D,if_pos D];obtain⟨d,u',q1,q2,q3,q4⟩:=I (j-l) (by omega);rw[q2]at r;injection r with r;subst r;have e:(Builtin.zeroCells y.cells n).getD (j-l) undef=d:=by rw[JK,q1];rfl
    rw[e];exact⟨q1,q3,q4⟩
   ·rename_i D;rw[if_neg D,if_neg D];exact J j u r
  obtain⟨q1,q2⟩:=s.sim.upd (g':=g) (B:=B) (arr:=M) (T:=T) (fz:=fz) (w':=w') F (Aj _) (λ_=>⟨L,by rw[p3];exact ap.symm⟩) (.inl L) p2 (λk _ hk=>p5 k hk) p6 p7 p8 (by rw[p9];exact Aj _) hh;unfold Oper.wp;rw[G,Oper.upon_value];exact⟨_,_,_,_,rfl,hk,.tup rfl λ_ _ _ h=>by (cases h),q1,q2⟩
def ka{t e:TypeId}{x:Operand}{sz:Nat}(k:o.op= .call {callee:=.builtin .clear,args:= #[x],argTypes:= #[t]})(m:P.underlying t=some (.slice e))
  (n:A8 env x= .vs sz []) (l:K (.tup []) H):Ii P N o env H K:=by
 apply Cu (by rw[k];rfl);intro X h a w s Q;have j:=DR s.env x;rw[n]at j;have d:=run_underlying m w;have i: ∃f cap,a.eval x= .slice f 0 cap:=by
  generalize a.eval x=c at j;cases j with
  |vs=>exact⟨_,_,rfl⟩
 obtain⟨f,cap,g⟩:=i;have b:(execOp a.eval o).run P w= .ok (.value (.tuple #[])) w:=by unfold execOp;rw[k];simp only[resolve,invoke,builtin,Sem.run_bind,Sem.run_pure,Result.andThen_ok,PD,BE,G3,g,Builtin.clear_];simp[d];cases f<;>simp
 unfold Oper.wp;rw[b,Oper.upon_value];exact⟨_,_,h,H,rfl,l,.tup rfl λ_ _ _ h=>by (cases h),s.sim,HS.refl _ _ _⟩
end
def T7(P:Program)(N:Nat)(ops:Array Oper):List Oper->Env->Aq->(Env->Aq->Prop)->Prop
 |[],env,H,Q=> ∃env1 H1,F6 N H.length env H env1 H1/\Q env1 H1
 |o::rest,env,H,Q=> ∃env1 H1,F6 N H.length env H env1 H1/\
  VG ops o.guard env1 (Ii P N o env1 H1 λv H'=>T7 P N ops rest (env1.putO o.dst v) H' Q) (T7 P N ops rest (env1.putO o.dst (.tup [])) H1 Q)
def T7.weak{P:Program}{N:Nat}{a:Array Oper}{Q:Env->Aq->Prop}{env env1:Env}{H e:Aq}(w:F6 N H.length env H env1 e): ∀{os:List Oper},T7 P N a os env1 e Q->T7 P N a os env H Q
 |[],h=>by obtain⟨c,b,d,q⟩:=h;exact⟨c,b,w.trans (d.of_le w.1),q⟩
 |o::os,h=>by obtain⟨c,b,d,q⟩:=h;exact⟨c,b,w.trans (d.of_le w.1),q⟩
def lh{P:Program}{N:Nat}{r:Option Nat}{j:Array Oper}{D:Exit→Act→World→Prop}{Q:Env→Aq→Prop}{X:Nat→Prop}:
  ∀(l:List Nat) (os:List Oper),l.map (j[·]?)=os.map some-> ∀(env:Env) (H:Aq) (h:Gh) (a:Act) (w:World),On N os=true->T7 P N j os env H Q->St X h N env H a w->(∀f n z y u,Q f n->St X z N f n y u->HS h H w z n u->y.defers=a.defers->D .normal y u)->wpOpsIn (FR r) 0 P j D l a w:=by
 intro l;induction l with
 |nil=>
  intro os d env H h a w _ hr s B;have:os=[]:=by simpa using d.symm
  subst this;obtain⟨env1,x,b,hr⟩:=hr;obtain⟨p,e,F,d⟩:=b.2 X h a w s;exact B env1 x p a w hr e (F6.ext rfl b.1 F d (HS.refl h H w)) rfl
 |cons i l M=>
  intro os d env H h a w A hr s B;match os,d with
  |o::os,d=>
   simp only[BE,List.cons.injEq]at d;obtain⟨R,m⟩:=d;simp only[wpOpsIn,R];have g: ∀t,o.dst=some t->t<a.tmps.size:=by intro t W;simp only[On,YT,BM,W,decide_eq_true_eq]at A;rw[s.size];exact A.1
   have q:On N os=true:=by simp only[On,YT,BM]at A;exact A.2
   simp only[T7]at hr;obtain⟨env1,x,b,hr⟩:=hr;obtain⟨p,e,F,d⟩:=b.2 X h a w s;have O:HS h H w p x w:=F6.ext rfl b.1 F d (HS.refl h H w);rcases qI e.env hr with⟨G,S⟩|⟨G,T⟩
   ·rw[if_pos G];refine Oper.wpIn_mono ?_ (S r X p a w e D);rintro y u ⟨c,v,z,n,rfl,k,Y,V,L⟩;have U:=L.later X;apply M os m _ n z _ u q k ⟨V,M4.putO (e.env.later U) g Y,(Zq _ _ _).trans e.size⟩;intro env2 C m a2 J q2 I K E;exact B env2 C m a2 J q2 I (O.trans (L.trans K)) (E.trans (by cases o.dst<;>rfl))
   ·rw[if_neg (by rw[G];simp)];refine⟨λ_ _=>trivial,M os m _ x p _ w q T ⟨e.sim,M4.putO e.env g (.tup rfl λ_ _ _ h=>by cases h),(Zq _ _ _).trans e.size⟩ ?_⟩;intro env2 C m a2 J q2 I K E;exact B env2 C m a2 J q2 I (O.trans K) (E.trans (by cases o.dst<;>rfl))
def FX{P:Program}{N:Nat}{env:Env}{H:Aq}{Q:Exit->Env->Aq->Prop}{l:Nat}{b:Array Oper}(k:On N b.toList=true)(h:T7 P N b b.toList env H (Q .normal)):MA P N (.region l b false) env H Q:=by
 intro r X g a w s _;refine wpIn_region (lh (List.range b.size) b.toList ?_ env H g a w k h s ?_)
 ·apply M6;intro i;simp only[Bb];by_cases d:i<b.size
  ·simp[d]
  ·simp[d]
 ·intro c e j o p q m n f;exact⟨j,c,e,q,m,n,.same f⟩
open Go.MapKept (IsKey)
def EM.isM:EM->Bool
 | .mp _ _=>true
 | .it _ _=>true
 |_=>false
def jK{e:EM}(h:e.isM=true):e.isB=true:=by cases e<;>simp_all[EM.isM,EM.isB]
def Sp{α:Type}(n:Int)(v:α):List (Int×α)->List (Int×α)
 |[]=>[(n,v)]
 |p::r=>bif p.1==n then(n,v)::r else p::Sp n v r
def Pb{α:Type}(n:Int):List (Int×α)->Option α
 |[]=>none
 |p::r=>bif p.1==n then some p.2 else Pb n r
def qe{a c:Type}(f:a->c)(n:Int)(v:a): ∀b:List (Int×a),(Sp n v b).map (λp=>(p.1,f p.2))=Sp n (f v) (b.map λp=>(p.1,f p.2))
 |[]=>rfl
 |p::r=>by simp only[Sp,BE];cases p.1==n<;>simp[qe f n v r]
def qb{b c:Type}(f:b->c)(n:Int): ∀a:List (Int×b),Pb n (a.map λp=>(p.1,f p.2))=(Pb n a).map f
 |[]=>rfl
 |p::r=>by simp only[Pb,BE];cases p.1==n<;>simp[qb f n r]
section
variable {X:Nat->Prop} {h:Gh} {H:Aq} {w:World}
def Ik.of_extM{b:Gh}{d:Aq}{i:World}(s:Ik X h H w)(J:HS h H w b d i)
  (key: ∀(a:Nat) (e:EM),d[a]? =some e->e≠ .dead->(H[a]? =some e/\b.gen a=h.gen a/\b.io a=h.io a/\b.cap a=h.cap a/\ ∀B,h.io a=some B->i.heap[B]? =w.heap[B]?)\/(e.isM=true/\xl b d i a e))
  (inj: ∀(a c:Nat) (e u:EM) (B:Nat),d[a]? =some e->d[c]? =some u->e≠ .dead->u≠ .dead->b.io a=some B->b.io c=some B->a=c):Ik X b d i:=by
 refine s.of_ext' J (λa e m o=>?_) (λa T N t l m n hr=>?_) inj
 ·rcases key a e m o with f|⟨f,k⟩
  ·exact .inl f
  ·exact .inr (.inr (.inr ⟨jK f,k⟩))
 ·obtain⟨B,p,v,f,k,E,F,I,G⟩:=s.bld a _ n rfl;rcases key a _ m (by simp)with⟨_,x,y,O,z⟩|⟨e,_⟩
  ·rcases key t _ hr (by simp)with⟨r,P,A,Q,C⟩|⟨e,_⟩
   ·refine⟨B,p,v,y.trans f,(z B f).trans k,E,x.trans F,I,λ_=>?_⟩;obtain⟨q1,q2⟩:=G r;refine⟨⟨q1.1,?_⟩,q2.trans A.symm⟩;rcases q1.2 with q|⟨g,cap,j,D,rfl,K,L,M⟩
    ·exact .inl q
    ·refine .inr ⟨g,cap,j,D,rfl,K,(C g ?_).trans L,M⟩;simpa[Value.ownBlock]using q2.symm
   ·cases e
  ·cases e
def Ik.push_m(s:Ik X h H w)(o:Obj)(cap:Nat)(E:EM)(r:E.isM=true)
  (q:xl (h.at_ H.length (some w.heap.size) 0 cap) (H++[E]) {w with heap:=w.heap.push o} H.length E):
  Ik X (h.at_ H.length (some w.heap.size) 0 cap) (H++[E]) {w with heap:=w.heap.push o}:=by
 refine s.of_extM (HS.push o cap E) (λt e d j=>?_) λt u e v B m n b c f g=>?_
 ·rcases IL d with⟨a,d⟩|⟨rfl,rfl⟩
  ·refine .inl ⟨d,by simp[Gh.at_,BS a],by simp[Gh.at_,BS a],by simp[Gh.at_,BS a],λB i=>?_⟩;have:=s.io_at d j i;simp[LK,BS this]
  ·exact .inr ⟨r,q⟩
 ·rcases IL m with⟨l1,k⟩|⟨rfl,_⟩<;>rcases IL n with⟨l2,l⟩|⟨rfl,_⟩
  ·exact s.inj _ _ _ _ B k l b c (by simpa[Gh.at_,BS l1]using f) (by simpa[Gh.at_,BS l2]using g)
  ·have p:=s.io_at k b (by simpa[Gh.at_,BS l1]using f);simp[Gh.at_]at g;omega
  ·have p:=s.io_at l c (by simpa[Gh.at_,BS l2]using g);simp[Gh.at_]at f;omega
  ·rfl
def Ik.setM(s:Ik X h H w){b B:Nat}{E E':EM}{o o':Obj}{w':World}(j:H[b]? =some E)(K:E.isM=true)(x:E'.isM=true)(n:h.io b=some B)(L:w.heap[B]? =some o)(C: ∀r,o≠ .loop r)
  (I:w'.heap=w.heap.setIfInBounds B o') (D:w'.os=w.os) (O:w'.tape=w.tape) (N:w'.output=w.output) (y:xl h (H.set b E') w' b E'):
  Ik X h (H.set b E') w'/\HS h H w h (H.set b E') w':=by
 have f:b<H.length:=by
  rcases Ag b H.length with g|g
  ·exact g
  ·rw[BP g]at j;cases j
 have c:E≠ .dead:=by rintro rfl;cases K
 have p: ∀k,k≠B->w'.heap[k]? =w.heap[k]? :=λk h=>by rw[I];simp[Ne.symm h]
 have own: ∀k,owned h (H.set b E') k->owned h H k:=by
  rintro k ⟨i,e,l,d,g⟩;rcases Ih f l with⟨z,a⟩|⟨rfl,_⟩
  ·exact⟨i,e,a,d,g⟩
  ·exact⟨i,E,j,c,g⟩
 have J:HS h H w h (H.set b E') w':=by refine⟨D,O,N,by rw[I];simp,λk _ hn=>p k λe=>hn ⟨b,E,j,c,by rw[e];exact n⟩,by simp,λ_ _=>Aj _,λ_ _ _=>⟨rfl,rfl⟩,λk p=>.inl (own k p),λk r hr=>⟨r,?_⟩⟩;refine(p k λe=>?_).trans hr;subst e;rw[L]at hr;injection hr with hr;exact C r hr
 refine⟨s.of_extM J (λi e l d=>?_) (λi F e G k l g q t u v=>?_),J⟩
 ·rcases Ih f l with⟨z,a⟩|⟨rfl,rfl⟩
  ·refine .inl ⟨a,rfl,rfl,rfl,λk A=>p k λe=>?_⟩;subst e;exact z (s.inj i b _ _ k a j d c A n)
  ·exact .inr ⟨x,y⟩
 ·rcases Ih f l with⟨z,a⟩|⟨rfl,rfl⟩<;>rcases Ih f g with⟨M,m⟩|⟨rfl,rfl⟩
  ·exact s.inj i F e G k a m q t u v
  ·exact s.inj i F e E k a j q c u v
  ·exact s.inj i F E G k j m c t u v
  ·rfl
end
def fv{k:IntKind}{n:Int}: ∀(l:List MapEntry) (a:List (Int×AW)) (i:Nat),l.length=a.length→(∀(j:Nat) (p:Int×AW),a[j]? =some p→ ∃e:MapEntry,l[j]? =some e∧e.key= .int k p.1)→
  (Instr.findNow (.int k) (.int k n) l i=some none/\Pb n a=none/\ ∀v,Sp n v a=a++[(n,v)])\/∃j e p,Instr.findNow (.int k) (.int k n) l i=some (some (i+j,e.val))/\l[j]? =some e/\a[j]? =some p/\e.key= .int k n/\Pb n a=some p.2/\ ∀v,Sp n v a=a.set j (n,v)
 |[],[],_,_,_=>.inl ⟨rfl,rfl,λ_=>rfl⟩
 |[],_::_,_,hl,_=>by simp at hl
 |_::_,[],_,hl,_=>by simp at hl
 |e::l,p::a,i,hl,h=>by
  obtain⟨z,o,r⟩:=h 0 p rfl;simp only[M7,AV]at o;subst o;have m:Instr.sameNow (.int k) (.int k n) e.key=some (n==p.1):=by rw[r];simp[Instr.sameNow]
  by_cases hn:p.1=n
  ·refine .inr ⟨0,e,p,?_,rfl,rfl,by rw[r,hn],?_,λv=>?_⟩
   ·simp[Instr.findNow,m,hn]
   ·simp[Pb,hn]
   ·simp[Sp,hn]
  ·have c:(n==p.1)=false:=by simp;exact λe=>hn e.symm
   have b:(p.1==n)=false:=by simpa using hn
   rcases fv (k:=k) (n:=n) l a (i+1) (by simpa using hl) (λj q x=>by simpa using h (j+1) q (by simpa using x))with⟨d,f,g⟩|⟨j,s,y,d,f,g,t,u,w⟩
   ·exact .inl ⟨by simp[Instr.findNow,m,c,d],by simp[Pb,b,f],λv=>by simp[Sp,b,g]⟩
   ·exact .inr ⟨j+1,s,y,by simp[Instr.findNow,m,c,d];omega,by simpa using f,by simpa using g,t,by simp[Pb,b,u],λv=>by simp[Sp,b,w]⟩
section
variable {P:Program} {N:Nat} {o:Oper} {env:Env} {H:Aq} {K:AW->Aq->Prop}
def Ii.makeMap{t:TypeId}(k:IntKind)(c:o.op= .makeMap t none)(e:K (.mp H.length) (H++[.mp k []])):Ii P N o env H K:=by
 apply Cu (by rw[c];rfl);intro X h a w s Q;have b:(execOp a.eval o).run P w= .ok (.value (.map (some w.heap.size))) {w with heap:=w.heap.push (.map #[] 0)}:=by unfold execOp;rw[c];rfl
 unfold Oper.wp;rw[b,Oper.upon_value];refine⟨_,_,_,_,rfl,e,?_,s.sim.push_m (.map #[] 0) 0 (.mp k []) rfl ⟨w.heap.size, #[],by simp[Gh.at_],by simp[Gh.at_],by simp,rfl,λj p d=>by simp at d⟩,HS.push _ _ _⟩;exact .mp (by simp[cx]) rfl λ_=>⟨w.heap.size,by simp[cx,Gh.at_],rfl⟩
def wq{X:Nat→Prop}{h:Gh}{w:World}{a:Act}{x:Operand}{d:Nat}{k:IntKind}{g:List (Int×AW)}(s:St X h N env H a w)(v:A8 env x= .mp d)(t:H[d]? =some (.mp k g)):
  ∃(B:Nat) (b:Array MapEntry),a.eval x= .map (some B)/\h.io d=some B/\h.gen d=0/\w.heap[B]? =some (.map b b.size)/\b.size=g.length/\∀(j:Nat) (p:Int×AW),g[j]? =some p-> ∃e:MapEntry,b[j]? =some e/\e.born=j/\e.key= .int k p.1/\ ∀x,Bh x p.2 e.val:=by
 have i:=DR s.env x;rw[v]at i;obtain⟨B,b,l,m,n,o,q⟩:=s.sim.bld d _ t rfl;generalize a.eval x=c at i;cases i with
 |mp u z r=>obtain⟨y,f,rfl⟩:=r m;rw[show(cx X h H w).io d=h.io d from rfl,l]at f;injection f with f;subst f;exact⟨B,b,rfl,l,m,n,o,q⟩
def wZ{X:Nat->Prop}{h:Gh}{w:World}{a:Act}{x:Operand}{k:IntKind}{n:Int}(s:St X h N env H a w)(d:A8 env x= .int k n):a.eval x= .int k n:=by have b:=DR s.env x;rw[d]at b;generalize a.eval x=c at b;cases b;rfl
def Ii.mapUpdate{t kt et:TypeId}{m R I:Operand}{id:Nat}{k:IntKind}{es:List (Int×AW)}{n:Int}{v:AW}(Z:o.op= .mapUpdate t m R I)(hm:A8 env m= .mp id)(M:A8 env R= .int k n)
  (hp: ∀(x:Cx) (c:Value),Bh x (A8 env I) c-> ∀y,Bh y v c) (ht:P.underlying t=some (.map kt et)) (q:P.underlying kt=some (.int k)) (F:H[id]? =some (.mp k es)) (Y:K .any (H.set id (.mp k (Sp n v es)))):Ii P N o env H K:=by
 apply Cu (by rw[Z];rfl);intro X h a w s Q;obtain⟨B,b,q1,q2,q3,q4,q5,q6⟩:=wq s hm F;have qk:=wZ s M;have S:=hp _ _ (DR s.env I);generalize E:a.eval I=c at S;have al:id<H.length:=by
  rcases Ag id H.length with D|D
  ·exact D
  ·rw[BP D]at F;cases F
 have f:IsKey (.int k) (.int k n):=rfl;have u:B<w.heap.size:=(VU.1 q4).1;have G:execOp a.eval o=(do Instr.mapUpdate t (a.eval m) (a.eval R) (a.eval I);pure .skip):=by unfold execOp;rw[Z]
 rcases fv (n:=n) (k:=k) b.toList es 0 (by simpa using q5) (λj p d=>by obtain⟨e,l,_,z,_⟩:=q6 j p d;exact⟨e,by simpa using l,z⟩)with⟨L,D,J⟩|⟨j,V,p0,L,D,J,h4,h5,W⟩
 ·have g:(execOp a.eval o).run P w= .ok .skip {w with heap:=w.heap.setIfInBounds B (.map (b.push {key:=.int k n,val:=c,born:=b.size}) (b.size+1))}:=by rw[G,q1,qk,E];simp[Instr.mapUpdate,run_underlying ht,MapKept.run_getObj_map q4,MapKept.run_checkKey q f,MapKept.run_findKey q L,MapKept.run_setObj_map _ q4]
  unfold Oper.wp;rw[g,Oper.upon_skip];obtain⟨T,U⟩:=s.sim.setM (E':=.mp k (Sp n v es)) (o':=.map (b.push {key:=.int k n,val:=c,born:=b.size}) (b.size+1))
   (w':={w with heap:=w.heap.setIfInBounds B (.map (b.push {key:=.int k n,val:=c,born:=b.size}) (b.size+1))}) F rfl rfl q2 q4 (λr e=>by cases e) rfl rfl rfl rfl (by
    refine⟨B,b.push {key:=.int k n,val:=c,born:=b.size},q2,q3,by simp[u],by rw[J];simp[q5],λj p d=>?_⟩;rw[J]at d;rcases Q7 j es.length with O|rfl|ad
    ·rw[BW O]at d;obtain⟨e,l,z⟩:=q6 j p d;exact⟨e,by rw[Array.getElem?_push_lt (by omega)];rw[<-H9];exact l,z⟩
    ·rw[CG (Aj _),G6]at d;simp only[M7,AV]at d;subst d;exact⟨{key:=.int k n,val:=c,born:=b.size},by rw[<-q5];simp,q5,rfl,S⟩
    ·rw[BP (by simp;omega)]at d;cases d)
  exact⟨_,_,_,_,rfl,Y,.any _,T,U⟩
 ·have d:b[j]? =some V:=by simpa using D
  have ap:j<b.size:=(VU.1 d).1;have g:(execOp a.eval o).run P w= .ok .skip {w with heap:=w.heap.setIfInBounds B (.map (b.modify j λe=>{e with key:=.int k n,val:=c}) b.size)}:=by rw[G,q1,qk,E];simp[Instr.mapUpdate,run_underlying ht,MapKept.run_getObj_map q4,MapKept.run_checkKey q f,MapKept.run_findKey q L,d,h4,MapKept.run_keyThatStays f,MapKept.run_setObj_map _ q4]
  unfold Oper.wp;rw[g,Oper.upon_skip];obtain⟨T,U⟩:=s.sim.setM (E':=.mp k (Sp n v es)) (o':=.map (b.modify j λe=>{e with key:=.int k n,val:=c}) b.size)
   (w':={w with heap:=w.heap.setIfInBounds B (.map (b.modify j λe=>{e with key:=.int k n,val:=c}) b.size)}) F rfl rfl q2 q4 (λr e=>by cases e) rfl rfl rfl rfl (by
    refine⟨B,b.modify j λe=>{e with key:=.int k n,val:=c},q2,q3,by simp[u],by rw[W];simp[q5],λi p A=>?_⟩;rw[W,TF]at A;split at A
    ·rename_i C;subst C;rw[if_pos (by omega)]at A;injection A with A;subst A;refine⟨{V with key:=.int k n,val:=c},by rw[YM,if_pos rfl,d];rfl,?_,rfl,S⟩;obtain⟨e',l,z,_⟩:=q6 j p0 J;rw[d]at l;injection l with l;subst l;exact z
    ·rename_i C;obtain⟨e,l,z⟩:=q6 i p A;exact⟨e,by rw[YM,if_neg C];exact l,z⟩)
  exact⟨_,_,_,_,rfl,Y,.any _,T,U⟩
def uM(P:Program)(t:TypeId):Option (List AW):=
 match (P.info? t).bind (·.zero)with
 |some (.agg cs)=>if cs.toList.all (·.oneCell')then some (cs.toList.map jz)else none
 |_=>none
def vR{t:TypeId}{z:List AW}(h:uM P t=some z)(w:World): ∃v,(zeroValue t).run P w= .ok v w/\ ∀x,Bh x (.agg z) v:=by
 unfold uM at h;split at h
 ·rename_i c b;split at h
  ·rename_i a;injection h with h;subst h;obtain⟨i,d,b⟩:=Dt.1 b;refine⟨.agg c,by simp[zeroValue,typeInfo,d,b],λx=>?_⟩;have:=px x (.agg c);simpa only[ub,a,if_true]using this
  ·cases h
 ·cases h
def Ii.lookup{t W S:TypeId}{m M:Operand}{id:Nat}{k:IntKind}{es:List (Int×AW)}{n:Int}{z:List AW}(U:o.op= .lookup t m M true)(hm:A8 env m= .mp id)(J:A8 env M= .int k n)
  (V:P.underlying t=some (.map W S)) (g:P.underlying W=some (.int k)) (hz:uM P S=some z) (he:H[id]? =some (.mp k es))
  (D:K (.tup [(Pb n es).getD (.agg z),.bool (Pb n es).isSome]) H):Ii P N o env H K:=by
 apply Cu (by rw[U];rfl);intro X h a w s Q;obtain⟨B,q,q1,q2,q3,q4,q5,q6⟩:=wq s hm he;have Z:=wZ s J;have i:IsKey (.int k) (.int k n):=rfl;have x:execOp a.eval o=(do pure (.value (<-Instr.lookup t (a.eval m) (a.eval M) true))):=by unfold execOp;rw[U]
 have r: ∀(c:Value) (v:AW) (b:Bool),(execOp a.eval o).run P w= .ok (.value (.tuple #[c,.bool b])) w→Bh (cx X h H w) v c→K (.tup [v,.bool b]) H→
   Oper.wp P o a w (λa' O=> ∃c v F A,a'=a.put o.dst c/\K v A/\Bh (cx X F A O) v c/\Ik X F A O/\HS h H w F A O) Q:=by
  intro c v b y L hK;unfold Oper.wp;rw[y,Oper.upon_value];refine⟨_,_,h,H,rfl,hK,.tup (by simp) λj u d f C=>?_,s.sim,HS.refl _ _ _⟩;rcases j with _|_|j
  ·simp at f C;subst f C;exact L
  ·simp at f C;subst f C;exact .bool b
  ·simp at f
 rcases fv (n:=n) (k:=k) q.toList es 0 (by simpa using q5) (λj p f=>by obtain⟨e,l,_,E,_⟩:=q6 j p f;exact⟨e,by simpa using l,E⟩)with⟨G,I,T⟩|⟨j,R,Y,G,I,T,h4,h5,h6⟩
 ·obtain⟨v,L,hr⟩:=vR hz w;refine r v (.agg z) false ?_ (hr _) (by rw[I]at D;exact D);rw[x,q1,Z];simp[Instr.lookup,run_underlying V,MapKept.run_getObj_map q4,MapKept.run_checkKey g i,MapKept.run_findKey g G,L]
 ·obtain⟨e',l,_,_,E⟩:=q6 j Y T;have f:q[j]? =some R:=by simpa using I
  rw[f]at l;injection l with l;subst l;refine r R.val Y.2 true ?_ (E _) (by rw[h5]at D;exact D);rw[x,q1,Z];simp[Instr.lookup,run_underlying V,MapKept.run_getObj_map q4,MapKept.run_checkKey g i,MapKept.run_findKey g G]
def Ii.range{t p i:TypeId}{m:Operand}{id:Nat}{k:IntKind}{es:List (Int×AW)}(f:o.op= .range t m)(l:A8 env m= .mp id)(n:P.underlying t=some (.map p i))(d:H[id]? =some (.mp k es))
  (j:K (.itp H.length id) (H++[.it es.length []])):Ii P N o env H K:=by
 apply Cu (by rw[f];rfl);intro X h a w s Q;obtain⟨B,g,q1,q2,q3,q4,q5,q6⟩:=wq s l d;have e:id<H.length:=by
  rcases Ag id H.length with c|c
  ·exact c
  ·rw[BP c]at d;cases d
 have b:(execOp a.eval o).run P w= .ok (.value (.pointer (some ⟨w.heap.size,0,none⟩))) {w with heap:=w.heap.push (.mapIter (some B) es.length #[] es.length)}:=by unfold execOp;rw[f];simp only[q1];simp[Instr.range,run_underlying n,MapKept.run_getObj_map q4,newObj,q5];rfl
 unfold Oper.wp;rw[b,Oper.upon_value];refine⟨_,_,_,_,rfl,j,?_,s.sim.push_m (.mapIter (some B) es.length #[] es.length) B (.it es.length []) rfl ⟨w.heap.size,by simp[Gh.at_],by simp[Gh.at_],by simp[Gh.at_]⟩,HS.push _ _ _⟩;exact .itp (by simp[cx]) (by simp[cx];omega) rfl λ_=>⟨w.heap.size,by simp[cx,Gh.at_],rfl,λ_=>by simp[cx,Gh.at_,BS e,q2]⟩
def zm{X:Nat→Prop}{h:Gh}{w:World}{a:Act}{x:Operand}{d m n:Nat}{k:IntKind}{o:List (Int×AW)}{g:List Nat}(s:St X h N env H a w)(I:A8 env x= .itp d m)(F:H[d]? =some (.it n g))(E:H[m]? =some (.mp k o)):
  ∃(B i:Nat) (b:Array MapEntry),a.eval x= .pointer (some ⟨B,0,none⟩)/\h.io d=some B/\h.gen d=0/\w.heap[B]? =some (.mapIter (some i) n g.toArray n)/\h.cap d=i/\w.heap[i]? =some (.map b b.size)/\b.size=o.length/\∀(j:Nat) (p:Int×AW),o[j]? =some p-> ∃e:MapEntry,b[j]? =some e/\e.born=j/\e.key= .int k p.1/\ ∀x,Bh x p.2 e.val:=by
 have q:=DR s.env x;rw[I]at q;obtain⟨B,r,t,u⟩:=s.sim.bld d _ F rfl;obtain⟨i,b,v,y,z,A,C⟩:=s.sim.bld m _ E rfl;generalize a.eval x=c at q;cases q with
 |itp G L K D=>obtain⟨J,l,rfl,f⟩:=D t;rw[show(cx X h H w).io d=h.io d from rfl,r]at l;injection l with l;subst l;have f:=f y;rw[show(cx X h H w).io m=h.io m from rfl,v]at f;injection f with f;have f:i=h.cap d:=f;subst f;exact⟨B,_,b,rfl,r,t,u,rfl,z,A,C⟩
def Ii.next{x:Operand}{id m:Nat}{k:IntKind}{es:List (Int×AW)}{seen:List Nat}(ho:o.op= .next x false)(T:A8 env x= .itp id m)(f:H[id]? =some (.it es.length seen))(he:H[m]? =some (.mp k es))
  (D:(∀j,j<es.length->j∈seen)->K (.tup [.bool false]) H)
  (E: ∀(j:Nat) (p:Int×AW),es[j]? =some p->j∉seen->K (.tup [.bool true,.int k p.1,p.2]) (H.set id (.it es.length (seen++[j])))):Ii P N o env H K:=by
 apply Cu (by rw[ho];rfl);intro X h a w s Q;obtain⟨B,A,c,q1,q2,q3,q4,qc,q5,q6,q7⟩:=zm s T f he;have M:execOp a.eval o=(do pure (.value (<-Instr.next (a.eval x) false o.type))):=by unfold execOp;rw[ho]
 have g: ∀(j:Nat) (e:MapEntry),c[j]? =some e->e.born=j/\j<es.length:=by
  intro j e l;have O:j<es.length:=by have:=(VU.1 l).1;omega
  obtain⟨e',F,V,_⟩:=q7 j _ (Ay O);rw[l]at F;injection F with F;subst F;exact⟨V,O⟩
 have q: ∀e∈c.toList,e.born<es.length:=λe z=>by obtain⟨j,l⟩:=RQ z;obtain⟨G,I⟩:=g j e (by simpa using l);omega
 have S:w.heap[B]? =some (.mapIter (some A) es.length seen.toArray es.length):=q4;generalize Y:Array.filter (λe:MapEntry=>!seen.toArray.contains e.born) c=L;have C: ∀e∈L.toList,e∈c.toList/\e.born∉seen:=λe z=>by rw[<-Y]at z;simpa using z
 have F:L.filter (λx=>decide (x.born<es.length))=L:=Array.filter_eq_self.2 (λx T=>by simpa using q x (C x (by simpa using T)).1);have V:L.filter (λx=>decide (x.born>=es.length))= #[]:=by rw[Array.filter_eq_empty_iff];intro x T;have:=q x (C x (by simpa using T)).1;simp;omega
 have n:(Instr.next (.pointer (some ⟨B,0,none⟩)) false o.type).run P w=((do
   let b:=(if L.isEmpty then #[none]else #[])++L.map some;match b[<-choose (.mapNext b.size)]? with
   |some (some e)=>
    setObj B (.mapIter (some A) es.length (seen.toArray.push e.born) c.size)
    pure (.tuple #[.bool true,e.key,e.val])
   |some none=>pure (.tuple #[.bool false])
   |none=>stuck "Next: no such candidate"):Sem Value).run P w:=by
  simp only[Instr.next,getObj,Sem.run_bind,Sem.run,S,q5,Result.andThen,next_test_false seen.toArray c es.length es.length q (Aj _),F3,if_false,Y,F,V,Array.append_empty];rfl
 by_cases h0:L.size=0
 ·have Z:L= #[]:=Array.eq_empty_of_size_eq_zero h0;subst Z;have t:(execOp a.eval o).run P w= .ok (.value (.tuple #[.bool false])) w:=by rw[M,q1,Sem.run_bind,n];simp[choose,Sem.run,Question.forced]
  unfold Oper.wp;rw[t,Oper.upon_value];refine⟨_,_,h,H,rfl,D λj l=>?_,.tup (by simp) λi u d f y=>?_,s.sim,HS.refl _ _ _⟩
  ·obtain⟨e,G,I,_⟩:=q7 j _ (Ay l);rcases Classical.em (j∈seen)with W|W
   ·exact W
   ·have:e∈(Array.filter (λe:MapEntry=>!seen.toArray.contains e.born) c).toList:=by have z:e∈c:=U0 G;simp[z,I,W]
    rw[Y]at this;simp at this
  ·rcases i with _|i
   ·simp at f y;subst f y;exact .bool false
   ·simp at f
 ·have a0:L.isEmpty=false:=by simp[Array.isEmpty,h0]
  obtain⟨i,v,ax,ad,al,ap,ar,as⟩: ∃(i:Nat) (v:World),i<L.size/\v.heap=w.heap/\v.os=w.os/\v.output=w.output/\v.tape=w.tape/\(choose (Question.mapNext L.size)).run P w= .ok i v:=by
   by_cases hf:L.size<=1
   ·exact⟨0,w,by omega,rfl,rfl,rfl,rfl,by simp[choose,Sem.run,Question.forced,hf]⟩
   ·exact⟨_,w.drew,VL _ (by omega),rfl,rfl,rfl,rfl,by simp only[choose,Sem.run,Question.forced,decide_eq_true_eq,hf,if_false,Question.cut];rfl⟩
  have z:L[i]∈L.toList:=by simp
  obtain⟨m1,m2⟩:=C _ z;obtain⟨j,l⟩:=RQ m1;have l:c[j]? =some L[i]:=by simpa using l
  obtain⟨G,I⟩:=g j _ l;obtain⟨e,U,c2,c3,c4⟩:=q7 j _ (Ay I);rw[l]at U;injection U with U;subst U;have J:B<w.heap.size:=(VU.1 q4).1;have t:(execOp a.eval o).run P w= .ok (.value (.tuple #[.bool true,.int k es[j].1,L[i].val])) {v with heap:=w.heap.setIfInBounds B (.mapIter (some A) es.length (seen++[j]).toArray es.length)}:=by
   rw[M,q1,Sem.run_bind,n];simp only[a0,F3,if_false,Array.empty_append,iS,Sem.run_bind,as,Result.andThen_ok,VV,H9 ax,BB];have R:(setObj B (.mapIter (some A) es.length (seen.toArray.push L[i].born) c.size)).run P v= .ok () {v with heap:=w.heap.setIfInBounds B (.mapIter (some A) es.length (seen++[j]).toArray es.length)}:=by simp[setObj,Sem.run,ad,S,G,q6]
   simp only[R,Result.andThen_ok,Sem.run_pure,c3]
  unfold Oper.wp;rw[t,Oper.upon_value];obtain⟨s1,s2⟩:=s.sim.setM (E':=.it es.length (seen++[j])) (o':=.mapIter (some A) es.length (seen++[j]).toArray es.length) (w':={v with heap:=w.heap.setIfInBounds B (.mapIter (some A) es.length (seen++[j]).toArray es.length)}) f rfl rfl q2 q4 (λr e=>by cases e) rfl al ar ap
   ⟨B,q2,q3,by simp[J,qc]⟩
  refine⟨_,_,_,_,rfl,E j _ (Ay I) (by rw[<-G];exact m2),.tup (by simp) λi u d f y=>?_,s1,s2⟩;rcases i with _|_|_|i
  ·simp at f y;subst f y;exact .bool true
  ·simp at f y;subst f y;exact .int _ _
  ·simp at f y;subst f y;exact c4 _
  ·simp at f
def Ii.entry{x:Operand}{id m j:Nat}{k:IntKind}{es:List (Int×AW)}{seen:List Nat}{p:Int×AW}(n:o.op= .entry x)(G:A8 env x= .itp id m)(c:H[id]? =some (.it es.length (seen++[j])))(C:H[m]? =some (.mp k es))
  (E:es[j]? =some p) (F:K (.tup [.int k p.1,p.2]) H):Ii P N o env H K:=by
 apply Cu (by rw[n];rfl);intro X h a w s Q;obtain⟨B,I,b,q1,q2,q3,q4,J,q5,q6,q7⟩:=zm s G c C;obtain⟨e,q,r,t,v⟩:=q7 j p E;have D:b.find? (λx=>x.born==j)=some e:=by
  rw[<-Array.find?_toList,<-r];refine find_born e b.toList ?_ (by have:=U0 q;simpa using this);have A:b.toList.map (·.born)=List.range b.size:=by
   refine M6 λi=>?_;rw[Bb,LL];rcases Ag i b.size with l|l
   ·obtain⟨e,y,z,_⟩:=q7 i _ (Ay (by omega:i<es.length));rw[y,M8 l];simp[z]
   ·rw[lL l,BP (by simpa using l)];rfl
  rw[A];exact List.nodup_range
 have f:(execOp a.eval o).run P w= .ok (.value (.tuple #[.int k p.1,e.val])) w:=by unfold execOp;rw[n];simp only[q1];simp[Instr.entry,getObj,Sem.run,q4,q5,q6,D,t]
 unfold Oper.wp;rw[f,Oper.upon_value];refine⟨_,_,h,H,rfl,F,.tup (by simp) λi u d c g=>?_,s.sim,HS.refl _ _ _⟩;rcases i with _|_|i
 ·simp at c g;subst c g;exact .int _ _
 ·simp at c g;subst c g;exact v _
 ·simp at c
end
mutual
def Ty.flat:Ty->Bool
 | .list _=>false
 | .arr _ t=>t.flat
 | .prod ts=>ts.flat
 |_=>true
def QL.flat:QL->Bool
 | .one t=>t.flat
 | .cons t ts=>t.flat&&ts.flat
end
def Plain(v:AW):Prop:= ∀(x:Cx) (c:Value),Bh x v c-> ∀y,Bh y v c
def Plain.agg{a:List AW}(h: ∀v∈a,Plain v):Plain (.agg a):=λx c r y=>by
 cases r with
 |agg e f i=>exact .agg e f λj v d b g=>h v (BV b) x d (i j v d b g) y
mutual
theorem Ty.plain_cells: ∀(t:Ty),t.flat=true-> ∀x:t.D,∀v∈(t.enc x).cells,Plain v
 | .bool,_,b,v,d=>by simp only[Ty.enc,AW.cells,A5]at d;subst d;exact λ_ c r y=>by cases r;exact .bool _
 | .int k,_,n,v,d=>by simp only[Ty.enc,AW.cells,A5]at d;subst d;exact λ_ c r y=>by cases r;exact .int _ _
 | .str,_,s,v,d=>by
  simp only[Ty.enc,AW.cells,A5]at d;subst d;exact λ_ c r y=>by
   cases r with
   |str t e=>exact .str t e
 | .list t,h,_,_,_=>by cases h
 | .arr n t,h,a,v,d=>by simp only[Ty.enc,AW.cells,HW]at d;obtain⟨i,_,d⟩:=d;exact t.plain_cells h _ v d
 | .prod ts,h,x,v,d=>ts.plain_cells h x v d
theorem QL.plain_cells: ∀(b:QL),b.flat=true-> ∀x:b.D,∀v∈b.cells x,Plain v
 | .one t,h,x,v,a=>t.plain_cells h x v a
 | .cons t b,h,x,v,a=>by
  simp only[QL.flat,BM]at h;simp only[QL.cells,Ar]at a;rcases a with a|a
  ·exact t.plain_cells h.1 _ v a
  ·exact b.plain_cells h.2 _ v a
end
def Ty.plain(t:Ty)(h:t.flat=true)(x:t.D):Plain (t.enc x):=by
 have a:=t.plain_cells h x;cases t with
 |arr n t=>exact Plain.agg a
 |prod b=>exact Plain.agg a
 |list t=>cases h
 |_=>exact a _ (by simp[Ty.enc,AW.cells])
section
variable {R:Type}
def mM(P:Program)(H:An)(t:TypeId)(k:TV->An->Option R):Option R:=
 match P.underlying t with
 |some (.map kt et)=>
  match P.underlying kt,tA P 1000 et with
  |some (.int kk),some ty=>k (.c (.raw (.mp H.length))) (H++[.mp false kk ty []])
  |_,_=>none
 |_=>none
def gB(P:Program)(H:An)(t:TypeId)(m kx v:TV)(k:TV->An->Option R):Option R:=
 match P.underlying t with
 |some (.map kt _)=>
  match m,kx with
  | .c (.raw (.mp id)),.c (.it kk n)=>
   match P.underlying kt,H[id]? with
   |some (.int k1),some (.mp false k2 ty es)=>
    if k1=kk/\k2=kk then
     match ty.flat with
     |true=>match ty.data v with|some x=>k Sq (H.set id (.mp false k2 ty (Sp n x es)))|none=>none
     |false=>none
    else none
   |_,_=>none
  |_,_=>none
 |_=>none
def o0(P:Program)(H:An)(t:TypeId)(m kx:TV)(k:TV->An->Option R):Option R:=
 match P.underlying t with
 |some (.map kt et)=>
  match m,kx with
  | .c (.raw (.mp id)),.c (.it kk n)=>
   match P.underlying kt,H[id]?,uM P et with
   |some (.int k1),some (.mp _ k2 ty es),some z=>
    if k1=kk/\k2=kk then
     match ty.isAgg&&AW.beqL z (ty.enc ty.zero).cells with
     |true=>k (.tup [ty.tv ((Pb n es).getD ty.zero),.c (.bl (Pb n es).isSome)]) H
     |false=>none
    else none
   |_,_,_=>none
  |_,_=>none
 |_=>none
variable {P:Program} {N:Nat} {o:Oper} {env:BY} {H:An} {k:TV->An->Option R} {r:R}
def mN{t:TypeId}(ok:PB env H)(b:o.op= .makeMap t none)(h:mM P H t k=some r): ∀F,iM P N o env H F k r:=by
 intro F;unfold mM at h;split at h
 ·split at h
  ·rename_i a d _ _;have c:B8 H (H++[.mp false a d []]):=B8.push H _;refine⟨_,_,Ii.makeMap a b ⟨?_,?_⟩,h,JL trivial,Od ok.heap trivial,c,Frame.push F H _⟩
   ·show AW.mp (A3 H).length=AW.mp H.length;rw[CO]
   ·rw[Pj];rfl
  ·cases h
 ·cases h
def jZ{t:TypeId}{m u A:Operand}(ok:PB env H)(G:o.op= .mapUpdate t m u A)(h:gB P H t (Ij env m) (Ij env u) (Ij env A) k=some r):iM P N o env H (List.range H.length) k r:=by
 have b:=KO env;unfold gB at h;split at h
 ·rename_i M K I;split at h
  ·rename_i i L n F E;split at h
   ·rename_i k1 s a d g l;split at h
    ·rename_i f;obtain⟨B,C⟩:=f;subst B C;split at h
     ·rename_i e;split at h
      ·rename_i x J;have w:B8 H (H.set i (.mp false s a (Sp n x d))):=B8.set l rfl λ_ _ _ _ _ h=>by cases h
       refine⟨Sq,_,?_,h,bk,SZ w ok.heap trivial,w,λj D hn=>(hn (G5.2 D)).elim⟩;refine Ii.mapUpdate (id:=i) (k:=s) (n:=n) (v:=a.enc x) (es:=d.map λp=>(p.1,a.enc p.2)) G (by rw[b,F];rfl) (by rw[b,E];rfl) (λy c q z=>?_) I g (by rw[E7,l];rfl) ⟨rfl,?_⟩
       ·rw[b]at q;exact a.plain e x y c (LY J y c q) z
       ·rw[ND,<-qe];rfl
      ·cases h
     ·cases h
    ·cases h
   ·cases h
  ·cases h
 ·cases h
def nB{t:TypeId}{m l:Operand}(ok:PB env H)(A:o.op= .lookup t m l true)(h:o0 P H t (Ij env m) (Ij env l) k=some r): ∀F,iM P N o env H F k r:=by
 intro F;have i:=KO env;unfold o0 at h;split at h
 ·rename_i I E B;split at h
  ·rename_i j G n y w;split at h
   ·rename_i k1 ro D b c z f u C;split at h
    ·rename_i e;obtain⟨q,s⟩:=e;subst q s;split at h
     ·rename_i d;simp only[BM]at d;have g:=Z6 _ _ d.2;refine⟨_,H,Ii.lookup (id:=j) (k:=D) (n:=n) (z:=z) (es:=c.map λp=>(p.1,b.enc p.2)) A (by rw[i,y];rfl) (by rw[i,w];rfl) B f C (by rw[E7,u];rfl) ⟨?_,rfl⟩,h,Po λv a=>?_,ok.heap,B8.refl H,Frame.refl F H⟩
      ·rw[qb];show _=AW.tup [(b.tv _).enc,_];rw[Ty.tv_enc];cases Pb n c with
       |none=>rw[g];show AW.tup [AW.agg _,_]=AW.tup [b.enc b.zero,_];rw[<-Ty.agg_enc d.1];rfl
       |some x=>rfl
      ·rcases Al.1 a with rfl|a
       ·exact Ty.tv_ok _ _
       ·simp only[A5]at a;subst a;exact JL trivial
     ·cases h
    ·cases h
   ·cases h
  ·cases h
 ·cases h
end
end Go.Ab
