/- A layer over the model in which values are trees: its laws and a typed interpreter, part 3. Texts of the folder wip, laid in few files with shorter names by a program (wip/tools/pack.py); nothing is assumed. -/
import Derived.Test.YtimajmppopkomaaGreatK2
import Derived.Laws.IdiomRangeMap
noncomputable section
set_option linter.unusedVariables false
set_option linter.unusedSimpArgs false
set_option linter.unusedSectionVars false
set_option linter.defProp false
set_option linter.unnecessarySimpa false
set_option linter.deprecated false
namespace Go.Ab
def Tg(H:Am)(id ver:Nat)(t:Ty)(n:Nat):Prop:=
 id<H.length/\ ∀ro t' l n' ver',H[id]? =some (.buf ro t' l n' ver')->ver<=ver'/\(ver=ver'->t'=t/\n'=n)
def Bc.ok(H:Am):Bc->Prop
 | .own id ver t n=>Tg H id ver t n
 |_=>True
def lok(H:Am)(cs:List Bc):Prop:= ∀x∈cs,x.ok H
mutual
def TV.refs:TV->List Bc
 | .c x=>[x]
 | .g cs=>cs
 | .aptr .. =>[]
 | .bptr id ver t n _ _=>[.own id ver t n]
 | .vptr cs _=>cs
 | .tup vs=>TV.refsL vs
def TV.refsL:List TV->List Bc
 |[]=>[]
 |v::r=>v.refs++TV.refsL r
end
def TV.ok(H:Am)(v:TV):Prop:=lok H v.refs
def Dp.ok(H:Am):Dp->Prop
 | .live _ cs=>lok H cs
 | .buf _ _ l n _=>n=l.length
 | .dead=>True
 | .lp _ _ _ env _ _ _ _=> ∀p∈env,∀id ver t n,Bc.own id ver t n∉p.2.refs
 | .mp .. =>True
structure Oc(env:BQ)(H:Am):Prop where
 env: ∀p∈env,p.2.ok H
 heap: ∀e∈H,e.ok H
variable {a I W:TypeId}{N n U:Nat}{b G:Am}{c L:Operand}{d:List Bc}{e T:TV}{P:Program}{t:Ty}{g Y:BQ}{i Q:List AV}{w:World}{j:Array Oper}{m:List TV}{p Z:Ap}{o:Oper}{q:Option (Nat×Bool)}{h:Gh}{s:Env}{X:Nat->Prop}{u:Bc}{v:AV}{z:IntKind}{x y:Cx}{A:Nat→Prop}{B:Option TV}{C:Dp}{D:Bool}{E:Array (Nat×Operand)}{F:Int}{J:List (Int×AV)}{R:Type}{M:Act}{O:List Nat}{S:FuncId}{V:Prop}
theorem Ig{H:List Bc}:lok b (d++H)↔lok b d/\lok b H:=by grind[lok]
theorem AA8:lok b []:=λ_ h=>by cases h
def qC{v:TV}: ∀{l:List TV},v∈l-> ∀x∈v.refs,x∈TV.refsL l
 |w::r,a,x,hx=>by simp only[TV.refsL,At];rcases A1.1 a with rfl|a;exact .inl hx;exact .inr (qC a x hx)
def ku(h:(TV.tup m).ok b)(H:e∈m):e.ok b:=λx c=>h x (by simp only[TV.refs];exact qC H x c)
def Pw{H:Am}: ∀{vs:List TV},(∀v∈vs,v.ok H)->(TV.tup vs).ok H
 |[],_=>λx a=>by simp[TV.refs,TV.refsL]at a
 |v::r,h=>by have:=Pw (vs:=r) λw b=>h w (by simp[b]);intro x a;simp only[TV.refs,TV.refsL,At]at a;rcases a with a|a;exact h v (by simp) x a;exact this x a
theorem ka(h: ∀p∈g,p.2.ok b)(t:Nat):(g.get t).ok b:=by
 induction g with
 |nil=>intro x a;simp only[BQ.get,RE,TV.refs,BE]at a;subst a;trivial
 |cons p r H=>grind[BQ.get]
theorem vj(v:Value):(yb v).ok b:=by
 cases v with
 |pointer p=>cases p<;>trivial
 |slice a l c=>
  cases a with
  |some _=>trivial
  |none=>
   match l,c with
   |0,0=>trivial
   |0,_+1=>trivial
   |_+1,_=>trivial
 |_=>trivial
def cH:RE.ok b:=λx a=>by simp only[RE,TV.refs,BE]at a;subst a;trivial
theorem JU{H:Am}(h:u.ok H):(TV.c u).ok H:=λy a=>by grind[TV.refs]
theorem ACe(v:Value):(cvT v).ok b:=by
 cases v with
 |agg a=>
  simp only[cvT];cases h:a.toList.all (·.oneCell')with
  |false=>exact cH
  |true=>intro x H;grind[TV.refs,vj]
 |_=>exact JU (vj _)
theorem YD{H:Am}(h: ∀p∈g,p.2.ok H)(x:Operand):(Ib g x).ok H:=by
 cases x with
 |tmp t=>exact ka h t
 |const v=>exact ACe v
 |global _=>exact cH
 |func f=>exact JU trivial
theorem Gb(a b:List Bc):lvs (a++b)=lvs a++lvs b:=fE
theorem HJ(x:Bc)(b:List Bc):lvs (x::b)=x.enc++lvs b:=I4
theorem aC: ∀a:List Bc,(lvs a).length=z7 a
 |[]=>rfl
 |x::r=>by rw[HJ,Af,x.enc_len,aC r];rfl
def Nq: ∀{c:List Bc} {n:Nat} {a b:List Bc},Uu c n=some (a,b)->c=a++b/\(lvs a).length=n
 |c,0,a,b,h=>by cases c<;>simp only[Uu]at h<;>obtain⟨rfl,rfl⟩:=h<;>exact⟨rfl,rfl⟩
 |x::r,n+1,a,b,h=>by simp only[Uu]at h;split at h;rename_i e;split at h;rename_i g i f;obtain⟨rfl,rfl⟩:=h;obtain⟨j,d⟩:=Nq f;rw[HJ,Af,d,x.enc_len];simp_all;cases h;cases h
mutual
theorem Ty.lvs_enc: ∀(t:Ty) (x:t.D),lvs (t.lvs x)=(t.enc x).cells
 | .bool,_=>rfl
 | .int _,_=>rfl
 | .str,_=>rfl
 | .list _,_=>rfl
 | .arr n t,a=>by simp only[Ty.lvs,lvs,I4,jy,D8,Bc.enc]
 | .prod ts,x=>by simp only[Ty.lvs,Ty.enc,AV.cells];exact ts.lvs_cells x
theorem QX.lvs_cells: ∀(a:QX) (x:a.D),Go.Ab.lvs (a.lvs x)=a.cells x
 | .one t,x=>by simp only[QX.lvs,QX.cells];exact t.lvs_enc x
 | .cons t a,x=>by simp only[QX.lvs,QX.cells];rw[Gb,t.lvs_enc,a.lvs_cells]
end
mutual
theorem Ty.lvs_ok{H:Am}: ∀(t:Ty) (x:t.D),lok H (t.lvs x)
 | .bool,_=>λy b=>by simp only[Ty.lvs,BE]at b;subst b;trivial
 | .int _,_=>λy b=>by simp only[Ty.lvs,BE]at b;subst b;trivial
 | .str,_=>λy b=>by simp only[Ty.lvs,BE]at b;subst b;trivial
 | .list _,_=>λy b=>by simp only[Ty.lvs,BE]at b;subst b;trivial
 | .arr n t,a=>λy b=>by simp only[Ty.lvs,BE]at b;subst b;trivial
 | .prod ts,x=>by simp only[Ty.lvs];exact ts.lvs_ok x
theorem QX.lvs_ok{H:Am}: ∀(a:QX) (x:a.D),lok H (a.lvs x)
 | .one t,x=>by simp only[QX.lvs];exact t.lvs_ok x
 | .cons t a,x=>by simp only[QX.lvs];exact Ig.2 ⟨t.lvs_ok _,a.lvs_ok _⟩
end
def Le(h:u.scalar=true):u.enc=[u.one]:=by
 cases u with
 |ar n t a=>cases h
 |_=>rfl
def Bc.scalar_cells(h:u.scalar=true):u.one.cells=[u.one]:=by
 cases u with
 |ar n t a=>cases h
 |raw v=>cases v<;>first|rfl|cases h
 |_=>rfl
theorem Px(h:part P a d N=some e):
  (∃n,tI P a=some (true,n)/\N+n<=(lvs d).length/\e.enc= .agg (((lvs d).drop N).take n)\/tI P a=some (false,n)/\(lvs d)[N]? =some e.enc)/\ ∀H,lok H d->e.ok H:=by
 unfold part at h;split at h;rename_i t r l;obtain⟨rfl,j⟩:=Nq l;split at h;rename_i n i;split at h;rename_i b c g;obtain⟨rfl,k⟩:=Nq g;injection h with h;subst h;refine⟨⟨n,.inl ⟨i,?_,?_⟩⟩,λH f=>?_⟩;simp only[Gb,Af];omega;simp only[TV.enc,Gb,AV.agg.injEq];rw[<-j,Po,<-k,Vm];exact(Ig.1 (Ig.1 f).2).1;cases h;rename_i n i;split at h;rename_i x r;split at h;rename_i m;injection h with h;subst h;refine⟨⟨n,.inr ⟨i,?_⟩⟩,λH f=>JU ((Ig.1 f).2 x (by simp))⟩;rw[Gb,HJ,Le m,Cb (by omega)];simp[j,TV.enc];cases h;cases h;cases h;cases h
def ff(h:part P a d N=some e)
  (hr: ∀n,N+n<=(lvs d).length->Oy p v n=some (((lvs d).drop N).take n)):cQ P a p v=some e.enc:=by
 obtain⟨⟨n,t|t⟩,_⟩:=Px h;obtain⟨i,g,c⟩:=t;simp only[cQ,i,hr n g,Bf,c];obtain⟨i,c⟩:=t;have k:N<(lvs d).length:=by rcases Ao N (lvs d).length with f|f;exact f;rw[Ck f]at c;cases c
 simp only[cQ,i,hr 1 (by omega),AE];rw[List.head?_take,List.head?_drop,c];rfl
theorem lf(h:Ut b N=some d): ∃ro,b[N]? =some (.live ro d):=by grind[Ut]
theorem FF(H:Am)(id:Nat):(A7 H)[id]? =(H[id]?).map Dp.enc:=CC
theorem nq(h:Ut b N=some d):(A7 b)[N]? =some (.live 0 (lvs d)):=by obtain⟨ro,H⟩:=lf h;rw[FF,H];rfl
def AA6(H: ∀e∈b,e.ok b)(h:Ut b N=some d):lok b d:=by obtain⟨ro,c⟩:=lf h;exact H _ (BL c)
def uN{l:List t.D}(h:dP b N n t=some l): ∃ro a,b[N]? =some (.buf ro t l a n):=by unfold dP at h;split at h;rename_i ro i j a d e;split at h;rename_i g;have c:=C8 g;subst c;split at h;rename_i f;have H:=f;have:=Ty.beq_eq i t H;subst this;injection h with h;refine⟨ro,a,?_⟩;rw[e,<-h];rfl;cases h;cases h;cases h
def iV{l:List t.D}(d: ∀e∈b,e.ok b)(hr:Tg b N U t n)(h:dP b N U t=some l):(A7 b)[N]? =some (.live n (t.E.cl l))/\l.length=n:=by obtain⟨ro,f,H⟩:=uN h;obtain⟨_,c⟩:=hr.2 _ _ _ _ _ H;obtain⟨_,rfl⟩:=c rfl;have:f=l.length:=d _ (BL H);refine⟨?_,this.symm⟩;rw[FF,H];rfl
def uI{a:JR (n+1) t.D}(h:yG d N n t=some a): ∃c b,d=c++(.ar n t a::b)/\(lvs c).length=N:=by unfold yG at h;split at h;rename_i c l m k b i;split at h;rename_i j;have:=Ty.beq_eq _ _ j;injection this with e f;subst e f;injection h with h;obtain⟨e,f⟩:=Nq i;refine⟨c,b,?_,f⟩;rw[e,<-h];rfl;cases h;cases h
theorem Yx(n:Nat)(t:Ty)(a:JR (n+1) t.D):(Bc.ar n t a).enc=aP (n+1) t.E a:=rfl
section
variable {P:Program} {R:Type} {H:Am} {k:TV->Option R} {r:R}
theorem UV(h:okT B k=some r): ∃v,B=some v/\k v=some r:=by unfold okT at h;grind
theorem cI(v:AV):(xo v).enc=v:=by cases v<;>rfl
theorem eS(v:AV):(xo v).ok H:=by cases v<;>exact JU trivial
theorem eJ{o:Option AV}(h:okA o k=some r): ∃v,o=some v/\k (xo v)=some r:=by unfold okA at h;grind
theorem fQ{o:Option R}(h:cond D none o=some r):D=false/\o=some r:=by grind
theorem lg(C: ∀v∈H,v.ok H)(D:e.ok H)(h:loadT P H a e k=some r): ∃u,cQ P a (A7 H) e.enc=some u.enc/\k u=some r/\u.ok H:=by
 unfold loadT at h;split at h;rename_i id g;split at h;rename_i B q;obtain⟨u,f,o⟩:=UV h;refine⟨u,ff f λn c=>?_,o,(Px f).2 H (AA6 C q)⟩;grind[TV.enc,Bc.one,Oy,nq];cases h;rename_i B d;obtain⟨u,f,o⟩:=UV h;refine⟨u,ff f λn c=>?_,o,(Px f).2 H D⟩;simp only[TV.enc,Oy];grind;rename_i id p n b i g;split at h;rename_i B q;split at h;rename_i t G;obtain⟨v,z,h⟩:=Dv.1 h;obtain⟨u,f,o⟩:=UV h;obtain⟨j,d,rfl,s⟩:=uI G;refine⟨u,ff f λm c=>?_,o,(Px f).2 H (b.lvs_ok v)⟩;rw[b.lvs_enc,b.enc_len]at c;obtain⟨w,x⟩:=yD b.E (lvs j) (lvs d) z c;have F:lvs (j++(.ar n b t::d))=lvs j++aP (n+1) b.E t++lvs d:=by rw[Gb,HJ,Yx,A0]
 simp only[TV.enc,Oy,nq q,F];have y:p+i.toNat*b.sz+g=(lvs j).length+i.toNat*b.E.sz+g:=by rw[s];rfl
 rw[y,if_pos ⟨trivial,w⟩,x,b.lvs_enc];rfl;cases h;cases h;rename_i id A b n i g;split at h;rename_i l q;obtain⟨v,z,h⟩:=Dv.1 h;obtain⟨u,f,o⟩:=UV h;obtain⟨y,_⟩:=iV C (D (.own id A b n) (by simp[TV.refs])) q;refine⟨u,ff f λm c=>?_,o,(Px f).2 H (b.lvs_ok v)⟩;rw[b.lvs_enc,b.enc_len]at c;obtain⟨w,x⟩:=ACS b.E z c;simp only[TV.enc,Oy,y];rw[if_pos ⟨trivial,w⟩];show some (List.take m (List.drop (i.toNat*b.E.sz+g) (b.E.cl l)))=_;rw[x,b.lvs_enc];rfl;cases h;cases h
theorem uK{i:BinOp}(h:ACT P i a e T k=some r): ∃u,sE P i a e.enc T.enc=some u.enc/\k u=some r/\u.ok H:=by
 unfold ACT at h;split at h;rename_i n t o b;simp only[TV.enc,Bc.one,sE];split at h;obtain⟨c,h⟩:=fQ h;have d: ¬b<0:=by simpa using c
 refine⟨_,?_,h,JU trivial⟩;grind[eO,TV.enc,Bc.one];obtain⟨c,h⟩:=fQ h;have d: ¬b<0:=by simpa using c
 refine⟨_,?_,h,JU trivial⟩;grind[eO,TV.enc,Bc.one];split at h;rename_i x;obtain⟨c,h⟩:=fQ h;have d: ¬b=0:=by simpa using c
 refine⟨_,?_,h,JU trivial⟩;grind[j8,TV.enc,Bc.one];cases h;split at h;rename_i x;obtain⟨c,h⟩:=fQ h;have d: ¬b=0:=by simpa using c
 refine⟨_,?_,h,JU trivial⟩;grind[j8,TV.enc,Bc.one];cases h;grind[eJ,eS,cI];rename_i t b;simp only[TV.enc,Bc.one,sE];split at h;split at h;rename_i x;exact⟨_,by simp only[if_pos x,TV.enc,Bc.one],h,JU trivial⟩;cases h;split at h;rename_i x;exact⟨_,by simp only[if_pos x,TV.enc,Bc.one],h,JU trivial⟩;cases h;cases h;rename_i t b;simp only[TV.enc,Bc.one,sE];split at h;obtain⟨s,j,h⟩:=Dv.1 h;exact⟨_,by simp only[qQ,TV.enc,Bc.one];exact ACt j,h,JU trivial⟩;grind[eJ,cI,eS];rename_i l bs;split at h;rename_i m f;split at h;rename_i g;simp only[TV.enc,sE,f,if_pos g];split at h;exact⟨_,by simp only[TV.enc,Bc.one,eqT],h,JU trivial⟩;exact⟨_,by simp only[TV.enc,Bc.one,eqT],h,JU trivial⟩;cases h;cases h;cases h;cases h
def xi{a:UnOp}(h:unT a e k=some r): ∃u,unV a e.enc=some u.enc/\k u=some r/\u.ok H:=by unfold unT at h;split at h;obtain⟨e,b,h⟩:=eJ h;exact⟨_,by rw[cI];exact b,h,eS e⟩;cases h
def ADg(l:List Int):(Ty.int .u8).E.cl l=l.map (qi .u8).f:=by
 unfold S9.cl;induction l with
 |nil=>rfl
 |cons n l a=>simp only[Be,I4,a];rfl
def wk:Uy P p I a (.int z F)=Uy P [] I a (.int z F):=by unfold Uy;cases kd P a<;>rfl
def wl{s:List UInt8}:Uy P p I a (.str s)=Uy P [] I a (.str s):=by unfold Uy;cases kd P a<;>rfl
def sK(g: ∀d∈H,d.ok H)(c:e.ok H)(h:yX P H I a e k=some r): ∃u,Uy P (A7 H) I a e.enc=some u.enc/\k u=some r/\u.ok H:=by
 unfold yX at h;split at h;rename_i l;split at h;rename_i b;exact⟨_,zJ l b.1 b.2,h,JU trivial⟩;cases h;rename_i id f n;split at h;rename_i b;split at h;rename_i l j;obtain⟨i,hn⟩:=iV g (c (.own id f (.int .u8) n) (by simp[TV.refs])) j;refine⟨_,?_,h,JU trivial⟩;simp only[TV.enc,Bc.one,Uy,b.1,b.2,if_true,rowsOf,i];rw[if_pos ⟨trivial,rfl,by rw[(Ty.int .u8).E.clen,hn];show 0+n<=n*1;omega⟩];have:((Ty.int .u8).E.cl l).length=n:=by rw[(Ty.int .u8).E.clen,hn];exact Nat.mul_one n
 rw[fC,<-this,HT,ADg];exact congrArg (Option.map AV.str) (rW l);cases h;cases h;obtain⟨e,c,h⟩:=eJ h;exact⟨_,by rw[cI];exact wk.trans c,h,eS e⟩;obtain⟨e,c,h⟩:=eJ h;exact⟨_,by rw[cI];exact wl.trans c,h,eS e⟩;cases h
end
section
variable {P:Program} {R:Type} {H:Am} {k:TV->Option R} {r:R}
theorem de(h:Ut H N=some d):Re (A7 H) N 0=true:=by simp[Re,nq h]
def qd{l:List t.D}(b: ∀e∈H,e.ok H)(hr:Tg H N U t n)(h:dP H N U t=some l):Re (A7 H) N n=true:=by simp[Re,(iV b hr h).1]
theorem kO(x: ∀s∈H,s.ok H)(g:e.ok H)(h:gy P H N n e k=some r): ∃u,Tu P (A7 H) N n e.enc=some u.enc/\k u=some r/\u.ok H:=by
 unfold gy at h;split at h;rename_i B t f z;split at h;cases h;rename_i hn;have d:f≠0:=λs=>by simp_all
 unfold Tu;simp only[z,if_neg d];split at h;rename_i id o;split at h;rename_i p c;exact⟨_,by simp only[TV.enc,Bc.one,shift,de c,if_true],h,JU trivial⟩;cases h;rename_i p q;split at h;rename_i a b A;obtain⟨rfl,y⟩:=Nq A;refine⟨_,?_,h,(Ig.1 g).2⟩;simp only[TV.enc,shift];rw[if_pos (by simp only[Af,Gb];omega),Gb,A0,<-y,Po];cases h;rename_i id m f w i o;split at h;rename_i p c;refine⟨_,?_,h,λ_ h=>by cases h⟩;grind[TV.enc,shift,de];cases h;rename_i id j w f i o;split at h;rename_i l c;refine⟨_,?_,h,g⟩;simp only[TV.enc,shift,qd x (g (.own id j w f) (by simp[TV.refs])) c,if_true,aK];cases h;cases h;cases h
theorem rJ(h:part P a d N=some e)(c: ∀t,N+t<=(lvs d).length->n+t<=i.length/\(i.drop n).take t=((lvs d).drop N).take t):oE P a i n=some e.enc:=by grind[Px,oE,List.head?_take,List.head?_drop]
theorem ql(d:e.ok H)(h:uU P N n e k=some r): ∃u,nL P N n e.enc=some u.enc/\k u=some r/\u.ok H:=by unfold uU at h;split at h;rename_i s t f g a;obtain⟨u,c,b⟩:=UV h;refine⟨u,?_,b,(Px c).2 H d⟩;simp only[nL,a,TV.enc];grind[rJ];cases h
theorem mj{a:JR n R}{x:R}(h:GX a F=some x):0<=F/\F<n:=by obtain⟨c,j,rfl,_⟩:=jp h;grind
theorem kf(s: ∀v∈H,v.ok H)(C:e.ok H)(h:iA P H a e T k=some r): ∃u,Tz P (A7 H) a e.enc T.enc=some u.enc/\k u=some r/\u.ok H:=by
 unfold iA at h;split at h;rename_i L T;simp only[TV.enc,Bc.one,Tz];split at h;rename_i len z sz p;simp only[p];split at h;rename_i id D;split at h;rename_i G m;split at h;rename_i F n b t g K;split at h;rename_i d;obtain⟨rfl,rfl⟩:=d;obtain⟨v,c,h⟩:=Dv.1 h;refine⟨_,?_,h,λ_ h=>by cases h⟩;rw[if_pos (mj c)];simp only[TV.enc,Bc.one,shift,de m,if_true,RR];cases h;cases h;cases h;rename_i n b t M g;split at h;rename_i d;obtain⟨rfl,rfl⟩:=d;obtain⟨v,c,h⟩:=Dv.1 h;refine⟨_,?_,h,b.lvs_ok v⟩;rw[if_pos (mj c)];obtain⟨_,o,q,_⟩:=yI b.E c [] [];simp only[Cy,D8,CT,ED]at o q;have B:T.toNat*b.sz+b.sz<=(aP (n+1) b.E t).length:=o;simp only[TV.enc,shift,HJ,Yx];rw[if_pos (by grind)];rw[b.lvs_enc,A0,jx (by omega)];have y:(aP (n+1) b.E t).drop (T.toNat*b.sz)=(b.enc v).cells++(aP (n+1) b.E t).drop (T.toNat*b.sz+b.sz):=by rw[<-Of];have I:((aP (n+1) b.E t).drop (T.toNat*b.sz)).take b.sz=(b.enc v).cells:=q;grind[List.take_append_drop]
 rw[y,A0];rfl;cases h;cases h;rename_i z sz p;simp only[p];split at h;rename_i b l;split at h;rename_i d;subst d;obtain⟨v,c,h⟩:=Dv.1 h;obtain⟨q1,q2⟩:=AEd (f:=b.enc) c;refine⟨_,?_,h,b.lvs_ok v⟩;simp only[TV.enc,Bc.one];rw[if_pos ⟨q1,trivial⟩,q2,b.lvs_enc,D8];rfl;cases h;rename_i id j b n;split at h;rename_i l m;split at h;rename_i d;subst d;obtain⟨v,c,h⟩:=Dv.1 h;have hr:=C (.own id j b n) (by simp[TV.refs]);obtain⟨J,hn⟩:=iV s hr m;refine⟨.bptr id j b n T 0,?_,h,λx w=>by simp only[TV.refs,BE]at w;subst w;exact hr⟩;obtain⟨_,_,_,_,A,o,_,_⟩:=nC b.E c;simp only[TV.enc,Bc.one];rw[if_pos ⟨A,by omega,trivial,qd s hr m⟩,ED,RR];cases h;cases h;cases h;cases h;cases h
theorem iq{e:TypeId}{sz:Nat}{cs:List Bc}{i:Int}(b:lok H cs): ∀{m j:Nat},qV P e sz cs i k m j=some r-> ∃u,(0<=i/\i<((j+m:Nat):Int))/\oE P e (lvs cs) (i.toNat*sz)=some u.enc/\k u=some r/\u.ok H
 |m+1,j,h=>by
  simp only[qV]at h;cases a:decide (i=Int.ofNat j)with
  |true=>
   rw[a]at h;have f:i=(j:Int):=by grind
   obtain⟨u,d,c⟩:=UV h;refine⟨u,⟨by omega,by omega⟩,?_,c,(Px d).2 H b⟩;grind[rJ]
  |false=>rw[a]at h;obtain⟨u,q1,q2⟩:=iq b (m:=m) (j:=j+1) h;grind
theorem qw(A:e.ok H)(h:ua P a e T k=some r): ∃u,eG P a e.enc T.enc=some u.enc/\k u=some r/\u.ok H:=by
 unfold ua at h;split at h;rename_i B T;split at h;rename_i n c t;split at h;rename_i len x sz o;split at h;rename_i z;obtain⟨rfl,rfl⟩:=z;obtain⟨v,p,h⟩:=Dv.1 h;obtain⟨u,q,f⟩:=UV h;refine⟨u,?_,f,(Px q).2 H (c.lvs_ok v)⟩;simp only[TV.enc,Bc.one,eG,o];rw[if_pos (mj p)];refine rJ q λm d=>?_;rw[c.lvs_enc,c.enc_len,ED]at d;obtain⟨j,l⟩:=yD c.E (off:=0) [] [] p (m:=m) (by rw[ED];exact d);simp at j l;have w:lvs [Bc.ar n c t]=aP (n+1) c.E t:=by grind[Yx,lvs]
 rw[w,c.lvs_enc,fC];exact⟨j,l⟩;cases h;cases h;rename_i g _;split at h;rename_i len x sz o;split at h;obtain⟨u,q1,q2,q3⟩:=iq (cs:=g) (H:=H) A h;grind[TV.enc,Bc.one,eG];cases h;cases h;rename_i s;split at h;rename_i f;obtain⟨b,y,h⟩:=Dv.1 h;exact⟨_,by simp only[TV.enc];exact ADt y f,h,JU trivial⟩;cases h;cases h;cases h
theorem iU{d:Nat}(h:wY d B=some F)(a:0<=F):U4 d (B.map TV.enc)=some F.toNat:=by unfold wY at h;grind[U4,TV.enc,Bc.one,ny]
theorem rS{i m:Option TV}(h:vK P a e B i m k=some r): ∃u,eP P (A7 H) a e.enc (B.map TV.enc) (i.map TV.enc) (m.map TV.enc)=some u.enc/\k u=some r/\u.ok H:=by unfold vK at h;split at h;cases h;split at h;rename_i s;split at h;rename_i l w g b;split at h;rename_i y;obtain⟨x,c,h⟩:=Dv.1 h;refine⟨_,?_,h,JU trivial⟩;unfold TH at c;split at c;rename_i t;simp only[TV.enc,Bc.one,eP,iU (d:=0) g t.1,iU b (js t.1 t.2.1)];grind;cases c;cases h;cases h;rename_i z f;split at h;rename_i l w A sz g b q;split at h;rename_i y;obtain⟨x,c,h⟩:=Dv.1 h;refine⟨_,?_,h,JU trivial⟩;unfold bu at c;split at c;rename_i t;have v:(f.map z.enc).length=f.length:=Da _;have n:=iU (d:=0) g t.1;have o:=iU b (js t.1 t.2.1);have p:U4 f.length none=some f.length:=rfl;simp only[TV.enc,Bc.one,eP,v,n,o,p,q];grind[List.map_take,List.map_drop];cases c;cases h;cases h;cases h
def ud(d: ∀v∈H,v.ok H)(g:e.ok H)(h:ACo P H a e k=some r): ∃u,np P (A7 H) a e.enc=some u.enc/\k u=some r/\u.ok H:=by unfold ACo at h;split at h;rename_i s t;exact⟨_,by simp only[np,t,TV.enc,Bc.one],h,JU trivial⟩;rename_i n v t;exact⟨_,by simp only[np,t,TV.enc,Bc.one],h,JU trivial⟩;rename_i b l v t;exact⟨_,by simp only[np,t,TV.enc,Bc.one,Da],h,JU trivial⟩;rename_i v id c b n t;split at h;rename_i l f;refine⟨_,?_,h,JU trivial⟩;simp only[np,t,TV.enc,Bc.one];cases h;rename_i v t;exact⟨_,by simp only[np,t,TV.enc,Bc.one],h,JU trivial⟩;cases h
end
def Wb(h:e.words=some d):e.enc.solid=true/\e.enc.cells=lvs d/\ ∀H,e.ok H->lok H d:=by unfold TV.words at h;split at h;rename_i x;split at h;rename_i a;simp at a;injection h with h;subst h;refine⟨a.2,?_,λH b=>b⟩;rw[HJ,Le a.1];exact Bc.scalar_cells a.1;cases h;injection h with h;subst h;exact⟨rfl,rfl,λH b=>b⟩;cases h
theorem fi{f c:List Bc}{e n:Nat}(h:xa d e f n=some c)(hn:(lvs f).length=n):lvs c=UY (lvs d) e (lvs f)/\e+n<=(lvs d).length/\ ∀H,lok H d->lok H f->lok H c:=by unfold xa at h;split at h;rename_i a r i;obtain⟨rfl,l⟩:=Nq i;split at h;rename_i m b g;obtain⟨rfl,o⟩:=Nq g;refine⟨?_,by simp only[Gb,Af];omega,λH j k=>?_⟩;grind[UY,Gb];grind[Ig];cases h;cases h
mutual
theorem Ty.zlvs_ok{H:Am}: ∀t:Ty,lok H t.zlvs
 | .bool=>λy a=>by simp only[Ty.zlvs,BE]at a;subst a;trivial
 | .int _=>λy a=>by simp only[Ty.zlvs,BE]at a;subst a;trivial
 | .str=>λy a=>by simp only[Ty.zlvs,BE]at a;subst a;trivial
 | .list _=>λy a=>by simp only[Ty.zlvs,BE]at a;subst a;trivial
 | .arr n t=>λy a=>by simp only[Ty.zlvs,BE]at a;subst a;trivial
 | .prod b=>by simp only[Ty.zlvs];exact b.zlvs_ok
theorem QX.zlvs_ok{H:Am}: ∀a:QX,lok H a.zlvs
 | .one t=>by simp only[QX.zlvs];exact t.zlvs_ok
 | .cons t a=>by simp only[QX.zlvs];exact Ig.2 ⟨t.zlvs_ok,a.zlvs_ok⟩
end
def xE(v:AV):(pg v).enc=[v]:=by cases v<;>rfl
theorem y6(v:AV):(pg v).ok b:=by cases v<;>trivial
theorem kh: ∀z:List AV,lvs (z.map pg)=z
 |[]=>rfl
 |v::r=>by rw[Be,HJ,kh r,xE];rfl
theorem wJ(z:List AV):lok b (z.map pg):=λx a=>by grind[y6]
theorem We(h:oY P a=some d):Wc P a=some (lvs d)/\ ∀H,lok H d:=by unfold oY at h;split at h;rename_i t b;split at h;rename_i e z;split at h;rename_i c;injection h with h;subst h;exact⟨by rw[b,aQ _ _ c],λH=>e.zlvs_ok⟩;grind[kh,wJ];grind[kh,wJ];cases h
theorem nM{p:Xj}: ∀{a:List (Nat×TV)} {c b:List Bc},sW p c a=some b->lU p (lvs c) (a.map λq=>(q.1,q.2.enc))=some (lvs b)/\ ∀H,lok H c->(∀q∈a,q.2.ok H)->lok H b
 |[],c,b,h=>by simp only[sW,Ai]at h;subst h;exact⟨rfl,λH h _=>h⟩
 |(i,v)::r,c,b,h=>by simp only[sW]at h;split at h;rename_i m size z t l;split at h;rename_i k;have e:=C8 k;split at h;rename_i s d;obtain⟨x,y,o⟩:=Wb l;obtain⟨u,w,n⟩:=fi d (by rw[aC,e]);obtain⟨q1,q2⟩:=nM h;refine⟨?_,λH g f=>q2 H (n H g (o H (f (i,v) (by simp)))) λq j=>f q (by simp[j])⟩;grind[lU,aC];cases h;cases h;cases h
section
variable {P:Program} {R:Type} {env:BQ} {H:Am} {k:TV->Option R} {r:R}
theorem sF{t:List (Nat×TV)}(h:uO P a t=some e):mv P a (t.map λq=>(q.1,q.2.enc))=some e.enc/\((∀q∈t,q.2.ok H)->e.ok H):=by unfold uO at h;split at h;rename_i z p v j;obtain⟨k,f⟩:=We v;rw[Vp]at h;obtain⟨g,c,rfl⟩:=h;obtain⟨i,b⟩:=nM c;refine⟨?_,λd=>b H (f H) d⟩;grind[mv,TV.enc];cases h
def kv: ∀{l:List TV} {m:List AV},oI l=some m->m=l.map TV.enc
 |[],m,h=>by simp only[oI,Ai]at h;subst h;rfl
 | .c x::r,m,h=>by simp only[oI]at h;split at h;rename_i b _ a;injection h with h;subst h;rw[Be,<-kv a];rfl;cases h
 | .g _::_,m,h=>by simp[oI]at h
 | .aptr .. ::_,m,h=>by simp[oI]at h
 | .bptr .. ::_,m,h=>by simp[oI]at h
 | .vptr .. ::_,m,h=>by simp[oI]at h
 | .tup _::_,m,h=>by simp[oI]at h
def po(h:mmT D e T k=some r): ∃u,mmV D [e.enc,T.enc]=some u.enc/\k u=some r/\u.ok H:=by unfold mmT at h;split at h;exact⟨_,by simp only[TV.enc,Bc.one,mmV],h,JU trivial⟩;cases h
def ul{z:TV}(h:ACp e T z k=some r): ∃u,mm3 e.enc T.enc z.enc=some u.enc/\k u=some r/\u.ok H:=by unfold ACp at h;split at h;exact⟨_,by simp only[TV.enc,Bc.one,mm3],h,JU trivial⟩;cases h
theorem qB{F:Op}(ok:Oc env H)(h:quT P env H F k=some r): ∃v,CM P (Bw env) (A7 H) F=some v.enc/\k v=some r/\v.ok H:=by
 have j: ∀x,(Ib env x).ok H:=YD ok.env;have g:=JD env;unfold quT at h;split at h;grind[CM];grind[CM];rename_i c a b;split at h;rename_i t K;have w:BC (Bw env) c= .bool t:=by rw[g,K];rfl
 grind[CM,Bool.false_eq_true];cases h;obtain⟨u,d,e⟩:=lg ok.heap (j _) h;grind[CM];rename_i x;split at h;grind[BC,Bw,CM,de,TV.enc,Bc.one,JU];grind[BC,Bw,CM,TV.enc,Bc.one,JU];grind[BC,Bw,lvs,CM,TV.enc];grind[BC,Bw,CM,de,TV.enc];rename_i id D G n i B s;split at h;rename_i l A;have w:BC (Bw env) x= .ptr id n (i.toNat*G.sz+B):=by rw[g,s];rfl
 have:=j x;rw[s]at this;exact⟨_,by simp only[CM,w,qd ok.heap (this (.own id D G n) (by simp[TV.refs])) A,if_true,TV.enc],h,this⟩;cases h;cases h;simp_all[uK,CM];obtain⟨u,d,e⟩:=xi (H:=H) h;exact⟨u,by simp only[CM,g,d],e⟩;obtain⟨u,d,e⟩:=sK ok.heap (j _) h;exact⟨u,by simp only[CM,g,d],e⟩;obtain⟨u,d,e⟩:=kO ok.heap (j _) h;exact⟨u,by simp only[CM,g,d],e⟩;obtain⟨u,d,e⟩:=ql (j _) h;exact⟨u,by simp only[CM,g,d],e⟩;obtain⟨u,d,e⟩:=kf ok.heap (j _) h;exact⟨u,by simp only[CM,g,d],e⟩;obtain⟨u,d,e⟩:=qw (H:=H) (j _) h;exact⟨u,by simp only[CM,g,d],e⟩;rename_i t x Q O R;obtain⟨u,d,e⟩:=rS (H:=H) h;have q: ∀o:Option Operand,o.map (BC (Bw env))=(o.map (Ib env)).map TV.enc:=by
  intro o;cases o with
  |none=>rfl
  |some y=>simp only[Bf,g]
 exact⟨u,by simp only[CM,g,q,d],e⟩;rename_i x i;split at h;rename_i N s;split at h;rename_i v z;have w:BC (Bw env) x= .tup (N.map TV.enc):=by rw[g,s];simp only[TV.enc,nH]
 have E:=j x;rw[s]at E;exact⟨v,by simp only[CM,w,CC,z,Bf],h,ku E (BL z)⟩;cases h;cases h;rename_i f a b;split at h;rename_i l m A L;refine⟨_,?_,h,JU trivial⟩;have q: ∀o:List Operand,o.map (BC (Bw env))=(o.map (Ib env)).map TV.enc:=by intro o;rw[Nw];exact MC λy _=>g y
 simp only[CM,q,<-kv A,<-kv L,TV.enc,Bc.one];cases h;rename_i t C;obtain⟨v,z,h⟩:=UV h;obtain⟨I,J⟩:=sF (H:=H) z;refine⟨v,?_,h,J λq M=>?_⟩;simp only[CM];rw[<-I,Nw];congr 1;exact MC λp _=>by simp only[Function.comp,g]
 obtain⟨p,_,rfl⟩:=Br.1 M;exact j _;obtain⟨u,d,e⟩:=ud ok.heap (j _) h;exact⟨u,by simp only[CM,g,d],e⟩;obtain⟨u,d,e⟩:=po (H:=H) h;exact⟨u,by simp only[CM,g,d],e⟩;obtain⟨u,d,e⟩:=po (H:=H) h;exact⟨u,by simp only[CM,g,d],e⟩;obtain⟨u,d,e⟩:=ul (H:=H) h;exact⟨u,by simp only[CM,g,d],e⟩;cases h
end
def Conv(x y:Cx)(v v':AV):Prop:= ∀c,BZ x v c->BZ y v' c
def SO(x y:Cx)(H H2:Ap):Prop:=
 H2.length=H.length/\ ∀(j:Nat) (e':Ec),H2[j]? =some e'->e'= .dead\/
  (∃g cs cs',H[j]? =some (.live g cs)/\e'= .live g cs'/\cs'.length=cs.length/\ ∀(i:Nat) (v':AV),cs'[i]? =some v'-> ∃v,cs[i]? =some v/\Conv x y v v')\/
  (H[j]? =some e'/\ ∀g cs,e'≠ .live g cs)
theorem SO.refl(x:Cx)(H:Ap):SO x x H H:=by
 refine⟨rfl,λj a d=>?_⟩;cases a with
 |live g c=>exact .inr (.inl ⟨g,c,c,d,rfl,rfl,λi v b=>⟨v,b,λ_ r=>r⟩⟩)
 |_=>grind
theorem SO.own{H d:Ap}{h:Gh}(hr:SO x y H d): ∀B,owned h d B->owned h H B:=by rintro B ⟨j,f,i,c,a⟩;rcases hr.2 j f i with b|⟨g,k,e,b,_⟩|⟨b,_⟩;grind;exact⟨j,_,b,by simp,a⟩;exact⟨j,_,b,c,a⟩
def SO.later{h:Gh}{H a:Ap}{w:World}{x y:Cx}(hr:SO x y H a):(cx X h H w).Later (cx X h a w):={size:=Ag _,keep:=λ_ _ _ _=>rfl,own:=λB _ b=>b.imp _root_.id (hr.own B),n:=by simp[cx,hr.1],gen:=λ_ _=>Ag _,same:=λ_ _ _=>⟨rfl,rfl⟩}
theorem Ih.rel{X:Nat->Prop}(s:Ih X h p w)(hr:SO (cx X h p w) (cx X h Z w) p Z):Ih X h Z w:=by
 have y:=hr.own (h:=h);have M:(cx X h p w).Later (cx X h Z w):=hr.later;have back: ∀{j:Nat} {e:Ec},Z[j]? =some e->e≠ .dead-> ∃N,p[j]? =some N/\N≠ .dead:=by intro j e l ad;rcases hr.2 j e l with a|⟨g,z,C,a,_⟩|⟨a,_⟩;grind;grind;grind
 refine⟨λB n=>⟨(s.out B n).1,λho=>(s.out B n).2 (y B ho)⟩,λj Q C l=>?_,λj L l=>?_,λi j e e' B a c J K O D=>?_,s.bldKeep λj e l n=>?_⟩;rcases hr.2 j _ l with a|⟨g,z,o,a,c,O,D⟩|⟨_,a⟩;cases a;injection c with R S;subst R S;obtain⟨I,W⟩:=s.live j Q z a;refine⟨I,?_⟩;rcases W with⟨k,h0⟩|⟨B,A,T,P,f,k,V,q,H,G,b⟩;refine .inl ⟨k,?_⟩;grind;refine .inr ⟨B,A,T,P,f,k,V,q,by omega,G,λi v' Y=>?_⟩;obtain⟨v,hv,U⟩:=D i v' Y;obtain⟨p1,p2,p3⟩:=b i v hv;exact⟨p1,p2,U _ p3⟩;grind;rcases hr.2 j _ l with a|⟨g,z,o,_,c,_⟩|⟨a,_⟩;cases a;cases c;obtain⟨I,B,r,q1,q2,q3,q4,q5,q6,q7,q8,q9⟩:=s.lp j L a;exact⟨I,B,r,q1,q2,q3,q4,q5,q6,q7,q8,λt v m=>⟨(q9 t v m).1,(q9 t v m).2.later M⟩⟩;obtain⟨d,E,F⟩:=back a J;obtain⟨d',u,x⟩:=back c K;exact s.inj i j _ _ B E u F x O D;refine⟨?_,rfl,rfl,rfl,λ_ _ _ _ _=>rfl⟩;rcases hr.2 j _ l with a|⟨g,z,o,_,c,_⟩|⟨a,_⟩;subst a;cases n;subst c;cases n;exact a
theorem SO.onto(hr:SO (cx X h p w) (cx X h p w) p Z):SO (cx X h p w) (cx X h Z w) p Z:=by have e:(cx X h p w).Later (cx X h Z w):=hr.later;refine⟨hr.1,λj k H=>?_⟩;rcases hr.2 j k H with d|⟨g,f,b,d,l,m,n⟩|d;grind;refine .inr (.inl ⟨g,f,b,d,l,m,λi q o=>?_⟩);obtain⟨v,q1,q2⟩:=n i q o;exact⟨v,q1,λc r=>(q2 c r).later e⟩;grind
def UA{env2:Env}(f:Z.length=p.length)(hr: ∀X h w,Ih X h p w→SO (cx X h p w) (cx X h Z w) p Z∧ ∀t c,(t,c)∈env2→ ∃v,(t,v)∈s∧Conv (cx X h p w) (cx X h Z w) v c):
  Fs N p.length s p env2 Z:=by
 refine⟨by omega,λX h a w H=>?_⟩;obtain⟨q1,q2⟩:=hr X h w H.sim;refine⟨h,⟨H.sim.rel q1,λt c m=>?_,H.size⟩,λ_ _=>⟨rfl,rfl,rfl⟩,q1.own⟩;obtain⟨v,d,e⟩:=q2 t c m;exact⟨(H.env t v d).1,e _ (H.env t v d).2⟩
def SO.ext{X:Nat->Prop}{c:Gh}{H a b:Ap}{d:World}(hr:SO x y H b)(e:G2 c a d h H w):G2 c a d h b w where
 os:=e.os
 tape:=e.tape
 output:=e.output
 size:=e.size
 keep:=e.keep
 n:=by rw[hr.1];exact e.n
 gen:=e.gen
 same:=e.same
 fresh B hB:=e.fresh B (hr.own B hB)
 loops:=e.loops
def Iv.after{N:Nat}{H:Ap}{v f:AV}{H1 b:Ap}(h:Iv P N o s H (Cr v H1))
  (hr: ∀X h w,Ih X h H1 w->SO (cx X h H1 w) (cx X h b w) H1 b/\Conv (cx X h H1 w) (cx X h b w) v f):Iv P N o s H (Cr f b):=by
 intro r X g a w p Q;apply T4 (h r X g a w p Q);rintro n l ⟨c,u,d,m,i,⟨rfl,rfl⟩,j,e,k⟩;obtain⟨q1,q2⟩:=hr X d l e;exact⟨c,_,d,_,i,⟨rfl,rfl⟩,q2 _ j,e.rel q1,SO.ext (X:=X) q1 k⟩
def Iv.before{N:Nat}{env2:Env}{H H2:Ap}{K:AV->Ap->Prop}(b:Fs N H.length s H env2 H2)(h:Iv P N o env2 H2 K):Iv P N o s H K:=by intro r X g a w x Q;obtain⟨f,q,j,l⟩:=b.2 X g a w x;apply T4 (h r X f a w q Q);rintro t u ⟨c,v,e,d,i,k,n,m,p⟩;exact⟨c,v,e,d,i,k,n,m,(Fs.ext rfl b.1 j l (G2.refl g H w)).trans p⟩
def EQ.before{args args2:List AV}{H H2:Ap}{K:AV→Ap→Prop}(hn:args2.length=args.length)
  (hr: ∀X h w,Ih X h H w->SO (cx X h H w) (cx X h H2 w) H H2/\ ∀(j:Nat) (b:AV),args2[j]? =some b-> ∃v,args[j]? =some v/\Conv (cx X h H w) (cx X h H2 w) v b)
  (h:EQ P S args2 H2 K):EQ P S args H K:=by
 intro X g w a s n k;obtain⟨q1,q2⟩:=hr X g w s;refine(h X g w a (s.rel q1) (by omega) λj b c m l=>?_).mono ?_;obtain⟨v,o,d⟩:=q2 j b m;exact d _ (k j v c o l);rintro e t ⟨c,v,i,f,rfl,q,r,p,x⟩;exact⟨c,v,i,f,rfl,q,r,p,(SO.ext (X:=X) q1 (G2.refl g H w)).trans x⟩
def U2(v v':AV):Prop:= ∀(x:Cx) (c:Value),BZ x v c->BZ x v' c
def U2.refl(v:AV):U2 v v:=λ_ _ h=>h
def U2.nil{sz:Nat}(h:0<sz):U2 .nils (.vs sz []):=λ_ _ r=>r.nil_vs h
def DT(cs cs':List AV):Prop:=cs'.length=cs.length/\ ∀(i:Nat) (v':AV),cs'[i]? =some v'-> ∃v,cs[i]? =some v/\U2 v v'
theorem DT.refl(a:List AV):DT a a:=⟨rfl,λ_ v h=>⟨v,h,.refl v⟩⟩
theorem DT.append{b f:List AV}(c:DT i Q)(g:DT b f):DT (i++b) (Q++f):=by refine⟨by simp[c.1,g.1],λa j h=>?_⟩;rcases Ao a Q.length with d|d;rw[B6 d]at h;obtain⟨v,q1,q2⟩:=c.2 a j h;grind;rw[Cb d]at h;obtain⟨v,q1,q2⟩:=g.2 _ j h;exact⟨v,by rw[Cb (by rw[<-c.1];exact d),<-c.1];exact q1,q2⟩
theorem DT.one{b:AV}(h:U2 v b):DT [v] [b]:=⟨rfl,λi u a=>by
 match i,a with
 |0,a=>grind
 |i+1,a=>simp at a⟩
def DT.agg{b a:List AV}(h:DT b a):U2 (.agg b) (.agg a):=by
 intro x c r;cases r with
 |agg i e hr=>refine .agg (by rw[i,h.1]) e λj k d g f=>?_;obtain⟨v,q1,q2⟩:=h.2 j k g;exact q2 _ _ (hr j v d q1 f)
mutual
def Ty.mk:(t:Ty)->List Bc->Option (t.D×List Bc)
 | .bool,.bl b::r=>some (b,r)
 | .int k,.it k' n::r=>if k=k' then some (n,r)else none
 | .str,.st s::r=>some (s,r)
 | .list t,.ls t' l::r=>if h:(Ty.list t').beq (Ty.list t)=true then some (Ty.cast h l,r)else none
 | .list _,.nil::r=>some ([],r)
 | .arr n t,.ar n' t' a::r=>if h:(Ty.arr n' t').beq (Ty.arr n t)=true then some (Ty.cast h a,r)else none
 | .prod ts,ls=>ts.mk ls
 |_,_=>none
def QX.mk:(ts:QX)->List Bc->Option (ts.D×List Bc)
 | .one t,ls=>t.mk ls
 | .cons t ts,ls=>
  match t.mk ls with
  |some (x,r)=>match ts.mk r with|some (y,r')=>some ((x,y),r')|none=>none
  |none=>none
end
mutual
theorem Ty.mk_spec: ∀(t:Ty) (b:List Bc) (x:t.D) (r:List Bc),t.mk b=some (x,r)-> ∃a,b=a++r/\DT (lvs a) (t.enc x).cells
 | .bool,b,x,r,h=>by
  cases b with
  |nil=>simp[Ty.mk]at h
  |cons y b=>
   cases y<;>simp only[Ty.mk]at h<;>try (cases h;done)
   simp only[Ai,Dq]at h;obtain⟨rfl,rfl⟩:=h;exact⟨[_],rfl,DT.refl _⟩
 | .int k,b,x,r,h=>by
  cases b with
  |nil=>simp[Ty.mk]at h
  |cons y b=>
   cases y<;>simp only[Ty.mk]at h<;>try (cases h;done)
   split at h;rename_i f;subst f;simp only[Ai,Dq]at h;obtain⟨rfl,rfl⟩:=h;exact⟨[_],rfl,DT.refl _⟩;cases h
 | .str,b,x,r,h=>by
  cases b with
  |nil=>simp[Ty.mk]at h
  |cons y b=>
   cases y<;>simp only[Ty.mk]at h<;>try (cases h;done)
   simp only[Ai,Dq]at h;obtain⟨rfl,rfl⟩:=h;exact⟨[_],rfl,DT.refl _⟩
 | .list t,b,x,r,h=>by
  cases b with
  |nil=>simp[Ty.mk]at h
  |cons y b=>
   cases y<;>simp only[Ty.mk]at h<;>try (cases h;done)
   split at h;rename_i c;simp only[Ai,Dq]at h;obtain⟨rfl,rfl⟩:=h;refine⟨[_],rfl,?_⟩;have d:((Ty.list t).enc (Ty.cast c ‹_›))=_:=Zc c _;rw[d];exact DT.refl _;cases h;simp only[Ai,Dq]at h;obtain⟨rfl,rfl⟩:=h;exact⟨[_],rfl,DT.one (U2.nil t.sz_pos)⟩
 | .arr n t,b,x,r,h=>by
  cases b with
  |nil=>simp[Ty.mk]at h
  |cons y b=>
   cases y<;>simp only[Ty.mk]at h<;>try (cases h;done)
   split at h;rename_i c;simp only[Ai,Dq]at h;obtain⟨rfl,rfl⟩:=h;refine⟨[_],rfl,?_⟩;have d:((Ty.arr n t).enc (Ty.cast c ‹_›))=_:=Zc c _;rw[d];have e: ∀y:Bc,lvs [y]=y.enc:=λy=>by rw[HJ];simp[lvs]
   rw[e];exact DT.refl _;cases h
 | .prod ts,b,x,r,h=>ts.mk_spec b x r (by simpa only[Ty.mk]using h)
theorem QX.mk_spec: ∀(d:QX) (c:List Bc) (x:d.D) (r:List Bc),d.mk c=some (x,r)-> ∃a,c=a++r/\DT (lvs a) (d.cells x)
 | .one t,c,x,r,h=>t.mk_spec c x r (by simpa only[QX.mk]using h)
 | .cons t d,c,x,r,h=>by simp only[QX.mk]at h;split at h;rename_i y e f;split at h;rename_i z k g;simp only[Ai,Dq]at h;obtain⟨rfl,rfl⟩:=h;obtain⟨a,rfl,i⟩:=t.mk_spec c y e f;obtain⟨b,rfl,j⟩:=d.mk_spec e z k g;exact⟨a++b,by rw[A0],by rw[Gb];exact i.append j⟩;cases h;cases h
end
def Ty.isAgg:Ty->Bool
 | .arr .. =>true
 | .prod _=>true
 |_=>false
def Ty.all(t:Ty)(ls:List Bc):Option t.D:=
 match t.mk ls with
 |some (x,[])=>some x
 |_=>none
theorem Fe{x:t.D}(h:t.all d=some x):DT (Go.Ab.lvs d) (t.enc x).cells:=by unfold Ty.all at h;split at h;rename_i y c;obtain⟨a,rfl,b⟩:=t.mk_spec d y [] c;grind;cases h
def Ty.data(t:Ty)(v:TV):Option t.D:=
 match v with
 | .c x=>match t.isAgg|| !x.scalar with|true=>none|false=>t.all [x]
 | .g cs=>match t.isAgg with|true=>t.all cs|false=>none
 |_=>none
def Ty.scalar_cells(h:t.isAgg=false)(x:t.D):(t.enc x).cells=[t.enc x]:=by cases t<;>first|rfl|cases h
def Ty.agg_enc(h:t.isAgg=true)(x:t.D):t.enc x= .agg (t.enc x).cells:=by cases t<;>first|rfl|cases h
def Lf{v:TV}{x:t.D}(h:t.data v=some x):U2 v.enc (t.enc x):=by unfold Ty.data at h;split at h;rename_i y;split at h;cases h;rename_i a;simp at a;have:=Fe h;rw[t.scalar_cells a.1,HJ,Le a.2]at this;obtain⟨u,b,c⟩:=this.2 0 _ rfl;simp at b;subst b;exact c;rename_i d;split at h;rename_i a;have:=(Fe h).agg;rw[<-t.agg_enc a]at this;exact this;cases h;cases h
def Ty.tv(t:Ty)(x:t.D):TV:=
 match t,x with
 | .bool,b=>.c (.bl b)
 | .int k,n=>.c (.it k n)
 | .str,s=>.c (.st s)
 | .list t,l=>.c (.ls t l)
 | .arr n t,a=>.g [.ar n t a]
 | .prod ts,x=>.g (ts.lvs x)
def Ty.tv_enc(t:Ty)(x:t.D):(t.tv x).enc=t.enc x:=by
 cases t with
 |arr n t=>
  have a: ∀y:Bc,Go.Ab.lvs [y]=y.enc:=λy=>by rw[HJ];simp[Go.Ab.lvs]
  simp only[Ty.tv,TV.enc,a];rfl
 |prod b=>simp only[Ty.tv,TV.enc,b.lvs_cells];rfl
 |_=>rfl
def Ty.tv_ok(t:Ty)(x:t.D):(t.tv x).ok b:=by
 cases t with
 |prod a=>exact a.lvs_ok x
 |_=>exact JU trivial
def Dp.ro:Dp->Bool
 | .dead=>false
 | .live b _=>b
 | .buf b _ _ _ _=>b
 | .lp b _ _ _ _ _ _ _=>b
 | .mp b _ _ _=>b
def Dp.isLp:Dp->Bool
 | .lp .. =>true
 |_=>false
def xm(H H':Am):Prop:= ∀(id:Nat),id<H.length-> ∀ro F n env ps a b s,H'[id]? =some (.lp ro F n env ps a b s)-> ∃ro0 s0,H[id]? =some (.lp ro0 F n env ps a b s0)
def xm.refl(H:Am):xm H H:=λ_ _ _ _ _ _ _ _ _ _ h=>⟨_,_,h⟩
def Dp.lock:Dp->Dp
 | .dead=>.dead
 | .live _ cs=>.live true cs
 | .buf _ t l n ver=>.buf true t l n ver
 | .lp _ F n env ps a b s=>.lp true F n env ps a b s
 | .mp _ k t es=>.mp true k t es
theorem nr(e:Dp):e.lock.enc=e.enc:=by cases e<;>rfl
structure Bx(H H':Am):Prop where
 len:H.length<=H'.length
 refs: ∀id ver t n,Tg H id ver t n->Tg H' id ver t n
 ro: ∀(id:Nat) (e:Dp),H[id]? =some e->e.ro=true->H'[id]? =some e
 nb: ∀id,id<H.length->(∀t l n ver,H[id]? ≠some (.buf false t l n ver))-> ∀t l n ver,H'[id]? ≠some (.buf false t l n ver)
 lp:xm H H'
theorem Bx.refl(H:Am):Bx H H:=⟨Ag _,λ_ _ _ _ h=>h,λ_ _ h _=>h,λ_ _ h=>h,.refl H⟩
def Bx.trans{a b c:Am}(h:Bx a b)(k:Bx b c):Bx a c:=⟨EC h.len k.len,λid d t n q=>k.refs id d t n (h.refs id d t n q),λid e q r=>k.ro id e (h.ro id e q r) r,λid q r=>k.nb id (C9 q h.len) (h.nb id q r),λid q _ _ _ _ _ _ _ _ r=>by obtain⟨g,i,f⟩:=k.lp id (C9 q h.len) _ _ _ _ _ _ _ _ r;exact h.lp id q _ _ _ _ _ _ _ _ f⟩
def Bx.leaf(h:Bx G b)(k:u.ok G):u.ok b:=by
 cases u with
 |own id a t n=>exact h.refs id a t n k
 |_=>trivial
def Bx.lok(h:Bx b G)(k:lok b d):lok G d:=λx c=>h.leaf (k x c)
def Bx.tv(h:Bx b G)(k:e.ok b):e.ok G:=h.lok k
def Bx.ent(h:Bx b G)(k:C.ok b):C.ok G:=by
 cases C with
 |live H d=>exact h.lok k
 |buf H t l n c=>exact k
 |dead=>trivial
 |lp=>exact k
 |mp=>exact k
def Bx.env{H a:Am}(h:Bx H a){env:BQ}(k: ∀p∈env,p.2.ok H): ∀p∈env,p.2.ok a:=λp b=>h.tv (k p b)
theorem Bx.push(H:Am)(e:Dp):Bx H (H++[e]):=by refine⟨by simp,λid g t n h=>⟨by have:=h.1;simp;omega,λro f l d a b=>?_⟩,λid i b hr=>?_,λid c h=>by grind,λid c _ _ _ _ _ _ _ _ h=>by grind⟩;rw[B6 h.1]at b;exact h.2 ro f l d a b;grind
def Bx.set{H:Am}{id:Nat}{r:Dp}(o:H[id]? =some C)(hr:C.ro=false)
  (y: ∀ro t l n k,r= .buf ro t l n k-> ∃d v p f,C= .buf d t v p f/\(f<k\/(f=k/\p=n)))
  (B: ∀ro F n env z a b s,r= .lp ro F n env z a b s-> ∃d w,C= .lp d F n env z a b w:=by intro _ _ _ _ _ _ _ _ h;cases h):Bx H (H.set id r):=by
 have m:id<H.length:=by rcases Ao id H.length with u|u;exact u;rw[Ck u]at o;cases o
 refine⟨by simp,λj k t n h=>⟨by simpa using h.1,λro I l G A g=>?_⟩,λj E g x=>?_,λj g h t l n k i=>?_,λj g _ _ _ _ _ _ _ _ i=>?_⟩;by_cases c:j=id;subst c;rw[Hi m]at g;injection g with g;obtain⟨d,v,p,f,q1,q2⟩:=y _ _ _ _ _ g;subst q1;obtain⟨e,D⟩:=h.2 _ _ _ _ _ o;rcases q2 with q2|⟨rfl,rfl⟩;exact⟨by omega,λC=>by omega⟩;exact⟨e,D⟩;rw[Dt (λC=>c C.symm)]at g;exact h.2 _ _ _ _ _ g;have c:j≠id:=by rintro rfl;rw[o]at g;injection g with g;subst g;rw[hr]at x;cases x
 rw[Dt (λC=>c C.symm)];exact g;by_cases c:j=id;subst c;rw[Hi m]at i;injection i with i;obtain⟨d,v,p,f,q1,_⟩:=y _ _ _ _ _ i;subst q1;have:d=false:=hr;subst this;exact h _ _ _ _ o;rw[Dt (λC=>c C.symm)]at i;exact h _ _ _ _ i;by_cases c:j=id;subst c;rw[Hi m]at i;injection i with i;obtain⟨d,w,q⟩:=B _ _ _ _ _ _ _ _ i;exact⟨d,w,by rw[o,q]⟩;rw[Dt (λC=>c C.symm)]at i;exact⟨_,_,i⟩
theorem Ob{H:Am}(h: ∀x∈H,x.ok H)(b:C.ok (H++[C])): ∀x∈H++[C],x.ok (H++[C]):=by intro x a;rcases At.1 a with a|a;exact(Bx.push H C).ent (h x a);grind
def S5{H:Am}{id:Nat}(d:Bx H (H.set id C))(h: ∀x∈H,x.ok H)(c:C.ok (H.set id C)): ∀x∈H.set id C,x.ok (H.set id C):=by intro x b;rcases Tk b with b|rfl;exact d.ent (h x b);exact c
def Frame(F:List Nat)(H H':Am):Prop:= ∀j,j<H.length->j∉F->H'[j]? =H[j]?
def Frame.refl(F:List Nat)(H:Am):Frame F H H:=λ_ _ _=>rfl
def Frame.push(F:List Nat)(H:Am)(e:Dp):Frame F H (H++[e]):=λ_ a _=>B6 a
theorem Frame.set{F:List Nat}{H:Am}{id:Nat}(h:id∈F):Frame F H (H.set id C):=λj _ hn=>Dt λq:id=j=>hn (by grind)
def idT:TV->List Nat
 | .c (.raw a)=>ke a
 | .c (.own id _ _ _)=>[id]
 | .aptr id .. =>[id]
 | .bptr id .. =>[id]
 |_=>[]
theorem AA1(v:TV):ke v.enc=idT v:=by
 cases v with
 |c x=>
  cases x with
  |_=>rfl
 |_=>rfl
def Ps(H:Am)(e:Dp):A7 (H++[e])=A7 H++[e.enc]:=by simp[A7]
theorem M9(H:Am)(id:Nat)(e:Dp):A7 (H.set id e)=(A7 H).set id e.enc:=by simp[A7]
theorem CO(H:Am):(A7 H).length=H.length:=Da _
section
variable {R:Type}
def storeT(P:Program)(H:Am)(t:TypeId)(p v:TV)(k:TV->Am->Option R):Option R:=
 match v.words,tI P t with
 |some ws,some (_,n)=>
  match Nat.beq (z7 ws) n with
  |false=>none
  |true=>
   match p with
   | .c (.raw (.ptr id 0 off))=>
    match H[id]? with
    |some (.live false cs)=>match xa cs off ws n with|some cs'=>k RE (H.set id (.live false cs'))|none=>none
    |_=>none
   | .aptr id base m te i off=>
    match H[id]? with
    |some (.live false cs)=>
     match Uu cs base with
     |some (pre,.ar m' te' a::post)=>
      if h:(Ty.arr m' te').beq (Ty.arr m te)=true then
       (GX (n:=m+1) (Ty.cast h a) i).bind λe=>
        match xa (te.lvs e) off ws n with
        |some ls=>match te.all ls with|some e'=>k RE (H.set id (.live false (pre++(.ar m te (U3 (n:=m+1) (Ty.cast h a) i e')::post))))|none=>none
        |none=>none
      else none
     |_=>none
    |_=>none
   | .bptr id ver te _ i off=>
    match H[id]? with
    |some (.buf false te' l n' ver')=>
     match Nat.beq ver ver' with
     |true=>
      if h:(Ty.list te').beq (Ty.list te)=true then
       (ix (α:=te.D) (Ty.cast h l) i).bind λe=>
        match xa (te.lvs e) off ws n with
        |some ls=>match te.all ls with|some e'=>k RE (H.set id (.buf false te (BU (α:=te.D) (Ty.cast h l) i e') n' ver'))|none=>none
        |none=>none
      else none
     |false=>none
    |_=>none
   |_=>none
 |_,_=>none
theorem td{b d:List AV}(h:N+d.length<=Q.length):UY (i++Q++b) (i.length+N) d=i++UY Q N d++b:=by
 unfold UY;have e:(i++Q++b).take (i.length+N)=i++Q.take N:=by rw[A0,gb,Bs (by omega),Vn,aI (by omega)]
 have f:(i++Q++b).drop (i.length+N+d.length)=Q.drop (N+d.length)++b:=by grind[List.drop_drop,List.drop_left]
 grind
theorem SO.set_less{H m n:Ap}{f cs':List AV}(k:N<H.length)(s:m=H.set N (.live U f))(t:n=H.set N (.live U cs'))(o:DT f cs')(d:x.Later y):SO x y m n:=by
 subst s t;refine⟨by simp,λj p a=>?_⟩;by_cases b:j=N;subst b;rw[Hi k]at a;injection a with a;subst a;refine .inr (.inl ⟨U,f,cs',by grind,rfl,o.1,λi l h=>?_⟩);obtain⟨v,q1,q2⟩:=o.2 i l h;exact⟨v,q1,λc r=>q2 _ _ (r.later d)⟩;rw[Dt (λe=>b e.symm)]at a;cases p with
 |live q c0=>exact .inr (.inl ⟨q,c0,c0,by grind,rfl,rfl,λi l h=>⟨l,h,λc r=>r.later d⟩⟩)
 |_=>grind
theorem bq(l:Z.length=p.length)(i: ∀(j:Nat) (e:Ec),Z[j]? =some e->e≠ .dead-> ∃a,p[j]? =some a/\a≠ .dead):(cx X h p w).Later (cx X h Z w):={size:=Ag _,keep:=λ_ _ _ _=>rfl,gen:=λ_ _=>Ag _,same:=λ_ _ _=>⟨rfl,rfl⟩,n:=by simp[cx,l],own:=λB _ m=>m.imp _root_.id (λ⟨j,e,k,d,c⟩=>by obtain⟨a,f,g⟩:=i j e k d;exact⟨j,a,f,g,c⟩)}
theorem Iv.set_less{N:Nat}{b cs':List AV}(d:n<p.length)(h:Iv P N o s p (Cr v (p.set n (.live U b))))(f:DT b cs'):Iv P N o s p (Cr v (p.set n (.live U cs'))):=by
 refine Iv.after h λX e w _=>?_;have a:(cx X e (p.set n (.live U b)) w).Later (cx X e (p.set n (.live U cs')) w):=by grind[bq]
 exact⟨SO.set_less d rfl rfl f a,λc r=>r.later a⟩
theorem Gp{l:List R}{x:R}(h:l[N]? =some x):N<l.length:=by grind
variable {P:Program} {N:Nat} {o:Oper} {env:BQ} {H:Am} {k:TV->Am->Option R} {r:R}
def jl(P:Program)(N:Nat)(o:Oper)(env:BQ)(H:Am)(F:List Nat)(k:TV->Am->Option R)(r:R):Prop:=
 ∃v H',Iv P N o (Bw env) (A7 H) (Cr v.enc (A7 H'))/\k v H'=some r/\v.ok H'/\(∀e∈H',e.ok H')/\Bx H H'/\Frame F H H'
theorem rT(ok:Oc env H)(ho:o.op= .store a c L)(h:storeT P H a (Ib env c) (Ib env L) k=some r):jl P N o env H (idT (Ib env c)) k r:=by
 have W:=JD env;have a1:(Ib env L).ok H:=YD ok.env L;have ao:(Ib env c).ok H:=YD ok.env c;unfold storeT at h;split at h;rename_i ws b n hw ht;obtain⟨w1,Z,w3⟩:=Wb hw;split at h;cases h;rename_i hn;have f:(lvs ws).length=n:=by grind[aC,Nat.eq_of_beq_eq_true]
 have S:tI P a=some (b,(Ib env L).enc.cells.length):=by grind
 split at h;rename_i id d G;split at h;rename_i cs u;split at h;rename_i M hs;obtain⟨s1,s2,s3⟩:=fi hs f;have C:(A7 H)[id]? =some (.live 0 (lvs cs)):=by rw[FF,u];rfl
 have j:Bx H (H.set id (.live false M)):=Bx.set u rfl λ_ _ _ _ _ h=>by cases h
 refine⟨RE,_,Iv.store ho (id:=id) (g:=0) (off:=d) (v:=(Ib env L).enc) (by rw[W,G];rfl) (W L) w1 C S (by rw[Z,f];exact s2) ⟨rfl,?_⟩,h,cH,S5 j ok.heap (j.lok (s3 H (ok.heap _ (BL u)) (w3 H a1))),j,Frame.set (by rw[G];exact BE.2 rfl)⟩;rw[M9,Z,<-s1];rfl;cases h;cases h;rename_i id A m te i d G;split at h;rename_i cs u;split at h;rename_i w X x t p hs;split at h;rename_i hb;have U:=Ty.beq_eq _ _ hb;injection U with hm T;subst hm T;obtain⟨e,hg,h⟩:=Dv.1 h;split at h;rename_i ls R;split at h;rename_i O B;obtain⟨ad,J⟩:=Nq hs;obtain⟨s1,s2,_⟩:=fi R f;have s:=Fe B;have q:(Ty.cast hb t:JR (X+1) x.D)=t:=rfl;rw[q]at hg h;obtain⟨h0,I,rfl,rfl⟩:=jp hg;obtain⟨y,c2,q1,q2,q3⟩:=ms x.E t I;have C:(A7 H)[id]? =some (.live 0 (lvs w++y++(x.enc (t I)).cells++(c2++lvs p))):=by rw[FF,u,ad];show some (Ec.live 0 (lvs (w++(.ar X x t::p))))=_;rw[Gb,HJ,Yx,q1];simp only[A0];rfl
 have j:Bx H (H.set id (.live false (w++(.ar X x (U3 (n:=X+1) t (I.val:Int) O)::p)))):=Bx.set u rfl λ_ _ _ _ _ h=>by cases h
 have al:lok H cs:=ok.heap _ (BL u);rw[ad]at al;obtain⟨o1,o2⟩:=Ig.1 al;refine⟨RE,_,?_,h,cH,S5 j ok.heap (j.lok (Ig.2 ⟨o1,λz hz=>?_⟩)),j,Frame.set (by rw[G];exact BE.2 rfl)⟩;have F:d+(lvs ws).length<=(x.enc (t I)).cells.length:=by rw[f,<-x.lvs_enc];exact s2
 have st:=Iv.store (P:=P) (N:=N) (K:=Cr .any ((A7 H).set id (.live 0 (UY (lvs w++y++(x.enc (t I)).cells++(c2++lvs p)) (A+(I.val:Int).toNat*x.sz+d) (Ib env L).enc.cells)))) ho (id:=id) (g:=0)
  (off:=A+(I.val:Int).toNat*x.sz+d) (v:=(Ib env L).enc) (by rw[W,G];rfl) (W L) w1 C S (by rw[Z,f];simp only[Af,q2,J];have:x.E.sz=x.sz:=rfl;rw[f]at F;simp only[Df,this];omega) ⟨rfl,rfl⟩
 have ea:A+(I.val:Int).toNat*x.sz+d=(lvs w++y).length+d:=by rw[Af,J,q2,Df];rfl
 rw[Z,ea,td F]at st;have Q:=Iv.set_less (cs':=lvs (w++(.ar X x (U3 (n:=X+1) t (I.val:Int) O)::p))) (by rw[CO];exact Gp u) st (by rw[Gb,HJ,Yx,q3 O];simp only[A0];refine(DT.refl _).append ((DT.refl _).append (DT.append ?_ (DT.refl _)));rw[<-x.lvs_enc,<-s1];exact s);rw[M9];exact Q;rcases A1.1 hz with rfl|hz;trivial;exact o2 z (by simp[hz]);cases h;cases h;cases h;cases h;cases h;rename_i id V te nn i d G;split at h;rename_i x l Y a2 u;split at h;rename_i hv;have a0:=C8 hv;subst a0;split at h;rename_i hb;have U:=Ty.beq_eq _ _ hb;injection U with T;subst T;obtain⟨e,hg,h⟩:=Dv.1 h;split at h;rename_i ls R;split at h;rename_i O B;obtain⟨s1,s2,_⟩:=fi R f;have s:=Fe B;have q:(Ty.cast hb l:List x.D)=l:=rfl;rw[q]at hg h;obtain⟨y,c2,q1,q2,q3,q4,_,q5⟩:=nC x.E hg;have hr:Tg H id V x nn:=by rw[G]at ao;exact ao (.own id V x nn) (by simp[TV.refs])
 obtain⟨_,ax⟩:=hr.2 _ _ _ _ _ u;obtain⟨_,rfl⟩:=ax rfl;have ap:Y=l.length:=ok.heap _ (BL u);have C:(A7 H)[id]? =some (.live Y (y++(x.enc e).cells++c2)):=by rw[FF,u];show some (Ec.live Y (x.E.cl l))=_;rw[q1];rfl
 have j:Bx H (H.set id (.buf false x (BU l i O) Y V)):=Bx.set u rfl λ_ _ _ _ _ h=>by cases h;exact⟨_,_,_,_,rfl,.inr ⟨rfl,rfl⟩⟩
 refine⟨RE,_,?_,h,cH,S5 j ok.heap ((zC ap.symm).symm),j,Frame.set (by rw[G];exact BE.2 rfl)⟩;have F:d+(lvs ws).length<=(x.enc e).cells.length:=by rw[f,<-x.lvs_enc];exact s2
 have st:=Iv.store (P:=P) (N:=N) (K:=Cr .any ((A7 H).set id (.live Y (UY (y++(x.enc e).cells++c2) (i.toNat*x.sz+d) (Ib env L).enc.cells)))) ho (id:=id) (g:=Y)
  (off:=i.toNat*x.sz+d) (v:=(Ib env L).enc) (by rw[W,G];rfl) (W L) w1 C S (by rw[Z,f];simp only[Af,q2];have:x.E.sz=x.sz:=rfl;rw[f]at F;rw[this];omega) ⟨rfl,rfl⟩
 have ea:i.toNat*x.sz+d=y.length+d:=by rw[q2];rfl
 rw[Z,ea,td F]at st;have Q:=Iv.set_less (cs':=x.E.cl (BU l i O)) (by rw[CO];exact Gp u) st (by unfold BU;rw[q5 O];refine DT.append (DT.append (DT.refl _) ?_) (DT.refl _);rw[<-x.lvs_enc,<-s1];exact s);rw[M9];exact Q;cases h;cases h;cases h;cases h;cases h;cases h;cases h
end
section
variable {R:Type}
def uH(P:Program)(H:Am)(t:TypeId)(k:TV->Am->Option R):Option R:=
 match oY P t with
 |some z=>k (.c (.raw (.ptr H.length 0 0))) (H++[.live false z])
 |none=>none
def AAT(H:Am)(v:TV)(k:TV->Am->Option R):Option R:=
 match v.words with
 |some ws=>k (.c (.raw (.ptr H.length 0 0))) (H++[.live false ws])
 |none=>none
def gO(t:Ty):List TV->Option (List t.D)
 |[]=>some []
 |v::r=>match t.data v,gO t r with|some x,some xs=>some (x::xs)|_,_=>none
def elT(P:Program)(t:TypeId):Option Ty:=
 match eI P t with
 |some (none,e,sz)=>
  match vN P 1000 e with
  |some te=>if sz=te.sz/\QV P e=true then some te else none
  |none=>none
 |_=>none
def cA(len:Nat)(te:Ty)(parts:Array (Nat×Operand))(vs:List TV):Bool:=
 decide (parts.toList.map (·.1)=List.range len)&&(vs.all λv=>match v.words with|some ws=>Nat.beq (z7 ws) te.sz|none=>false)&&Nat.ble len 4096&&Nat.ble te.sz 4096
def XK(P:Program)(env:BQ)(H:Am)(t:TypeId)(len:Nat)(parts:Array (Nat×Operand))(k:TV->Am->Option R):Option R:=
 match elT P t with
 |some te=>
  match cA len te parts (parts.toList.map λp=>Ib env p.2)with
  |true=>match gO te (parts.toList.map λp=>Ib env p.2)with|some xs=>k (.c (.own H.length 0 te xs.length)) (H++[.buf false te xs xs.length 0])|none=>none
  |false=>none
 |none=>none
def lK(P:Program)(env:BQ)(t:TypeId)(len:Nat)(parts:Array (Nat×Operand))(k:TV->Option R):Option R:=
 match elT P t with
 |some te=>
  match cA len te parts (parts.toList.map λp=>Ib env p.2)with
  |true=>match gO te (parts.toList.map λp=>Ib env p.2)with|some xs=>k (.c (.ls te xs))|none=>none
  |false=>none
 |none=>none
def bv(P:Program)(H:Am)(t:TypeId)(x y:TV)(k:TV->Am->Option R):Option R:=
 match eI P t,x,y with
 |some (none,e,_),.c (.it _ l),.c (.it _ c)=>
  match elT P t,oY P e with
  |some te,some z=>match te.all z with|some zd=>(mk zd l c).bind λr=>k (.c (.own H.length 0 te r.length)) (H++[.buf false te r r.length 0])|none=>none
  |_,_=>none
 |_,_,_=>none
def oV(P:Program)(H:Am)(src dst:TypeId)(x:TV)(k:TV->Am->Option R):Option R:=
 match P.underlying src,P.underlying dst,x with
 |some _,some (.slice e),.c (.st s)=>
  match P.underlying e with
  |some (.int .u8)=>k (.c (.own H.length 0 (.int .u8) (RO s).length)) (H++[.buf false (.int .u8) (RO s) (RO s).length 0])
  |_=>none
 |_,_,_=>none
def zf(H:Am)(te:Ty)(v:TV):Option (List te.D):=
 match v with
 | .c (.ls te' l)=>if h:(Ty.list te').beq (Ty.list te)=true then some (Ty.cast h l)else none
 | .c (.own id ver te' _)=>if h:(Ty.list te').beq (Ty.list te)=true then(match dP H id ver te' with|some l=>some (Ty.cast (t:=.list te') (t':=.list te) h l)|none=>none)else none
 | .c .nil=>some []
 |_=>none
def mJ(P:Program)(H:Am)(t:TypeId)(s x:TV)(k:TV->Am->Option R):Option R:=
 match elT P t with
 |some te=>
  match zf H te x with
  |some xs=>
   match s with
   | .c .nil=>(app [] xs).bind λr=>k (.c (.own H.length 0 te r.length)) (H++[.buf false te r r.length 0])
   | .c (.own id ver te' _)=>
    match H[id]? with
    |some (.buf false t2 l _ ver')=>
     match Nat.beq ver ver' with
     |true=>
      if h:(Ty.list t2).beq (Ty.list te)=true/\(Ty.list te').beq (Ty.list te)=true then
       (app (α:=te.D) (Ty.cast h.1 l) xs).bind λr=>k (.c (.own id (ver+1) te r.length)) (H.set id (.buf false te r r.length (ver+1)))
      else none
     |false=>none
    |_=>none
   |_=>none
  |none=>none
 |none=>none
variable {P:Program} {N:Nat} {o:Oper} {env:BQ} {H:Am} {k:TV->Am->Option R} {r:R}
theorem nz{H:Am}{l:List t.D}:(TV.c (.own H.length N t l.length)).ok (H++[.buf D t l l.length N]):=by refine JU ⟨by simp,λd h f g b e=>?_⟩;grind
def mR(H:Am)(b:Ty)(n a:Nat):(TV.c (.own H.length a b n)).enc= .sl (A7 H).length n b.sz 0 n:=by rw[CO];rfl
def qP(ok:Oc env H)(b:o.op= .alloc a)(h:uH P H a k=some r):jl P N o env H [] k r:=by
 unfold uH at h;split at h;rename_i z d;obtain⟨e,f⟩:=We d;refine⟨_,_,?_,h,JU trivial,Ob ok.heap (f _),Bx.push _ _,Frame.push _ _ _⟩;have t:(TV.c (.raw (.ptr H.length 0 0))).enc= .ptr (A7 H).length 0 0:=by rw[CO];rfl
 rw[t,Ps];exact Iv.alloc b e ⟨rfl,rfl⟩;cases h
def uM(ok:Oc env H)(b:o.op= .box a c)(h:AAT H (Ib env c) k=some r):jl P N o env H [] k r:=by
 unfold AAT at h;split at h;rename_i i d;obtain⟨e,f,g⟩:=Wb d;refine⟨_,_,?_,h,JU trivial,Ob ok.heap ((Bx.push _ _).lok (g H (YD ok.env c))),Bx.push _ _,Frame.push _ _ _⟩;have t:(TV.c (.raw (.ptr H.length 0 0))).enc= .ptr (A7 H).length 0 0:=by rw[CO];rfl
 rw[t,Ps];exact Iv.box b (JD env c) e ⟨rfl,by rw[f];rfl⟩;cases h
def gx{t:Ty}: ∀{b:List TV} {a:List t.D},gO t b=some a->DT (b.map TV.enc) (a.map t.enc)
 |[],a,h=>by simp only[gO,Ai]at h;subst h;exact DT.refl _
 |v::r,a,h=>by simp only[gO]at h;split at h;rename_i x e c d;injection h with h;subst h;have:=gx d;exact(DT.one (Lf c)).append this;cases h
def dg{t:Ty}: ∀{e:List TV} {b:List t.D},gO t e=some b->DT ((e.map TV.enc).flatMap AV.cells) (t.E.cl b)
 |[],b,h=>by simp only[gO,Ai]at h;subst h;exact DT.refl _
 |v::r,b,h=>by simp only[gO]at h;split at h;rename_i x k a g;injection h with h;subst h;have i:=dg g;refine DT.append ?_ i;unfold Ty.data at a;split at a;rename_i y;split at a;cases a;rename_i d;simp at d;have c:=Fe a;rw[HJ,Le d.2,<-Bc.scalar_cells d.2]at c;have f:lvs ([]:List Bc)=[]:=rfl;rw[f,D8]at c;exact c;rename_i j;split at a;exact Fe a;cases a;cases a;cases h
theorem dh(h:elT P a=some t): ∃e,eI P a=some (none,e,t.sz)/\QV P e=true:=by grind[elT]
theorem oF(h:elT P a=some t)(c:cA N t E (E.toList.map λp=>Ib env p.2)=true):
  RF P (Bw env) a N E=some (t.sz,(E.toList.map λp=>Ib env p.2).map TV.enc):=by
 obtain⟨e,k,l⟩:=dh h;unfold cA at c;simp only[BN,decide_eq_true_eq]at c;obtain⟨⟨⟨f,g⟩,i⟩,j⟩:=c;have d:(E.toList.map λp=>BC (Bw env) p.2)=(E.toList.map λp=>Ib env p.2).map TV.enc:=by grind[List.map_congr_left,JD]
 unfold RF;simp only[k,d];refine if_pos ⟨t.sz_pos,l,f,?_,KK i,KK j⟩;rw[Ft];intro v n;obtain⟨u,m,rfl⟩:=Br.1 n;have:=Ft.1 g u m;split at this<;>simp_all[Wb,aC]
theorem ww{b:List t.D}(h:gO t m=some b):b.length=m.length:=by have:=(gx h).1;grind
theorem SO.push_less{H:Ap}(n:DT i Q)(d:x.Later y):SO x y (H++[.live N i]) (H++[.live N Q]):=by
 refine⟨by simp,λj o e=>?_⟩;rcases Ao j H.length with b|b;rw[B6 b]at e;cases o with
 |live p c0=>exact .inr (.inl ⟨p,c0,c0,by grind,rfl,rfl,λg m h=>⟨m,h,λc r=>r.later d⟩⟩)
 |_=>grind
 have k:=Gp e;simp at k;have l:j=H.length:=by omega
 subst l;simp at e;subst e;refine .inr (.inl ⟨N,i,Q,by simp,rfl,n.1,λg m h=>?_⟩);obtain⟨v,q1,q2⟩:=n.2 g m h;exact⟨v,q1,λc r=>q2 _ _ (r.later d)⟩
theorem Iv.push_less(h:Iv P N o s p (Cr v (p++[.live n i])))(E:DT i Q):Iv P N o s p (Cr v (p++[.live n Q])):=by
 refine Iv.after h λX f w _=>?_;have b:(cx X f (p++[.live n i]) w).Later (cx X f (p++[.live n Q]) w):=by refine bq (by simp) λj e l k=>?_;grind
 exact⟨SO.push_less E b,λc r=>r.later b⟩
def iW(ok:Oc env H)(f:o.op= .buildSlice a n E)(h:XK P env H a n E k=some r):jl P N o env H [] k r:=by unfold XK at h;split at h;rename_i i d;split at h;rename_i g;split at h;rename_i j c;have e:=oF d g;have b:=ww c;refine⟨_,_,?_,h,nz,Ob ok.heap rfl,Bx.push _ _,Frame.push _ _ _⟩;rw[mR,Ps];have:=Rx (N:=N) (H:=A7 H) (K:=Cr _ _) f e ⟨rfl,rfl⟩;rw[Da,<-b]at this;exact Iv.push_less this (dg c);cases h;cases h;cases h
theorem ABn{a:Ty}{vs:List AV}{l:List a.D}(h:DT vs (l.map a.enc))(I:DT (vs.flatMap AV.cells) (a.E.cl l))(z: ∀v∈vs,v.cells.length=a.sz):U2 (.vs a.sz vs) (.vs a.sz (l.map a.enc)):=by
 intro x c L;cases L with
 |vs f t o w C p=>
  have hn:(l.map a.enc).length=vs.length:=h.1;rw[<-hn];have key: ∀(j:Nat) (e:AV) (i:Nat) (v:AV),(l.map a.enc)[j]? =some e->e.cells[i]? =some v-> ∃b k,vs[j]? =some b/\b.cells[i]? =some k/\U2 k v:=by
   intro j e i v d m;obtain⟨b,q1,_⟩:=h.2 j e d;have g: ∀u∈l.map a.enc,u.cells.length=a.sz:=λu J=>by obtain⟨y,_,rfl⟩:=Br.1 J;exact a.enc_len y
   have A:=jB g j e i v d m;obtain⟨k,r,s⟩:=I.2 _ v A;have H:i<a.sz:=by grind
   have F:=z b (BL q1);have G:b.cells[i]? =some (b.cells[i]'(by omega)):=Aw (by omega);have M:=jB z j b i _ q1 G;grind
  refine BZ.vs f (by grind) o (λj e d=>?_) (λn=>?_) λj e i v d m=>?_;obtain⟨y,_,rfl⟩:=Br.1 (BL d);exact a.enc_len y;obtain⟨B,q,q1,q2,q3,q4⟩:=C (λe=>n (EU (by grind)));refine⟨B,q,q1,q2,q3,λj e i v d m=>?_⟩;obtain⟨b,k,r,s,_⟩:=key j e i v d m;grind;obtain⟨b,k,r,s,K⟩:=key j e i v d m;exact K _ _ (p j b i k r s)
def kj(ok:Oc env H)(s:o.op= .makeSlice a c L)(h:bv P H a (Ib env c) (Ib env L) k=some r):jl P N o env H [] k r:=by
 have i:=JD env;unfold bv at h;split at h;rename_i e sz Q l O x j v w;split at h;rename_i b z d A;split at h;rename_i y f;obtain⟨I,q,h⟩:=Dv.1 h;obtain⟨M,m,u⟩:=dh d;rw[j]at m;obtain⟨rfl,rfl⟩:=m;obtain⟨J,R⟩:=We A;have t:=Fe f;obtain⟨⟨C,D,F⟩,p,G⟩:=AEe b.E y q;refine⟨_,_,?_,h,nz,Ob ok.heap rfl,Bx.push _ _,Frame.push _ _ _⟩;rw[mR,Ps];have g:(lvs z).length=b.sz:=by rw[<-t.1,b.enc_len]
 have:=Iv.makeSlice (N:=N) (H:=A7 H) (K:=Cr _ _) s j b.sz_pos u J g (by rw[i,v];rfl) (by rw[i,w];rfl) C D F ⟨rfl,rfl⟩;rw[p]at this;apply Iv.push_less this;rw[<-G,p];induction I.length with
 |zero=>exact DT.refl _
 |succ n B=>exact DT.append t B
 cases h;cases h;cases h
def oW(ok:Oc env H)(j:o.op= .convert I a c)(h:oV P H I a (Ib env c) k=some r):jl P N o env H [] k r:=by have f:=JD env;unfold oV at h;split at h;rename_i u e s l g m;split at h;rename_i i;refine⟨_,_,?_,h,nz,Ob ok.heap rfl,Bx.push _ _,Frame.push _ _ _⟩;rw[mR,Ps];obtain⟨b,d⟩:=ADu s;have:=kR (N:=N) (H:=A7 H) (K:=Cr _ _) j l g i (by rw[f,m];rfl) ⟨rfl,rfl⟩;rw[d,b]at this;exact this;cases h;cases h
theorem vE{f:List t.D}(k: ∀d∈H,d.ok H)(p:e.ok H)(h:zf H t e=some f):My (A7 H) t.sz e.enc=some (f.length,t.E.cl f):=by unfold zf at h;split at h;rename_i a l;split at h;rename_i g;have c:=Ty.beq_eq _ _ g;injection c with b;subst b;injection h with h;have j:=h;subst j;simp only[TV.enc,Bc.one,My,Da];rfl;cases h;rename_i id i a n;split at h;rename_i g;have c:=Ty.beq_eq _ _ g;injection c with b;subst b;split at h;rename_i l m;injection h with h;have j:l=f:=h;obtain⟨q,r⟩:=iV k (p (.own id i a n) (by simp[TV.refs])) m;have s:=a.E.clen l;have o:a.E.sz=a.sz:=rfl;grind[TV.enc,Bc.one,My];cases h;cases h;injection h with h;subst h;rfl;cases h
theorem od(ok:Oc env H)(R:o.op= .call {callee:=.builtin .append,args:= #[c,L],argTypes:= #[a,I]})(Y:a=I)(h:mJ P H a (Ib env c) (Ib env L) k=some r):jl P N o env H (idT (Ib env c)) k r:=by
 subst Y;have x:=JD env;unfold mJ at h;split at h;rename_i te C;obtain⟨e,Q,S⟩:=dh C;split at h;rename_i w v;have t:=vE ok.heap (YD ok.env L) v;rw[<-x]at t;split at h;rename_i b;obtain⟨l,u,X⟩:=Dv.1 h;obtain⟨W,j⟩:=iS u;rw[Cy]at j;subst j;refine⟨_,_,?_,X,nz,Ob ok.heap rfl,Bx.push _ _,Frame.push _ _ _⟩;rw[mR,Ps];have:=Za (N:=N) (H:=A7 H) (K:=Cr _ _) R Q te.sz_pos S (by rw[x,b];rfl) t (by grind) ⟨rfl,rfl⟩;exact this;rename_i id g al n b;split at h;rename_i d l J T M;split at h;rename_i Z;have G:=C8 Z;subst G;split at h;rename_i y;have F:=Ty.beq_eq _ _ y.1;injection F with p;have s:=Ty.beq_eq _ _ y.2;injection s with q;subst q;subst p;obtain⟨l2,u,h⟩:=Dv.1 h;have f:(Ty.cast y.1 l:List d.D)=l:=rfl;rw[f]at u;obtain⟨W,rfl⟩:=iS u;have hr:Tg H id g d n:=by have:=YD ok.env c;rw[b]at this;exact this (.own id g d n) (by simp[TV.refs])
 obtain⟨_,A⟩:=hr.2 _ _ _ _ _ M;obtain⟨_,rfl⟩:=A rfl;have z:J=l.length:=ok.heap _ (BL M);have i:(A7 H)[id]? =some (.live J (d.E.cl l)):=by rw[FF,M];rfl
 have m:Bx H (H.set id (.buf false d (l++w) (l++w).length (g+1))):=Bx.set M rfl λ_ _ _ _ _ h=>by cases h;exact⟨_,_,_,_,rfl,.inl (Nat.lt_succ_self _)⟩
 refine⟨_,_,?_,h,JU ⟨by grind,λad I l' n2 U hg=>?_⟩,S5 m ok.heap rfl,m,Frame.set (by rw[b];exact BE.2 rfl)⟩;have O:=d.E.clen l;have B:d.E.sz=d.sz:=rfl;rw[B]at O;have:=QU (N:=N) (H:=A7 H) (g':=J+w.length) (K:=Cr _ _) R Q d.sz_pos S (by rw[x,b];rfl) i (by rw[O,z]) t (by grind) (by rcases RS w.length with V|V;grind;exact .inl (by omega)) ⟨rfl,rfl⟩;grind[M9,List.length_append,S9.cl,TV.enc,Bc.one,Dp.enc];grind;cases h;cases h;cases h;cases h;cases h;cases h
end
def Mp(id ver:Nat)(t:Ty)(l:List t.D):Bc->Bc
 | .own id' ver' t' n=>match Nat.beq id id'&&Nat.beq ver ver' with|true=>.ls t l|false=>.own id' ver' t' n
 |x=>x
mutual
def jG(id ver:Nat)(t:Ty)(l:List t.D):TV->TV
 | .c x=>.c (Mp id ver t l x)
 | .g cs=>.g (cs.map (Mp id ver t l))
 | .tup vs=>.tup (bK id ver t l vs)
 | .aptr a b n te i o=>.aptr a b n te i o
 | .bptr a v te n i o=>.bptr a v te n i o
 | .vptr cs post=>.vptr cs post
def bK(id ver:Nat)(t:Ty)(l:List t.D):List TV->List TV
 |[]=>[]
 |v::r=>jG id ver t l v::bK id ver t l r
end
def PP(id ver:Nat)(t:Ty)(l:List t.D):Dp->Dp
 | .live false cs=>.live false (cs.map (Mp id ver t l))
 |e=>e
def frz(id:Nat)(env:BQ)(H:Am):Option (BQ×Am):=
 match H[id]? with
 |some (.buf false t l _ ver)=>some (env.map λp=>(p.1,jG id ver t l p.2),(H.map (PP id ver t l)).set id .dead)
 |_=>none
def Rg(x y:Cx)(a b:List AV):Prop:=b.length=a.length/\ ∀(i:Nat) (v':AV),b[i]? =some v'-> ∃v,a[i]? =some v/\Conv x y v v'
theorem Rg.append{b f:List AV}(c:Rg x y i Q)(g:Rg x y b f):Rg x y (i++b) (Q++f):=by refine⟨by simp[c.1,g.1],λa j h=>?_⟩;rcases Ao a Q.length with d|d;rw[B6 d]at h;obtain⟨v,q1,q2⟩:=c.2 a j h;grind;rw[Cb d]at h;obtain⟨v,q1,q2⟩:=g.2 _ j h;exact⟨v,by rw[Cb (by rw[<-c.1];exact d),<-c.1];exact q1,q2⟩
def Rg.later{x y:Cx}(l:x.Later y)(a:List AV):Rg x y a a:=⟨rfl,λ_ v h=>⟨v,h,λ_ r=>r.later l⟩⟩
theorem Rg.one{b:AV}(h:Conv x y v b):Rg x y [v] [b]:=⟨rfl,λi u a=>by
 match i,a with
 |0,a=>grind
 |i+1,a=>simp at a⟩
def Rg.agg{x y:Cx}{b a:List AV}(h:Rg x y b a):Conv x y (.agg b) (.agg a):=by
 intro c r;cases r with
 |agg i e hr=>refine .agg (by rw[i,h.1]) e λj k d g f=>?_;obtain⟨v,q1,q2⟩:=h.2 j k g;exact q2 _ (hr j v d q1 f)
def Rg.tup{x y:Cx}{b a:List AV}(h:Rg x y b a):Conv x y (.tup b) (.tup a):=by
 intro c r;cases r with
 |tup g hr=>refine .tup (by rw[g,h.1]) λj i d f e=>?_;obtain⟨v,q1,q2⟩:=h.2 j i f;exact q2 _ (hr j v d q1 e)
section
variable {x y:Cx} {H:Am} {id n ver:Nat} {t:Ty} {l:List t.D} (lat:x.Later y) (hid:H[id]? =some (.buf false t l n ver)) (hc:Conv x y (.sl id n t.sz 0 n) (.vs t.sz (l.map t.enc)))
include lat hid hc
theorem jE(e:u.ok H):Rg x y u.enc (Mp id ver t l u).enc/\Conv x y u.one (Mp id ver t l u).one:=by
 have same: ∀w:Bc,Rg x y w.enc w.enc/\Conv x y w.one w.one:=λw=>⟨.later lat _,λ_ r=>r.later lat⟩
 cases u with
 |own f b h g=>simp only[Mp];split;rename_i a;simp only[BN]at a;have c:=C8 a.1;have d:=C8 a.2;subst c d;obtain⟨_,q⟩:=e.2 _ _ _ _ _ hid;obtain⟨rfl,rfl⟩:=q rfl;exact⟨.one hc,hc⟩;grind
 |_=>exact same _
def kU: ∀{a:List Bc},lok H a->Rg x y (lvs a) (lvs (a.map (Mp id ver t l)))
 |[],_=>.later lat _
 |z::r,h=>by rw[Be,HJ,HJ];exact(jE lat hid hc (h z (by simp))).1.append (kU λw b=>h w (by simp[b]))
mutual
theorem nR: ∀{v:TV},v.ok H->Conv x y v.enc (jG id ver t l v).enc
 | .c z,h=>(jE lat hid hc (h z (by simp[TV.refs]))).2
 | .g cs,h=>(kU lat hid hc h).agg
 | .tup vs,h=>Rg.tup (lW (vs:=vs) h)
 | .aptr ..,_=>λ_ r=>r.later lat
 | .bptr ..,_=>λ_ r=>r.later lat
 | .vptr ..,_=>λ_ r=>r.later lat
theorem lW: ∀{vs:List TV},(TV.tup vs).ok H->Rg x y (TV.encL vs) (TV.encL (bK id ver t l vs))
 |[],_=>.later lat _
 |v::r,h=>by simp only[TV.encL,bK];have a:v.ok H:=ku h (by simp);have b:(TV.tup r).ok H:=Pw λw c=>ku h (by simp[c]);exact(Rg.one (nR a)).append (lW b)
end
end
def nQ{l:List t.D}(c:Bx G b)(d:u.ok G):(Mp N n t l u).ok b:=by
 cases u with
 |own f e h g=>simp only[Mp];split;trivial;exact c.leaf d
 |_=>exact c.leaf d
def vr{l:List t.D}(H:Bx G b)(h:lok G d):lok b (d.map (Mp N n t l)):=λz f=>by obtain⟨w,e,rfl⟩:=Br.1 f;exact nQ H (h w e)
mutual
theorem sZ{H d:Am}{id b:Nat}{t:Ty}{l:List t.D}(a:Bx H d): ∀{v:TV},v.ok H->(jG id b t l v).ok d
 | .c z,h=>JU (nQ a (h z (by simp[TV.refs])))
 | .g cs,h=>vr a h
 | .tup vs,h=>pX a h
 | .aptr ..,h=>a.lok h
 | .bptr ..,h=>a.lok h
 | .vptr ..,h=>a.lok h
theorem pX{H c:Am}{id b:Nat}{t:Ty}{l:List t.D}(d:Bx H c): ∀{e:List TV},(TV.tup e).ok H->(TV.tup (bK id b t l e)).ok c
 |[],_=>λz i=>by simp[bK,TV.refs,TV.refsL]at i
 |v::r,h=>by have f:v.ok H:=ku h (by simp);have g:(TV.tup r).ok H:=Pw λw a=>ku h (by simp[a]);refine Pw λw a=>?_;simp only[bK]at a;rcases A1.1 a with rfl|a;exact sZ d f;exact ku (pX d g) a
end
theorem yr{l:List t.D}(f:b[N]? =some (.buf false t l n U)):Bx b ((b.map (PP N U t l)).set N .dead):=by
 have s:=Gp f;refine⟨by simp,λj y x v h=>⟨by simpa using h.1,λro K E F u c=>?_⟩,λj e c hr=>?_,λj m h x l2 v y a=>?_,λj m _ _ _ _ _ _ _ _ a=>?_⟩;by_cases d:j=N;grind;rw[Dt (λe=>d e.symm),CC]at c;cases a:b[j]? with
 |none=>grind
 |some e=>
  rw[a]at c;simp only[Bf,Ai]at c;cases e with
  |live H k=>cases H<;>simp[PP]at c
  |dead=>cases c
  |lp=>cases c
  |mp=>cases c
  |buf H q o p r=>simp only[PP]at c;exact h.2 _ _ _ _ _ (by rw[a,c])
 have d:j≠N:=by rintro rfl;rw[f]at c;injection c with c;subst c;cases hr
 rw[Dt (λe=>d e.symm),CC,c];cases e with
 |live H k=>cases H with|true=>rfl|false=>cases hr
 |dead=>cases hr
 |buf H q o p r=>rfl
 |lp=>rfl
 |mp=>rfl
 by_cases d:j=N;grind;rw[Dt (λe=>d e.symm),CC]at a;cases g:b[j]? with
 |none=>rw[g]at a;cases a
 |some e=>
  rw[g]at a;simp only[Bf,Ai]at a;cases e with
  |live H k=>cases H<;>simp[PP]at a
  |dead=>cases a
  |lp=>cases a
  |mp=>cases a
  |buf H q o p r=>grind[PP]
 by_cases d:j=N;grind[List.getElem?_set_self];rw[Dt (λe=>d e.symm),CC]at a;cases g:b[j]? with
 |none=>rw[g]at a;cases a
 |some e=>
  rw[g]at a;simp only[Bf,Ai]at a;cases e with
  |live H k=>cases H<;>simp[PP]at a
  |dead=>cases a
  |buf H q o p r=>cases a
  |mp=>cases a
  |lp w z G C I A B J=>injection a with _ q2 q3 q4 q5 q6 q7 _;subst q2 q3 q4 q5 q6 q7;exact⟨_,_,rfl⟩
theorem ACi{id:Nat}{env env2:BQ}{H K:Am}(ok:Oc env H)(h:frz id env H=some (env2,K)):Oc env2 K/\Bx H K/\ ∀N,Fs N (A7 H).length (Bw env) (A7 H) (Bw env2) (A7 K):=by
 unfold frz at h;split at h;rename_i t l n i d;simp only[Ai,Dq]at h;obtain⟨rfl,rfl⟩:=h;have G:=Gp d;have A:=yr d;have hn:n=l.length:=ok.heap _ (BL d);refine⟨⟨λp M=>?_,λe R=>?_⟩,A,λN=>?_⟩;obtain⟨q,z,rfl⟩:=Br.1 M;exact sZ A (ok.env q z);rcases Tk R with R|rfl;obtain⟨k,S,rfl⟩:=Br.1 R;have F:=ok.heap k S;cases k with
 |live b D=>
  cases b with
  |true=>exact A.lok F
  |false=>exact vr A F
 |dead=>trivial
 |buf b Q P T U=>exact F
 |lp=>exact F
 |mp=>exact F
 trivial;have u:(A7 H)[id]? =some (.live n (t.E.cl l)):=by rw[FF,d];rfl
 refine UA (by simp[A7]) λX g w s=>?_;have C: ∀j,(A7 ((H.map (PP id i t l)).set id .dead))[j]? =if j=id then some .dead else(H[j]?).map λe=>(PP id i t l e).enc:=by intro j;rw[FF];by_cases v:j=id;subst v;rw[if_pos rfl,Hi (by simpa using G)];rfl;grind
 have back: ∀(j:Nat) (e:Ec),(A7 ((H.map (PP id i t l)).set id .dead))[j]? =some e->e≠ .dead->j≠id/\ ∃k,(A7 H)[j]? =some k/\k≠ .dead:=by
  intro j e a f;rw[C]at a;split at a;injection a with a;exact(f a.symm).elim;rename_i v;refine⟨v,?_⟩;cases z:H[j]? with
  |none=>rw[z]at a;cases a
  |some k=>
   refine⟨k.enc,by rw[FF,z];rfl,λL=>f ?_⟩;rw[z]at a;simp only[Bf,Ai]at a;cases k with
   |live b D=>simp[Dp.enc]at L
   |dead=>exact a.symm
   |buf b Q P T U=>simp[Dp.enc]at L
   |lp=>simp[Dp.enc]at L
   |mp=>simp[Dp.enc]at L
 have y:(cx X g (A7 H) w).Later (cx X g (A7 ((H.map (PP id i t l)).set id .dead)) w):=bq (by simp[A7]) λj e a f=>(back j e a f).2;have hO: ∀B,g.io id=some B-> ¬(cx X g (A7 ((H.map (PP id i t l)).set id .dead)) w).O B:=by rintro B I (hX|⟨j,e,a,f,J⟩);exact(s.out B hX).2 ⟨id,_,u,by simp,I⟩;obtain⟨v,k,Y,Z⟩:=back j e a f;exact v (s.inj j id _ _ B Y u Z (by simp) J I)
 have o:Conv (cx X g (A7 H) w) (cx X g (A7 ((H.map (PP id i t l)).set id .dead)) w) (.sl id n t.sz 0 n) (.vs t.sz (l.map t.enc)):=λc r=>BZ.froze s u (ACs t.E l) (by rw[hn];exact Da _) y rfl hO r;refine⟨⟨by simp[A7],λj e' a=>?_⟩,λtt v' m=>?_⟩;rw[C]at a;split at a;injection a with a;exact .inl a.symm;cases z:H[j]? with
 |none=>rw[z]at a;cases a
 |some k=>
  rw[z]at a;simp only[Bf,Ai]at a;have x:(A7 H)[j]? =some k.enc:=by rw[FF,z];rfl
  cases k with
  |live b D=>
   refine .inr (.inl ?_);cases b with
   |true=>simp only[PP,Dp.enc]at a;exact⟨0,lvs D,lvs D,x,a.symm,rfl,(Rg.later y _).2⟩
   |false=>simp only[PP,Dp.enc]at a;obtain⟨V,W⟩:=kU y d o (ok.heap _ (BL z));exact⟨0,lvs D,_,x,a.symm,V,W⟩
  |dead=>exact .inl a.symm
  |buf b Q P T U=>simp only[PP,Dp.enc]at a;exact .inr (.inl ⟨T,Q.E.cl P,Q.E.cl P,x,a.symm,rfl,(Rg.later y _).2⟩)
  |lp=>subst a;exact .inr (.inr ⟨x,λ_ _ h=>by cases h⟩)
  |mp=>subst a;exact .inr (.inr ⟨x,λ_ _ h=>by cases h⟩)
 simp only[Bw,Nw,Br]at m;obtain⟨p,M,e⟩:=m;simp only[Function.comp,Dq]at e;obtain⟨rfl,rfl⟩:=e;exact⟨p.2.enc,Br.2 ⟨p,M,rfl⟩,nR y d o (ok.env p M)⟩;cases h
@[reducible] def DL:List Ty->Type
 |[]=>Unit
 |[t]=>t.D
 |t::u::r=>t.D×DL (u::r)
def xD:(ts:List Ty)->List TV->Option (DL ts)
 |[],[]=>some ()
 |[t],[v]=>t.data v
 |t::u::r,v::vs=>
  match t.data v,xD (u::r) vs with
  |some x,some y=>some (x,y)
  |_,_=>none
 |_,_=>none
def oZ:(ts:List Ty)->DL ts->List TV
 |[],_=>[]
 |[t],x=>[t.tv x]
 |t::u::r,x=>t.tv x.1::oZ (u::r) x.2
def dL:(ts:List Ty)->DL ts->List AV
 |[],_=>[]
 |[t],x=>[t.enc x]
 |t::u::r,x=>t.enc x.1::dL (u::r) x.2
def one:List TV->TV
 |[v]=>v
 |vs=>.tup vs
def gH:List AV->AV
 |[v]=>v
 |vs=>.tup vs
def LU(bt:Ty):(rs:List Ty)->DL (rs++[bt])->DL rs×bt.D
 |[],y=>((),y)
 |[_],y=>(y.1,y.2)
 |_::u::r,y=>((y.1,(LU bt (u::r) y.2).1),(LU bt (u::r) y.2).2)
inductive QY where
 |c2 (f:FuncId) (te:Ty) (ds rs:List Ty) (post:List AV) (g:List te.D->DL ds->Option (DL (rs++[.list te])))
 |cl (f:FuncId) (t:Ty)
 |c0 (f:FuncId) (ds rs:List Ty) (g:DL ds->Option (DL rs))
 |c1 (f:FuncId) (pos:Nat) (bt:Ty) (ds rs:List Ty) (g:bt.D->DL ds->Option (DL (rs++[bt])))
def QY.f:QY->FuncId
 | .c0 f .. =>f
 | .c1 f .. =>f
 | .c2 f .. =>f
 | .cl f _=>f
def fnB:AV->AV->Bool
 | .fn (.func F) [] [],.fn (.func G) [] []=>Nat.beq F G
 |_,_=>false
def ACg{w:AV}(h:fnB v w=true):v=w:=by unfold fnB at h;split at h<;>simp_all
def pz:List TV->List AV->Bool
 |[],[]=>true
 | .c (.raw v)::r,w::s=>fnB v w&&pz r s
 |_,_=>false
def tS: ∀{l:List TV} {p:List AV},pz l p=true->l.map TV.enc=p
 |[],[],_=>rfl
 |[],_::_,h=>by simp[pz]at h
 |v::r,[],h=>by cases v<;>simp[pz]at h
 |v::r,w::s,h=>by unfold pz at h;split at h;rename_i e;cases e;rename_i c d;injection c with a1 a2;injection d with a b;subst a1 a2 a b;simp only[BN]at h;rw[Be,tS h.2];exact congrArg (· ::_) (ACg h.1);cases h
def Tf:Nat->AV->List AV->List AV
 |0,v,l=>v::l
 |n+1,v,x::l=>x::Tf n v l
 |_+1,v,[]=>[v]
def QY.Ok(P:Program):QY->Prop
 | .c2 f te ds rs post g=> ∀l x y,g l x=some y->(LU (.list te) rs y).2.length=l.length-> ∀H id,H[id]? =some (.live l.length (te.E.cl l))->
  EQ P f (.sl id l.length te.sz 0 l.length::(dL ds x++post)) H (Cr (gH (dL rs (LU (.list te) rs y).1)) (H.set id (.live l.length (te.E.cl (LU (.list te) rs y).2))))
 | .cl f t=> ∀(l:List t.D) (H:Am),(∀e∈H,e.ok H)->(l=[]->EQ P f [.vs t.sz []] (A7 H) (Cr (.vs t.sz []) (A7 (H++[.dead]))))/\
  ∀r,l≠ []->app [] l=some r->EQ P f [.vs t.sz (l.map t.enc)] (A7 H) (Cr (.sl H.length r.length t.sz 0 r.length) (A7 (H++[.buf false t r r.length 0])))
 | .c0 f ds rs g=> ∀x y,g x=some y-> ∀H,EQ P f (dL ds x) H (Cr (gH (dL rs y)) H)
 | .c1 f pos bt ds rs g=> ∀b x y,g b x=some y-> ∀H id,H[id]? =some (.live 0 (bt.enc b).cells)->EQ P f (Tf pos (.ptr id 0 0) (dL ds x)) H (Cr (gH (dL rs (LU bt rs y).1)) (H.set id (.live 0 (bt.enc (LU bt rs y).2).cells)))
section
variable {R:Type}
def vc(c:QY)(vs:List TV)(H:Am)(k:TV->Am->Option R):Option R:=
 match c with
 | .c0 _ ds rs g=>match xD ds vs with|some x=>(g x).bind λy=>k (one (oZ rs y)) H|none=>none
 | .c1 _ pos bt ds rs g=>
  match vs[pos]? with
  |some (.c (.raw (.ptr id 0 0)))=>
   match H[id]? with
   |some (.live false cs)=>
    match bt.all cs,xD ds (vs.take pos++vs.drop (pos+1))with
    |some b,some x=>(g b x).bind λy=>k (one (oZ rs (LU bt rs y).1)) (H.set id (.live false (bt.lvs (LU bt rs y).2)))
    |_,_=>none
   |_=>none
  |_=>none
 | .c2 _ te ds rs post g=>
  match vs with
  | .c (.own id ver _ _)::r=>
   match H[id]? with
   |some (.buf false t l n' ver')=>
    match Nat.beq ver ver' with
    |true=>
     if h:(Ty.list t).beq (Ty.list te)=true then
      match xD ds (r.take ds.length),pz (r.drop ds.length) post with
      |some x,true=>(g (Ty.cast h l) x).bind λy=>
       cond (Nat.beq (LU (.list te) rs y).2.length n') (k (one (oZ rs (LU (.list te) rs y).1)) (H.set id (.buf false te (LU (.list te) rs y).2 n' ver'))) none
      |_,_=>none
     else none
    |false=>none
   |_=>none
  |_=>none
 | .cl _ t=>
  match vs with
  |[.c (.ls te l)]=>
   if h:(Ty.list te).beq (Ty.list t)=true then
    cond (decide (((l.length:Nat):Int)=0)) (k (.c (.ls t [])) (H++[.dead])) ((app (α:=t.D) [] (Ty.cast h l)).bind λr=>k (.c (.own H.length 0 t r.length)) (H++[.buf false t r r.length 0]))
   else none
  |[.c .nil]=>k (.c (.ls t [])) (H++[.dead])
  |_=>none
def UE: ∀(a:List Ty) (x:DL a),(oZ a x).map TV.enc=dL a x
 |[],_=>rfl
 |[t],x=>by simp only[oZ,dL,Be,IW,t.tv_enc]
 |t::u::r,x=>by simp only[oZ,dL,Be,t.tv_enc,UE (u::r)]
theorem eT{H:Am}: ∀(b:List Ty) (x:DL b),∀v∈oZ b x,v.ok H
 |[],_,v,a=>by simp[oZ]at a
 |[t],x,v,a=>by simp only[oZ,BE]at a;subst a;exact t.tv_ok x
 |t::u::r,x,v,a=>by simp only[oZ,A1]at a;rcases a with rfl|a;exact t.tv_ok _;exact eT (u::r) x.2 v a
def mQ(a:List TV):(one a).enc=gH (a.map TV.enc):=by
 match a with
 |[]=>rfl
 |[v]=>rfl
 |v::w::r=>simp only[one,gH,TV.enc,nH,Be]
def rD(h: ∀v∈m,v.ok b):(one m).ok b:=by
 match m,h with
 |[],h=>exact Pw h
 |[v],h=>exact h v (by simp)
 |v::w::r,h=>exact Pw h
def UT: ∀{a:List Ty} {b:List TV} {x:DL a},xD a b=some x->DT (b.map TV.enc) (dL a x)
 |[],[],x,h=>DT.refl _
 |[t],[v],x,h=>DT.one (Lf h)
 |t::u::r,v::b,x,h=>by simp only[xD]at h;split at h;rename_i y z c d;injection h with h;subst h;exact(DT.one (Lf c)).append (UT d);cases h
 |[],_::_,x,h=>by simp[xD]at h
 |[t],[],x,h=>by simp[xD]at h
 |[t],_::_::_,x,h=>by simp[xD]at h
 |_::_::_,[],x,h=>by simp[xD]at h
theorem nY: ∀{n:Nat} {a:List AV} {v:AV} {b:List AV},a[n]? =some v->DT (a.take n++a.drop (n+1)) b->DT a (Tf n v b)
 |0,u::a,v,b,h,hl=>by simp at h;subst h;exact(DT.one (U2.refl u)).append hl
 |n+1,u::a,v,b,h,hl=>by
  cases b with
  |nil=>have:=hl.1;simp at this
  |cons d b=>
   have c:U2 u d:=by obtain⟨w,q1,q2⟩:=hl.2 0 d rfl;grind
   have e:DT (a.take n++a.drop (n+1)) b:=⟨by have:=hl.1;simpa using this,λi g f=>hl.2 (i+1) g f⟩
   exact(DT.one c).append (nY h e)
def AAf(c:QY)(vs:List TV):List Nat:=
 match c with
 | .c0 .. =>[]
 | .c1 _ pos .. =>match vs[pos]? with|some v=>idT v|none=>[]
 | .c2 .. =>match vs[0]? with|some v=>idT v|none=>[]
 | .cl .. =>[]
def AEY(c:QY)(vs:List TV):List TV:=
 match c with
 | .c2 .. =>vs.drop 1
 |_=>vs
def sI{c:QY}(hc:c.Ok P){k:TV→Am→Option R}{r:R}(hv: ∀v∈m,v.ok b)(K: ∀e∈b,e.ok b)(h:vc c m b k=some r):
  ∃v O,EQ P c.f (m.map TV.enc) (A7 b) (Cr v.enc (A7 O))/\k v O=some r/\v.ok O/\(∀e∈O,e.ok O)/\Bx b O/\Frame (AAf c m) b O:=by
 unfold vc at h;split at h;rename_i f S A g;split at h;rename_i x hx;obtain⟨y,hy,h⟩:=Dv.1 h;refine⟨_,b,?_,h,rD (eT A y),K,Bx.refl b,Frame.refl _ _⟩;rw[mQ,UE];have hl:=UT hx;refine EQ.before (args2:=dL S x) (H2:=A7 b) hl.1 (λX g0 w s=>⟨⟨rfl,λj e' p=>?_⟩,λj Z p=>?_⟩) (hc x y hy _);cases e' with
 |dead=>exact .inl rfl
 |live g1 L=>exact .inr (.inl ⟨g1,L,L,p,rfl,rfl,λi v hi=>⟨v,hi,λ_ r=>r⟩⟩)
 |_=>exact .inr (.inr ⟨p,by simp⟩)
 obtain⟨v,q1,q2⟩:=hl.2 j Z p;exact⟨v,q1,λd W=>q2 _ _ W⟩;cases h;rename_i f pos J S A g;split at h;rename_i id hp;split at h;rename_i cs o;split at h;rename_i D x hb hx;obtain⟨y,hy,h⟩:=Dv.1 h;have G:Bx b (b.set id (.live false (J.lvs (LU J A y).2))):=Bx.set o rfl λ_ _ _ _ _ h=>by cases h
 refine⟨_,_,?_,h,rD (eT A _),S5 G K (J.lvs_ok _),G,Frame.set (by simp only[AAf,hp];exact BE.2 rfl)⟩;rw[mQ,UE,M9];have C:id<(A7 b).length:=by rw[CO];exact Gp o
 have hl:=UT hx;have ap:=Fe hb;have a:DT (m.map TV.enc) (Tf pos (.ptr id 0 0) (dL S x)):=by refine nY ?_ (by rw[<-List.map_take,<-List.map_drop,<-MB];exact hl);rw[CC,hp];rfl
 have H:=hc D x y hy ((A7 b).set id (.live 0 (J.enc D).cells)) id (by rw[Hi C]);rw[Vl]at H;have e1:(Dp.live false (J.lvs (LU J A y).2)).enc= .live 0 (J.enc (LU J A y).2).cells:=by simp only[Dp.enc,J.lvs_enc]
 rw[e1];refine EQ.before a.1 (λX g0 w s=>?_) H;have ad:A7 b=(A7 b).set id (.live 0 (lvs cs)):=by
  have:(A7 b)[id]? =some (.live 0 (lvs cs)):=by rw[FF,o];rfl
  apply IY;intro j;by_cases F:j=id;subst F;rw[Hi C,this];rw[Dt (λe=>F e.symm)]
 have ao:(cx X g0 (A7 b) w).Later (cx X g0 ((A7 b).set id (.live 0 (J.enc D).cells)) w):=by refine bq (by simp) λj e p ar=>?_;by_cases F:j=id;subst F;exact⟨.live 0 (lvs cs),by rw[FF,o];rfl,by simp⟩;rw[Dt (λe=>F e.symm)]at p;exact⟨e,p,ar⟩
 refine⟨SO.set_less C ad rfl ap ao,λj Z p=>?_⟩;obtain⟨v,q1,q2⟩:=a.2 j Z p;exact⟨v,q1,λd W=>q2 _ _ (W.later ao)⟩;cases h;cases h;cases h;rename_i f Y S A N g;split at h;rename_i id B t0 n0 r0;split at h;rename_i t l V ax o;split at h;rename_i hb;have al:=C8 hb;subst al;split at h;rename_i I;have n:=Ty.beq_eq _ _ I;injection n with n;subst n;split at h;rename_i x hx hp;obtain⟨y,hy,h⟩:=Dv.1 h;have z:(Ty.cast I l:List t.D)=l:=rfl;rw[z]at hy;have hn:V=l.length:=K _ (BL o);have hr:Tg b id B t0 n0:=hv _ JS (.own id B t0 n0) (by simp[TV.refs]);obtain⟨_,q⟩:=hr.2 _ _ _ _ _ o;obtain⟨rfl,rfl⟩:=q rfl;cases T:Nat.beq (LU (.list t) A y).2.length V with
 |false=>rw[T]at h;cases h
 |true=>
  rw[T]at h;have M:(LU (.list t) A y).2.length=V:=C8 T;have G:Bx b (b.set id (.buf false t (LU (.list t) A y).2 V B)):=Bx.set o rfl λ_ _ _ _ _ e=>by cases e;exact⟨_,_,_,_,rfl,.inr ⟨rfl,rfl⟩⟩
  refine⟨_,_,?_,h,rD (eT A _),S5 G K M.symm,G,Frame.set (by simp[AAf,idT])⟩;rw[mQ,UE,M9];have hl:=UT hx;have U:=tS hp;have a:DT ((TV.c (.own id B t V)::r0).map TV.enc) (.sl id l.length t.sz 0 l.length::(dL S x++N)):=by
   rw[Be,<-Ee S.length r0,MB,U];have e1:(TV.c (.own id B t V)).enc= .sl id l.length t.sz 0 l.length:=by rw[<-hn];rfl
   rw[e1];rw[<-mm];rw[<-mm (l:=dL S x++N)];exact(DT.refl _).append (hl.append (DT.refl _))
  have H:=hc l x y hy (by rw[M,hn]) (A7 b) id (by rw[FF,o,<-hn];rfl);have e2:(Dp.buf false t (LU (.list t) A y).2 V B).enc= .live l.length (t.E.cl (LU (.list t) A y).2):=by rw[<-hn];rfl
  rw[e2];refine EQ.before a.1 (λX g0 w s=>⟨⟨rfl,λj e' p=>?_⟩,λj Z p=>?_⟩) H;cases e' with
  |dead=>exact .inl rfl
  |live g1 L=>exact .inr (.inl ⟨g1,L,L,p,rfl,rfl,λi v hi=>⟨v,hi,λ_ r=>r⟩⟩)
  |_=>exact .inr (.inr ⟨p,by simp⟩)
  obtain⟨v,q1,q2⟩:=a.2 j Z p;exact⟨v,q1,λd W=>q2 _ _ W⟩
 cases h;cases h;cases h;cases h;cases h;rename_i f t;have same: ∀{args u:List AV} {Q:AV->Ap->Prop},DT args u->EQ P f u (A7 b) Q->EQ P f args (A7 b) Q:=λa H=>by
  refine EQ.before a.1 (λX g0 w s=>⟨⟨rfl,λj e' p=>?_⟩,λj Z p=>?_⟩) H;cases e' with
  |dead=>exact .inl rfl
  |live g1 L=>exact .inr (.inl ⟨g1,L,L,p,rfl,rfl,λi v hi=>⟨v,hi,λ_ r=>r⟩⟩)
  |_=>exact .inr (.inr ⟨p,by simp⟩)
  obtain⟨v,q1,q2⟩:=a.2 j Z p;exact⟨v,q1,λd W=>q2 _ _ W⟩
 split at h;rename_i Y l;split at h;rename_i I;have n:=Ty.beq_eq _ _ I;injection n with n;subst n;have z:(Ty.cast I l:List Y.D)=l:=rfl;rw[z]at h;cases hz:decide (((l.length:Nat):Int)=0)with
 |true=>
  rw[hz]at h;have h0:l=[]:=by
   have:((l.length:Nat):Int)=0:=by simpa using hz
   exact EU (by omega)
  subst h0;refine⟨TV.c (Bc.ls Y []),b++[Dp.dead],?_,h,JU trivial,Ob K trivial,Bx.push _ _,Frame.push _ _ _⟩;exact(hc [] b K).1 rfl
 |false=>
  rw[hz]at h;have h0:l≠ []:=by rintro rfl;simp at hz
  obtain⟨r,hr,h⟩:=Dv.1 h;have e:Dp.ok (b++[.buf false Y r r.length 0]) (.buf false Y r r.length 0):=rfl;have q:=(hc l b K).2 r h0 hr;refine⟨TV.c (Bc.own b.length 0 Y r.length),b++[Dp.buf false Y r r.length 0],?_,h,nz,Ob K e,Bx.push _ _,Frame.push _ _ _⟩;exact q
 cases h;refine⟨TV.c (Bc.ls t []),b++[Dp.dead],?_,h,JU trivial,Ob K trivial,Bx.push _ _,Frame.push _ _ _⟩;exact same (DT.one (U2.nil t.sz_pos)) ((hc [] b K).1 rfl);cases h
end
section
variable {P:Program} {N:Nat} {o:Oper} {env:Env} {H:Ap} {K:AV->Ap->Prop}
def nO{sz:Nat}{rows:List AV}(n:o.op= .binOp .eql a c (.const (.slice none 0 0)) I)(E:P.underlying a=some (.slice W))(F:BC env c= .vs sz rows)
  (C: ∀b,(rows≠ []->b=false)->K (.bool b) H):Iv P N o env H K:=by
 apply Co (by rw[n];rfl);intro X h t w s Q;have l:=Cz s.env c;rw[F]at l;generalize i:t.eval c=cx0 at l;cases l with
 | @vs sz rows e cap f m D p z J=>
  have k:=run_underlying E w;have g:(execOp t.eval o).run P w= .ok (.value (.bool e.isNone)) w:=by
   unfold execOp;rw[n];have r:t.eval (.const (.slice none 0 0))= .slice none 0 0:=rfl;have u:(eqGuard .eql a c (.const (.slice none 0 0)) (.slice e rows.length cap) (.slice none 0 0)).run P w= .ok () w:=by unfold eqGuard;simp
   have v:(Op.equal a (.slice e rows.length cap) (.slice none 0 0)).run P w= .ok e.isNone w:=by
    have y: ∃d,Op.maxDepth=d+1:=⟨9999,rfl⟩
    obtain⟨d,A⟩:=y;unfold Op.equal;rw[A];cases e<;>simp[Op.equalIn,k]
   simp only[i,r,Sem.run_bind,u,Result.andThen_ok,binOp,v,Sem.run_pure]
  unfold Oper.wp;rw[g,Oper.upon_value];refine⟨_,_,h,H,rfl,C e.isNone (λj=>?_),.bool _,s.sim,G2.refl _ _ _⟩;obtain⟨B,G,q,_⟩:=z j;rw[q];rfl
def Iv.clear{t e:TypeId}{x:Operand}{id g l n sz:Nat}(ho:o.op= .call {callee:=.builtin .clear,args:= #[x],argTypes:= #[t]})(hd:o.dst=none)(he:eI P t=some (none,e,sz))(b0:QV P e=true)(hz:Wc P e=some Q)(W:Q.length=sz)
  (hx:BC env x= .sl id g sz l n) (E:H[id]? =some (Ec.live g i)) (a4:l+n*sz<=i.length) (hk:K (.tup []) (H.set id (.live g (UY i l (List.replicate n Q).flatten)))):Iv P N o env H K:=by
 apply Co (by rw[ho];rfl);intro X h a w s M;obtain⟨b2,b,hi⟩:=PO he;obtain⟨z,zv,v,b5,a',b3⟩:=SM b0;have a2:=fj hi v;obtain⟨i',y,a0,a8,a6⟩:=aD (cx X h H w) hz;have:i'=z:=by rw[v]at a0;exact(Cl a0).symm
 subst this;have:y=zv:=by rw[a']at a8;exact(Cl a8).symm
 subst this;have A:y.cells.size=sz:=by rw[b3,a2]
 have rx:=Cz s.env x;rw[hx]at rx;have R:=run_underlying b2 w;have S:(List.replicate n Q).flatten.length=n*sz:=by simp[W]
 obtain⟨ar,ao⟩:=s.sim.live id g i E;have b1: ∃ad cap,a.eval x= .slice ad n cap/\(n≠0-> ∃B,h.io id=some B/\ad=some ⟨B,l,none⟩):=by
  generalize a.eval x=c at rx;cases rx with
  |sl h1 h2 h3 hc=>rcases hc ar with⟨_,q2,_,q4⟩|⟨B,cap,q1,_,_,q4⟩;exact⟨none,0,by rw[q4,q2],λbN=>(bN q2).elim⟩;exact⟨_,cap,q4,λ_=>⟨B,q1,rfl⟩⟩
 obtain⟨ad,cap,Z,bb⟩:=b1;have a1:id<H.length:=by rcases Ao id H.length with h2|h2;exact h2;rw[Ck h2]at E;cases E
 by_cases hn:n=0;subst hn;have F:(execOp a.eval o).run P w= .ok (.value (.tuple #[])) w:=by unfold execOp;rw[ho];simp only[resolve,invoke,builtin,Sem.run_bind,Sem.run_pure,Result.andThen_ok,PF,Be,IW,Z,Builtin.clear_];simp[R];cases ad<;>simp
 unfold Oper.wp;rw[F,Oper.upon_value];have e1:H.set id (.live g (UY i l (List.replicate 0 Q).flatten))=H:=by
  have:UY i l (List.replicate 0 Q).flatten=i:=by simp[UY]
  rw[this];apply IY;intro j;by_cases a3:j=id;subst a3;rw[Hi a1,E];rw[Dt λe=>a3 e.symm]
 rw[e1]at hk;exact⟨_,_,h,H,rfl,hk,.tup rfl λ_ _ _ h=>by (cases h),s.sim,G2.refl _ _ _⟩;obtain⟨B,J,rfl⟩:=bb hn;rcases ao with⟨a5,_⟩|⟨B',Y,T,fz,f,O,hb,al,b4,ap,I⟩;rw[show(cx X h H w).io id=h.io id from rfl,J]at a5;cases a5;rw[show(cx X h H w).io id=h.io id from rfl,J]at O;injection O with e0;subst e0;have V:(Builtin.zeroCells y.cells n).size=n*sz:=by rw[Wd,A]
 have G: ∀j,j<n*sz-> ∃d u,(Builtin.zeroCells y.cells n)[j]? =some d/\(List.replicate n Q).flatten[j]? =some u/\d.oneCell'=true/\BZ (cx X h H w) u d:=by
  intro j r;have a7:0<sz:=by rcases RS sz with q|q;subst q;simp at r;exact q
  have hm:j%sz<y.cells.size:=by rw[A];exact Nat.mod_lt _ a7
  have D:y.cells[j%sz]? =some (y.cells[j%sz]'hm):=OP hm;have ax: ∀(m j:Nat),j<m*sz->(List.replicate m Q).flatten[j]? =Q[j%sz]? :=by
   intro m;induction m with
   |zero=>intro j r;omega
   |succ m ih=>intro j r;rw[ga,jz];rcases Ao j sz with bz|bl;rw[B6 (by omega),Vo bz];rw[Cb (by omega),W,ih (j-sz) (by rw[GY]at r;omega),<-Nat.mod_eq_sub_mod bl]
  have a9:Q[j%sz]? =some (Q[j%sz]'(by rw[W];exact Nat.mod_lt _ a7)):=Aw _;have U:(Builtin.zeroCells y.cells n)[j]? =some (y.cells[j%sz]'hm):=by
   unfold Builtin.zeroCells;rw[Vq,Array.getElem?_range,if_pos (by rw[A];exact r)];have bG:j%y.cells.size<y.cells.size:=by rw[A];rw[A]at hm;exact hm
   rw[Bf,getElem!_pos y.cells _ bG];simp only[A]
  cases a6 with
  |agg q1 q2 q3=>exact⟨_,_,U,by rw[ax n j r,a9],q2 _ _ D,q3 _ _ _ a9 D⟩
 obtain⟨w',L,p1,p2,p3,p4,p5,p6,p7,p8,p9⟩:=S8 (P:=P) (off:=l) (Builtin.zeroCells y.cells n).toList 0 Y w hb (by simp[V];omega) ap (λd hd=>by
  obtain⟨j,r⟩:=EV hd;have bt:j<n*sz:=by rw[<-V];have:=(To.1 r).1;simpa using this
  obtain⟨d',u,q1,_,q3,_⟩:=G j bt;rw[Od]at r;rw[r]at q1;injection q1 with q1;rw[q1];exact q3)
 have F:(execOp a.eval o).run P w= .ok (.value (.tuple #[])) w':=by
  unfold execOp;rw[ho];simp only[resolve,invoke,builtin,Sem.run_bind,Sem.run_pure,Result.andThen_ok,PF,Be,IW,Z,Builtin.clear_];have b6: ∀(α:Type) (p q:α),(match n with|0=>p|_+1=>q)=q:=by
   intro α p q;cases n with
   |zero=>exact(hn rfl).elim
   |succ m=>rfl
  obtain⟨m,rfl⟩: ∃m,n=m+1:=⟨n-1,by omega⟩
  simp[R,zeroValue,typeInfo,v,a'];rw[p1];rfl
 have hh:dO (cx X h H w) (UY i l (List.replicate n Q).flatten) L fz:=by
  refine⟨λj=>if l<=j/\j<l+n*sz then(Builtin.zeroCells y.cells n).getD (j-l) undef else f j,by rw[eN (by rw[S];exact a4)];omega,by rw[p3];exact ap,λj u r=>?_⟩;rw[oO (by rw[S];exact a4),S]at r;rw[p4];simp only[RR,DQ,V,Od];split at r;rename_i C;rw[if_pos C,if_pos C];obtain⟨d,u',q1,q2,q3,q4⟩:=G (j-l) (by omega);rw[q2]at r;injection r with r;subst r;have e:(Builtin.zeroCells y.cells n).getD (j-l) undef=d:=by rw[PM,q1];rfl
  rw[e];exact⟨q1,q3,q4⟩;rename_i C;rw[if_neg C,if_neg C];exact I j u r
 obtain⟨q1,q2⟩:=s.sim.upd (g':=g) (B:=B) (arr:=L) (T:=T) (fz:=fz) (w':=w') E (Ag _) (λ_=>⟨J,by rw[p3];exact al.symm⟩) (.inl J) p2 (λk _ hk=>p5 k hk) p6 p7 p8 (by rw[p9];exact Ag _) hh;unfold Oper.wp;rw[F,Oper.upon_value];exact⟨_,_,_,_,rfl,hk,.tup rfl λ_ _ _ h=>by (cases h),q1,q2⟩
def mG(k:o.op= .call {callee:=.builtin .clear,args:= #[c],argTypes:= #[a]})(m:P.underlying a=some (.slice I))
  (x:BC env c= .vs n []) (l:K (.tup []) H):Iv P N o env H K:=by
 apply Co (by rw[k];rfl);intro X h t w s Q;have j:=Cz s.env c;rw[x]at j;have d:=run_underlying m w;have i: ∃f cap,t.eval c= .slice f 0 cap:=by
  generalize t.eval c=e at j;cases j with
  |vs=>exact⟨_,_,rfl⟩
 obtain⟨f,cap,g⟩:=i;have b:(execOp t.eval o).run P w= .ok (.value (.tuple #[])) w:=by unfold execOp;rw[k];simp only[resolve,invoke,builtin,Sem.run_bind,Sem.run_pure,Result.andThen_ok,PF,Be,IW,g,Builtin.clear_];simp[d];cases f<;>simp
 unfold Oper.wp;rw[b,Oper.upon_value];exact⟨_,_,h,H,rfl,l,.tup rfl λ_ _ _ h=>by (cases h),s.sim,G2.refl _ _ _⟩
end
def Ub(P:Program)(N:Nat)(ops:Array Oper):List Oper->Env->Ap->(Env->Ap->Prop)->Prop
 |[],env,H,Q=> ∃env1 H1,Fs N H.length env H env1 H1/\Q env1 H1
 |o::rest,env,H,Q=> ∃env1 H1,Fs N H.length env H env1 H1/\
  Vg ops o.guard env1 (Iv P N o env1 H1 λv H'=>Ub P N ops rest (env1.putO o.dst v) H' Q) (Ub P N ops rest (env1.putO o.dst (.tup [])) H1 Q)
def Ub.weak{N:Nat}{Q:Env->Ap->Prop}{env1:Env}{H e:Ap}(w:Fs N H.length s H env1 e): ∀{os:List Oper},Ub P N j os env1 e Q->Ub P N j os s H Q
 |[],h=>by obtain⟨c,b,d,q⟩:=h;exact⟨c,b,w.trans (d.of_le w.1),q⟩
 |o::os,h=>by obtain⟨c,b,d,q⟩:=h;exact⟨c,b,w.trans (d.of_le w.1),q⟩
theorem dp{r:Option Nat}{C:Exit→Act→World→Prop}{Q:Env→Ap→Prop}:
  ∀(l:List Nat) (os:List Oper),l.map (j[·]?)=os.map some-> ∀(env:Env) (H:Ap) (h:Gh) (a:Act) (w:World),KO N os=true->Ub P N j os env H Q->St A h N env H a w->(∀f n y u q,Q f n->St A y N f n u q->G2 h H w y n q->u.defers=a.defers->C .normal u q)->wpOpsIn (FR r) 0 P j C l a w:=by
 intro l;induction l with
 |nil=>
  intro os d env H h a w _ hr s z;have:os=[]:=by simp_all
  subst this;obtain⟨env1,X,b,hr⟩:=hr;obtain⟨x,e,E,d⟩:=b.2 A h a w s;exact z env1 X x a w hr e (Fs.ext rfl b.1 E d (G2.refl h H w)) rfl
 |cons i l L=>
  intro os d env H h a w T hr s z;match os,d with
  |o::os,d=>
   simp at d;obtain⟨O,m⟩:=d;simp only[wpOpsIn,O];have g: ∀t,o.dst=some t->t<a.tmps.size:=by intro t Y;simp only[KO]at T;rw[s.size];grind
   have p:KO N os=true:=by simp_all[KO]
   obtain⟨env1,X,b,hr⟩:=hr;obtain⟨x,e,E,d⟩:=b.2 A h a w s;have M:=Fs.ext rfl b.1 E d (G2.refl h H w);rcases si e.env hr with⟨J,R⟩|⟨J,S⟩;rw[if_pos J];refine Oper.wpIn_mono ?_ (R r A x a w e C);rintro u q ⟨c,v,y,n,rfl,k,W,V,K⟩;have U:=K.later A;apply L os m _ n y _ q p k ⟨V,Mz.putO (e.env.later U) g W,(WX _ _ _).trans e.size⟩;intro env2 B m a2 G q2 F I D;exact z env2 B m a2 G q2 F (M.trans (K.trans I)) (D.trans (by cases o.dst<;>rfl));rw[if_neg (by grind)];refine⟨λ_ _=>trivial,L os m _ X x _ w p S ⟨e.sim,Mz.putO e.env g (.tup rfl λ_ _ _ h=>by cases h),(WX _ _ _).trans e.size⟩ ?_⟩;intro env2 B m a2 G q2 F I D;exact z env2 B m a2 G q2 F (M.trans I) (D.trans (by cases o.dst<;>rfl))
theorem Fb{N:Nat}{H:Ap}{Q:Exit->Env->Ap->Prop}{id:Nat}{b:Array Oper}(i:KO N b.toList=true)(h:Ub P N b b.toList s H (Q .normal)):L9 P N (.region id b false) s H Q:=by intro r X g a w n _;refine wpIn_region (dp (List.range b.size) b.toList ?_ s H g a w i h n ?_);apply IY;grind;intro c d f l m q j k e;exact⟨f,c,d,q,j,k,.same e⟩
open Go.MapKept (IsKey)
def Ec.isM:Ec->Bool
 | .mp _ _=>true
 | .it _ _=>true
 |_=>false
theorem kP{e:Ec}(h:e.isM=true):e.isB=true:=by cases e<;>simp_all[Ec.isM,Ec.isB]
def TG{α:Type}(n:Int)(v:α):List (Int×α)->List (Int×α)
 |[]=>[(n,v)]
 |p::r=>bif p.1==n then(n,v)::r else p::TG n v r
def Pk{α:Type}(n:Int):List (Int×α)->Option α
 |[]=>none
 |p::r=>bif p.1==n then some p.2 else Pk n r
def tK{a c:Type}(f:a->c)(n:Int)(v:a): ∀b:List (Int×a),(TG n v b).map (λp=>(p.1,f p.2))=TG n (f v) (b.map λp=>(p.1,f p.2))
 |[]=>rfl
 |p::r=>by simp only[TG,Be];cases p.1==n<;>simp[tK f n v r]
def tH{b c:Type}(f:b->c)(n:Int): ∀a:List (Int×b),Pk n (a.map λp=>(p.1,f p.2))=(Pk n a).map f
 |[]=>rfl
 |p::r=>by simp only[Pk,Be];cases p.1==n<;>simp[tH f n r]
section
variable {X:Nat->Prop} {h:Gh} {H:Ap} {w:World}
theorem Ih.of_extM{a:Gh}{d:World}(s:Ih X h H w)(F:G2 h H w a p d)
  (key: ∀(id:Nat) (e:Ec),p[id]? =some e->e≠ .dead->(H[id]? =some e/\a.gen id=h.gen id/\a.io id=h.io id/\a.cap id=h.cap id/\ ∀B,h.io id=some B->d.heap[B]? =w.heap[B]?)\/(e.isM=true/\BAt a p d id e))
  (inj: ∀(id b:Nat) (e k:Ec) (B:Nat),p[id]? =some e->p[b]? =some k->e≠ .dead->k≠ .dead->a.io id=some B->a.io b=some B->id=b):Ih X a p d:=by
 refine s.of_ext' F (λid e n E=>?_) (λid T G j l n f hr=>?_) inj;grind[kP];obtain⟨B,c,v,m,y,z,A,D,C⟩:=s.bld id _ f rfl;rcases key id _ n (by simp)with⟨_,r,t,I,u⟩|⟨e,_⟩;rcases key j _ hr (by simp)with⟨i,J,x,K,L⟩|⟨e,_⟩;refine⟨B,c,v,t.trans m,(u B m).trans y,z,r.trans A,D,λ_=>?_⟩;obtain⟨q1,q2⟩:=C i;refine⟨⟨q1.1,?_⟩,q2.trans x.symm⟩;rcases q1.2 with q|⟨g,cap,o,M,rfl,N,O,P⟩;grind;grind[Value.ownBlock];cases e;cases e
theorem Ih.push_m(s:Ih X h H w)(o:Obj)(cap:Nat)(E:Ec)(u:E.isM=true)
  (t:BAt (h.at_ H.length (some w.heap.size) 0 cap) (H++[E]) {w with heap:=w.heap.push o} H.length E):
  Ih X (h.at_ H.length (some w.heap.size) 0 cap) (H++[E]) {w with heap:=w.heap.push o}:=by
 refine s.of_extM (G2.push o cap E) (λid e d g=>?_) λid q e r B m n b c k l=>?_;rcases IR d with⟨a,d⟩|⟨rfl,rfl⟩;refine .inl ⟨d,by simp[Gh.at_,BR a],by simp[Gh.at_,BR a],by simp[Gh.at_,BR a],λB f=>?_⟩;have:=s.io_at d g f;grind;grind;rcases IR m with⟨l1,i⟩|⟨rfl,_⟩<;>rcases IR n with⟨l2,j⟩|⟨rfl,_⟩;exact s.inj _ _ _ _ B i j b c (by simpa[Gh.at_,BR l1]using k) (by simpa[Gh.at_,BR l2]using l);have p:=s.io_at i b (by simpa[Gh.at_,BR l1]using k);grind[Gh.at_];have p:=s.io_at j c (by simpa[Gh.at_,BR l2]using l);grind[Gh.at_];rfl
def Ih.setM(s:Ih X h H w){E E':Ec}{o o':Obj}{w':World}(g:H[N]? =some E)(J:E.isM=true)(v:E'.isM=true)(m:h.io N=some n)(K:w.heap[n]? =some o)(A: ∀r,o≠ .loop r)
  (G:w'.heap=w.heap.setIfInBounds n o') (C:w'.os=w.os) (B:w'.tape=w.tape) (M:w'.output=w.output) (x:BAt h (H.set N E') w' N E'):
  Ih X h (H.set N E') w'/\G2 h H w h (H.set N E') w':=by
 have d:N<H.length:=by rcases Ao N H.length with f|f;exact f;rw[Ck f]at g;cases g
 have b:E≠ .dead:=by rintro rfl;cases J
 have O: ∀k,k≠n->w'.heap[k]? =w.heap[k]? :=λk h=>by rw[G];simp[Ne.symm h]
 have own: ∀k,owned h (H.set N E') k->owned h H k:=by rintro k ⟨i,e,j,c,f⟩;rcases Iu d j with⟨y,a⟩|⟨rfl,_⟩;exact⟨i,e,a,c,f⟩;exact⟨i,E,g,b,f⟩
 have I:G2 h H w h (H.set N E') w':=by refine⟨C,B,M,by rw[G];simp,λk _ hn=>O k λe=>hn ⟨N,E,g,b,by rw[e];exact m⟩,by simp,λ_ _=>Ag _,λ_ _ _=>⟨rfl,rfl⟩,λk O=>.inl (own k O),λk r hr=>⟨r,?_⟩⟩;refine(O k λe=>?_).trans hr;subst e;rw[K]at hr;injection hr with hr;exact A r hr
 refine⟨s.of_extM I (λi e j c=>?_) (λi D e F k j f p q t u=>?_),I⟩;rcases Iu d j with⟨y,a⟩|⟨rfl,rfl⟩;refine .inl ⟨a,rfl,rfl,rfl,λk z=>O k λe=>?_⟩;subst e;exact y (s.inj i N _ _ k a g c b z m);exact .inr ⟨v,x⟩;rcases Iu d j with⟨y,a⟩|⟨rfl,rfl⟩<;>rcases Iu d f with⟨L,l⟩|⟨rfl,rfl⟩;exact s.inj i D e F k a l p q t u;exact s.inj i D e E k a g p b t u;exact s.inj i D E F k g l b q t u;rfl
end
def g8{k:IntKind}{n:Int}: ∀(l:List MapEntry) (a:List (Int×AV)) (i:Nat),l.length=a.length→(∀(j:Nat) (p:Int×AV),a[j]? =some p→ ∃e:MapEntry,l[j]? =some e∧e.key= .int k p.1)→
  (Instr.findNow (.int k) (.int k n) l i=some none/\Pk n a=none/\ ∀v,TG n v a=a++[(n,v)])\/∃j e p,Instr.findNow (.int k) (.int k n) l i=some (some (i+j,e.val))/\l[j]? =some e/\a[j]? =some p/\e.key= .int k n/\Pk n a=some p.2/\ ∀v,TG n v a=a.set j (n,v)
 |[],[],_,_,_=>.inl ⟨rfl,rfl,λ_=>rfl⟩
 |[],_::_,_,hl,_=>by simp at hl
 |_::_,[],_,hl,_=>by simp at hl
 |e::l,p::a,i,hl,h=>by
  obtain⟨z,o,r⟩:=h 0 p rfl;simp only[Yu,Ai]at o;subst o;have m:Instr.sameNow (.int k) (.int k n) e.key=some (n==p.1):=by rw[r];simp[Instr.sameNow]
  by_cases hn:p.1=n;refine .inr ⟨0,e,p,?_,rfl,rfl,by rw[r,hn],?_,λv=>?_⟩;simp[Instr.findNow,m,hn];simp[Pk,hn];simp[TG,hn];have c:(n==p.1)=false:=by simp;exact λe=>hn e.symm
  have b:(p.1==n)=false:=by simpa using hn
  rcases g8 (k:=k) (n:=n) l a (i+1) (by simpa using hl) (λj q x=>by simpa using h (j+1) q (by simpa using x))with⟨d,f,g⟩|⟨j,s,y,d,f,g,t,u,w⟩;exact .inl ⟨by simp[Instr.findNow,m,c,d],by simp[Pk,b,f],λv=>by simp[TG,b,g]⟩;exact .inr ⟨j+1,s,y,by simp[Instr.findNow,m,c,d];omega,by simpa using f,by simpa using g,t,by simp[Pk,b,u],λv=>by simp[TG,b,w]⟩
section
variable {P:Program} {N:Nat} {o:Oper} {env:Env} {H:Ap} {K:AV->Ap->Prop}
def Iv.makeMap(k:IntKind)(c:o.op= .makeMap a none)(e:K (.mp H.length) (H++[.mp k []])):Iv P N o env H K:=by
 apply Co (by rw[c];rfl);intro X h t w s Q;have b:(execOp t.eval o).run P w= .ok (.value (.map (some w.heap.size))) {w with heap:=w.heap.push (.map #[] 0)}:=by unfold execOp;rw[c];rfl
 unfold Oper.wp;rw[b,Oper.upon_value];refine⟨_,_,_,_,rfl,e,?_,s.sim.push_m (.map #[] 0) 0 (.mp k []) rfl ⟨w.heap.size, #[],by simp[Gh.at_],by simp[Gh.at_],by simp,rfl,λj p d=>by simp at d⟩,G2.push _ _ _⟩;exact .mp (by simp[cx]) rfl λ_=>⟨w.heap.size,by simp[cx,Gh.at_],rfl⟩
def zH(s:St A h N env H M w)(u:BC env c= .mp n)(r:H[n]? =some (.mp z J)):
  ∃(B:Nat) (b:Array MapEntry),M.eval c= .map (some B)/\h.io n=some B/\h.gen n=0/\w.heap[B]? =some (.map b b.size)/\b.size=J.length/\∀(j:Nat) (p:Int×AV),J[j]? =some p-> ∃e:MapEntry,b[j]? =some e/\e.born=j/\e.key= .int z p.1/\ ∀c,BZ c p.2 e.val:=by
 have g:=Cz s.env c;rw[u]at g;obtain⟨B,b,i,l,m,a,o⟩:=s.sim.bld n _ r rfl;generalize M.eval c=X at g;cases g with
 |mp t y q=>obtain⟨v,d,rfl⟩:=q l;rw[show(cx A h H w).io n=h.io n from rfl,i]at d;injection d with d;subst d;exact⟨B,b,rfl,i,l,m,a,o⟩
def yx(s:St X h N env H M w)(d:BC env c= .int z F):M.eval c= .int z F:=by have b:=Cz s.env c;rw[d]at b;generalize M.eval c=a at b;cases b;rfl
theorem Iv.mapUpdate{t U et:TypeId}{m I A:Operand}{id:Nat}{k:IntKind}{es:List (Int×AV)}{n:Int}{v:AV}(S:o.op= .mapUpdate t m I A)(hm:BC env m= .mp id)(G:BC env I= .int k n)
  (hp: ∀(x:Cx) (c:Value),BZ x (BC env A) c-> ∀y,BZ y v c) (T:P.underlying t=some (.map U et)) (l:P.underlying U=some (.int k)) (E:H[id]? =some (.mp k es)) (R:K .any (H.set id (.mp k (TG n v es)))):Iv P N o env H K:=by
 apply Co (by rw[S];rfl);intro X h a w s Q;obtain⟨B,b,q1,q2,q3,q4,q5,q6⟩:=zH s hm E;have V:=yx s G;have W:=hp _ _ (Cz s.env A);generalize u:a.eval A=c at W;have al:id<H.length:=by grind
 have f:IsKey (.int k) (.int k n):=rfl;have q:B<w.heap.size:=(iR.1 q4).1;have z:execOp a.eval o=(do Instr.mapUpdate t (a.eval m) (a.eval I) (a.eval A);pure .skip):=by unfold execOp;rw[S]
 rcases g8 (n:=n) (k:=k) b.toList es 0 (by grind) (λj p d=>by obtain⟨e,Z,_,C,_⟩:=q6 j p d;exact⟨e,by grind,C⟩)with⟨D,M,O⟩|⟨j,Y,p0,D,M,O,h4,h5,h6⟩;have g:(execOp a.eval o).run P w= .ok .skip {w with heap:=w.heap.setIfInBounds B (.map (b.push {key:=.int k n,val:=c,born:=b.size}) (b.size+1))}:=by rw[z,q1,V,u];simp[Instr.mapUpdate,run_underlying T,MapKept.run_getObj_map q4,MapKept.run_checkKey l f,MapKept.run_findKey l D,MapKept.run_setObj_map _ q4]
 unfold Oper.wp;rw[g,Oper.upon_skip];obtain⟨J,L⟩:=s.sim.setM (E':=.mp k (TG n v es)) (o':=.map (b.push {key:=.int k n,val:=c,born:=b.size}) (b.size+1))
  (w':={w with heap:=w.heap.setIfInBounds B (.map (b.push {key:=.int k n,val:=c,born:=b.size}) (b.size+1))}) E rfl rfl q2 q4 (λr e=>by cases e) rfl rfl rfl rfl (by refine⟨B,b.push {key:=.int k n,val:=c,born:=b.size},q2,q3,by simp[q],by grind,λj p d=>?_⟩;rw[O]at d;rcases PJ j es.length with ar|rfl|ad;grind;rw[Cb (Ag _),G3]at d;simp only[Yu,Ai]at d;subst d;exact⟨{key:=.int k n,val:=c,born:=b.size},by grind,q5,rfl,W⟩;rw[Ck (by simp;omega)]at d;cases d)
 exact⟨_,_,_,_,rfl,R,.any _,J,L⟩;have d:b[j]? =some Y:=by simpa using M
 have ap:j<b.size:=(iR.1 d).1;have g:(execOp a.eval o).run P w= .ok .skip {w with heap:=w.heap.setIfInBounds B (.map (b.modify j λe=>{e with key:=.int k n,val:=c}) b.size)}:=by rw[z,q1,V,u];simp[Instr.mapUpdate,run_underlying T,MapKept.run_getObj_map q4,MapKept.run_checkKey l f,MapKept.run_findKey l D,d,h4,MapKept.run_keyThatStays f,MapKept.run_setObj_map _ q4]
 unfold Oper.wp;rw[g,Oper.upon_skip];obtain⟨J,L⟩:=s.sim.setM (E':=.mp k (TG n v es)) (o':=.map (b.modify j λe=>{e with key:=.int k n,val:=c}) b.size)
  (w':={w with heap:=w.heap.setIfInBounds B (.map (b.modify j λe=>{e with key:=.int k n,val:=c}) b.size)}) E rfl rfl q2 q4 (λr e=>by cases e) rfl rfl rfl rfl (by refine⟨B,b.modify j λe=>{e with key:=.int k n,val:=c},q2,q3,by simp[q],by grind,λi p F=>?_⟩;rw[h6,Yv]at F;split at F;grind;rename_i ao;obtain⟨e,Z,C⟩:=q6 i p F;exact⟨e,by grind,C⟩)
 exact⟨_,_,_,_,rfl,R,.any _,J,L⟩
def wT(P:Program)(t:TypeId):Option (List AV):=
 match (P.info? t).bind (·.zero)with
 |some (.agg cs)=>if cs.toList.all (·.oneCell')then some (cs.toList.map lS)else none
 |_=>none
theorem xk(h:wT P a=some i)(w:World): ∃v,(zeroValue a).run P w= .ok v w/\ ∀x,BZ x (.agg i) v:=by unfold wT at h;split at h;rename_i b t;split at h;rename_i c;obtain⟨z,d,t⟩:=Dv.1 t;refine⟨.agg b,by simp[zeroValue,typeInfo,d,t],λx=>?_⟩;have:=sP x (.agg b);grind[wu];cases h;cases h
theorem Iv.lookup{id:Nat}{k:IntKind}{es:List (Int×AV)}{n:Int}{z:List AV}(R:o.op= .lookup a c L true)(hm:BC env c= .mp id)(F:BC env L= .int k n)
  (S:P.underlying a=some (.map I W)) (f:P.underlying I=some (.int k)) (hz:wT P W=some z) (he:H[id]? =some (.mp k es))
  (hk:K (.tup [(Pk n es).getD (.agg z),.bool (Pk n es).isSome]) H):Iv P N o env H K:=by
 apply Co (by rw[R];rfl);intro X h U w s Q;obtain⟨B,l,q1,q2,q3,q4,q5,q6⟩:=zH s hm he;have m:=yx s F;have g:IsKey (.int k) (.int k n):=rfl;have x:execOp U.eval o=(do pure (.value (<-Instr.lookup a (U.eval c) (U.eval L) true))):=by unfold execOp;rw[R]
 have r: ∀(t:Value) (v:AV) (b:Bool),(execOp U.eval o).run P w= .ok (.value (.tuple #[t,.bool b])) w→BZ (cx X h H w) v t→K (.tup [v,.bool b]) H→
   Oper.wp P o U w (λY G=> ∃t v D A,Y=U.put o.dst t/\K v A/\BZ (cx X D A G) v t/\Ih X D A G/\G2 h H w D A G) Q:=by
  intro t v b y T hK;unfold Oper.wp;rw[y,Oper.upon_value];refine⟨_,_,h,H,rfl,hK,.tup (by simp) λj u d i O=>?_,s.sim,G2.refl _ _ _⟩;rcases j with _|_|j;grind;simp at i O;subst i O;exact .bool b;grind
 rcases g8 (n:=n) (k:=k) l.toList es 0 (by grind) (λj p i=>by obtain⟨e,q,_,C,_⟩:=q6 j p i;exact⟨e,by grind,C⟩)with⟨E,Z,M⟩|⟨j,J,V,E,Z,M,h4,h5,h6⟩;obtain⟨v,T,hr⟩:=xk hz w;refine r v (.agg z) false ?_ (hr _) (by grind);rw[x,q1,m];simp[Instr.lookup,run_underlying S,MapKept.run_getObj_map q4,MapKept.run_checkKey f g,MapKept.run_findKey f E,T];obtain⟨e',q,_,_,C⟩:=q6 j V M;have i:l[j]? =some J:=by grind
 rw[i]at q;injection q with q;subst q;refine r J.val V.2 true ?_ (C _) (by grind);rw[x,q1,m];simp[Instr.lookup,run_underlying S,MapKept.run_getObj_map q4,MapKept.run_checkKey f g,MapKept.run_findKey f E]
theorem Iv.range{id:Nat}{k:IntKind}{es:List (Int×AV)}(d:o.op= .range a c)(j:BC env c= .mp id)(l:P.underlying a=some (.map I W))(g:H[id]? =some (.mp k es))
  (i:K (.itp H.length id) (H++[.it es.length []])):Iv P N o env H K:=by
 apply Co (by rw[d];rfl);intro X h t w s Q;obtain⟨B,e,q1,q2,q3,q4,q5,q6⟩:=zH s j g;have n:id<H.length:=by grind
 have b:(execOp t.eval o).run P w= .ok (.value (.pointer (some ⟨w.heap.size,0,none⟩))) {w with heap:=w.heap.push (.mapIter (some B) es.length #[] es.length)}:=by unfold execOp;rw[d];simp only[q1];simp[Instr.range,run_underlying l,MapKept.run_getObj_map q4,newObj,q5];rfl
 unfold Oper.wp;rw[b,Oper.upon_value];refine⟨_,_,_,_,rfl,i,?_,s.sim.push_m (.mapIter (some B) es.length #[] es.length) B (.it es.length []) rfl ⟨w.heap.size,by simp[Gh.at_],by simp[Gh.at_],by simp[Gh.at_]⟩,G2.push _ _ _⟩;exact .itp (by simp[cx]) (by simp[cx];omega) rfl λ_=>⟨w.heap.size,by simp[cx,Gh.at_],rfl,λ_=>by simp[cx,Gh.at_,BR n,q2]⟩
def ABy{m:Nat}(s:St A h N env H M w)(F:BC env c= .itp U m)(D:H[U]? =some (.it n O))(C:H[m]? =some (.mp z J)):
  ∃(B f:Nat) (b:Array MapEntry),M.eval c= .pointer (some ⟨B,0,none⟩)/\h.io U=some B/\h.gen U=0/\w.heap[B]? =some (.mapIter (some f) n O.toArray n)/\h.cap U=f/\w.heap[f]? =some (.map b b.size)/\b.size=J.length/\∀(j:Nat) (p:Int×AV),J[j]? =some p-> ∃e:MapEntry,b[j]? =some e/\e.born=j/\e.key= .int z p.1/\ ∀c,BZ c p.2 e.val:=by
 have l:=Cz s.env c;rw[F]at l;obtain⟨B,o,q,r⟩:=s.sim.bld U _ D rfl;obtain⟨f,b,t,u,v,y,x⟩:=s.sim.bld m _ C rfl;generalize M.eval c=X at l;cases l with
 |itp E k I a=>obtain⟨G,g,rfl,d⟩:=a q;rw[show(cx A h H w).io U=h.io U from rfl,o]at g;injection g with g;subst g;have d:=d u;rw[show(cx A h H w).io m=h.io m from rfl,t]at d;injection d with d;have d:f=h.cap U:=d;subst d;exact⟨B,_,b,rfl,o,q,r,rfl,v,y,x⟩
theorem Iv.next{x:Operand}{id m:Nat}{k:IntKind}{es:List (Int×AV)}{seen:List Nat}(ho:o.op= .next x false)(hx:BC env x= .itp id m)(f:H[id]? =some (.it es.length seen))(he:H[m]? =some (.mp k es))
  (z:(∀j,j<es.length->j∈seen)->K (.tup [.bool false]) H)
  (C: ∀(j:Nat) (p:Int×AV),es[j]? =some p->j∉seen->K (.tup [.bool true,.int k p.1,p.2]) (H.set id (.it es.length (seen++[j])))):Iv P N o env H K:=by
 apply Co (by rw[ho];rfl);intro X h a w s Q;obtain⟨B,v,c,q1,q2,q3,q4,qc,q5,q6,q7⟩:=ABy s hx f he;have ap:execOp a.eval o=(do pure (.value (<-Instr.next (a.eval x) false o.type))):=by unfold execOp;rw[ho]
 have y: ∀(j:Nat) (e:MapEntry),c[j]? =some e->e.born=j/\j<es.length:=by
  intro j e q;have I:j<es.length:=by grind[Array.getElem?_eq_some_iff]
  obtain⟨e',E,T,_⟩:=q7 j _ (Aw I);rw[q]at E;injection E with E;subst E;exact⟨T,I⟩
 have t: ∀e∈c.toList,e.born<es.length:=λe A=>by grind[List.getElem?_of_mem]
 have M:w.heap[B]? =some (.mapIter (some v) es.length seen.toArray es.length):=q4;generalize V:Array.filter (λe:MapEntry=>!seen.toArray.contains e.born) c=L;have G: ∀e∈L.toList,e∈c.toList/\e.born∉seen:=λe A=>by rw[<-V]at A;simpa using A
 have E:L.filter (λx=>decide (x.born<es.length))=L:=Array.filter_eq_self.2 (λx hx=>by simpa using t x (G x (by simpa using hx)).1);have T:L.filter (λx=>decide (x.born>=es.length))= #[]:=by grind[Array.filter_eq_empty_iff]
 have D:(Instr.next (.pointer (some ⟨B,0,none⟩)) false o.type).run P w=((do
   let b:=(if L.isEmpty then #[none]else #[])++L.map some;match b[<-choose (.mapNext b.size)]? with
   |some (some e)=>
    setObj B (.mapIter (some v) es.length (seen.toArray.push e.born) c.size)
    pure (.tuple #[.bool true,e.key,e.val])
   |some none=>pure (.tuple #[.bool false])
   |none=>stuck "Next: no such candidate"):Sem Value).run P w:=by
  simp only[Instr.next,getObj,Sem.run_bind,Sem.run,M,q5,Result.andThen,next_test_false seen.toArray c es.length es.length t (Ag _),J5,if_false,V,E,T,Array.append_empty];rfl
 by_cases h0:L.size=0;have W:L= #[]:=Array.eq_empty_of_size_eq_zero h0;subst W;have g:(execOp a.eval o).run P w= .ok (.value (.tuple #[.bool false])) w:=by simp_all[Sem.run_bind,Sem.run,Question.forced]
 unfold Oper.wp;rw[g,Oper.upon_value];refine⟨_,_,h,H,rfl,z λj q=>?_,.tup (by simp) λi u d f n=>?_,s.sim,G2.refl _ _ _⟩;obtain⟨e,O,R,_⟩:=q7 j _ (Aw q);rcases Classical.em (j∈seen)with U|U;exact U;have:e∈(Array.filter (λe:MapEntry=>!seen.toArray.contains e.born) c).toList:=by have A:e∈c:=pA O;simp[A,R,U]
 rw[V]at this;simp at this;rcases i with _|i;simp at f n;subst f n;exact .bool false;simp at f;have ax:L.isEmpty=false:=by simp[Array.isEmpty,h0]
 obtain⟨i,l,ar,Y,Z,ad,al,ao⟩: ∃(i:Nat) (l:World),i<L.size/\l.heap=w.heap/\l.os=w.os/\l.output=w.output/\l.tape=w.tape/\(choose (Question.mapNext L.size)).run P w= .ok i l:=by by_cases hf:L.size<=1;exact⟨0,w,by omega,rfl,rfl,rfl,rfl,by simp[choose,Sem.run,Question.forced,hf]⟩;exact⟨_,w.drew,Nat.mod_lt _ (by omega),rfl,rfl,rfl,rfl,by simp only[choose,Sem.run,Question.forced,decide_eq_true_eq,hf,if_false,Question.cut];rfl⟩
 have A:L[i]∈L.toList:=by simp
 obtain⟨m1,m2⟩:=G _ A;obtain⟨j,q⟩:=EV m1;have q:c[j]? =some L[i]:=by simpa using q
 obtain⟨O,R⟩:=y j _ q;obtain⟨e,S,c2,c3,c4⟩:=q7 j _ (Aw R);rw[q]at S;injection S with S;subst S;have F:B<w.heap.size:=(iR.1 q4).1;have g:(execOp a.eval o).run P w= .ok (.value (.tuple #[.bool true,.int k es[j].1,L[i].val])) {l with heap:=w.heap.setIfInBounds B (.mapIter (some v) es.length (seen++[j]).toArray es.length)}:=by
  rw[ap,q1,Sem.run_bind,D];simp only[ax,J5,if_false,Array.empty_append,Array.size_map,Sem.run_bind,ao,Result.andThen_ok,Vq,OP ar,Bf];have J:(setObj B (.mapIter (some v) es.length (seen.toArray.push L[i].born) c.size)).run P l= .ok () {l with heap:=w.heap.setIfInBounds B (.mapIter (some v) es.length (seen++[j]).toArray es.length)}:=by simp[setObj,Sem.run,Y,M,O,q6]
  simp only[J,Result.andThen_ok,Sem.run_pure,c3]
 unfold Oper.wp;rw[g,Oper.upon_value];obtain⟨s1,s2⟩:=s.sim.setM (E':=.it es.length (seen++[j])) (o':=.mapIter (some v) es.length (seen++[j]).toArray es.length) (w':={l with heap:=w.heap.setIfInBounds B (.mapIter (some v) es.length (seen++[j]).toArray es.length)}) f rfl rfl q2 q4 (λr e=>by cases e) rfl Z al ad
  ⟨B,q2,q3,by simp[F,qc]⟩
 refine⟨_,_,_,_,rfl,C j _ (Aw R) (by rw[<-O];exact m2),.tup (by simp) λi u d f n=>?_,s1,s2⟩;rcases i with _|_|_|i;simp at f n;subst f n;exact .bool true;simp at f n;subst f n;exact .int _ _;simp at f n;subst f n;exact c4 _;simp at f
theorem Iv.entry{x:Operand}{id m j:Nat}{k:IntKind}{es:List (Int×AV)}{seen:List Nat}{p:Int×AV}(l:o.op= .entry x)(A:BC env x= .itp id m)(f:H[id]? =some (.it es.length (seen++[j])))(r:H[m]? =some (.mp k es))
  (v:es[j]? =some p) (y:K (.tup [.int k p.1,p.2]) H):Iv P N o env H K:=by
 apply Co (by rw[l];rfl);intro X h a w s Q;obtain⟨B,C,b,q1,q2,q3,q4,J,q5,q6,q7⟩:=ABy s A f r;obtain⟨e,D,n,q,E⟩:=q7 j p v;have t:b.find? (λx=>x.born==j)=some e:=by
  rw[<-Array.find?_toList,<-n];refine find_born e b.toList ?_ (by grind);have I:b.toList.map (·.born)=List.range b.size:=by refine IY λi=>?_;rw[CC,Od];rcases Ao i b.size with z|z;obtain⟨e,F,G,_⟩:=q7 i _ (Aw (by omega:i<es.length));grind;grind
  grind
 have c:(execOp a.eval o).run P w= .ok (.value (.tuple #[.int k p.1,e.val])) w:=by unfold execOp;rw[l];simp only[q1];simp[Instr.entry,getObj,Sem.run,q4,q5,q6,t,q]
 unfold Oper.wp;rw[c,Oper.upon_value];refine⟨_,_,h,H,rfl,y,.tup (by simp) λi u d f g=>?_,s.sim,G2.refl _ _ _⟩;rcases i with _|_|i;simp at f g;subst f g;exact .int _ _;grind;grind
end
mutual
def Ty.flat:Ty->Bool
 | .list _=>false
 | .arr _ t=>t.flat
 | .prod ts=>ts.flat
 |_=>true
def QX.flat:QX->Bool
 | .one t=>t.flat
 | .cons t ts=>t.flat&&ts.flat
end
def Plain(v:AV):Prop:= ∀(x:Cx) (c:Value),BZ x v c-> ∀y,BZ y v c
theorem Plain.agg{a:List AV}(h: ∀v∈a,Plain v):Plain (.agg a):=λx c r y=>by
 cases r with
 |agg e f i=>exact .agg e f λj v d b g=>h v (BL b) x d (i j v d b g) y
mutual
theorem Ty.plain_cells: ∀(t:Ty),t.flat=true-> ∀x:t.D,∀v∈(t.enc x).cells,Plain v
 | .bool,_,b,v,d=>by simp only[Ty.enc,AV.cells,BE]at d;subst d;exact λ_ c r y=>by cases r;exact .bool _
 | .int k,_,n,v,d=>by simp only[Ty.enc,AV.cells,BE]at d;subst d;exact λ_ c r y=>by cases r;exact .int _ _
 | .str,_,s,v,d=>by
  simp only[Ty.enc,AV.cells,BE]at d;subst d;exact λ_ c r y=>by
   cases r with
   |str t e=>exact .str t e
 | .list t,h,_,_,_=>by cases h
 | .arr n t,h,a,v,d=>by simp only[Ty.enc,AV.cells,HS]at d;obtain⟨i,_,d⟩:=d;exact t.plain_cells h _ v d
 | .prod ts,h,x,v,d=>ts.plain_cells h x v d
theorem QX.plain_cells: ∀(b:QX),b.flat=true-> ∀x:b.D,∀v∈b.cells x,Plain v
 | .one t,h,x,v,a=>t.plain_cells h x v a
 | .cons t b,h,x,v,a=>by simp only[QX.flat,BN]at h;simp only[QX.cells,At]at a;rcases a with a|a;exact t.plain_cells h.1 _ v a;exact b.plain_cells h.2 _ v a
end
theorem Ty.plain(t:Ty)(h:t.flat=true)(x:t.D):Plain (t.enc x):=by have a:=t.plain_cells h x;cases t<;>grind[Plain.agg,Ty.enc,AV.cells]
section
variable {R:Type}
def nu(P:Program)(H:Am)(t:TypeId)(k:TV->Am->Option R):Option R:=
 match P.underlying t with
 |some (.map kt et)=>
  match P.underlying kt,vN P 1000 et with
  |some (.int kk),some ty=>k (.c (.raw (.mp H.length))) (H++[.mp false kk ty []])
  |_,_=>none
 |_=>none
def iC(P:Program)(H:Am)(t:TypeId)(m kx v:TV)(k:TV->Am->Option R):Option R:=
 match P.underlying t with
 |some (.map kt _)=>
  match m,kx with
  | .c (.raw (.mp id)),.c (.it kk n)=>
   match P.underlying kt,H[id]? with
   |some (.int k1),some (.mp false k2 ty es)=>
    if k1=kk/\k2=kk then
     match ty.flat with
     |true=>match ty.data v with|some x=>k RE (H.set id (.mp false k2 ty (TG n x es)))|none=>none
     |false=>none
    else none
   |_,_=>none
  |_,_=>none
 |_=>none
def qz(P:Program)(H:Am)(t:TypeId)(m kx:TV)(k:TV->Am->Option R):Option R:=
 match P.underlying t with
 |some (.map kt et)=>
  match m,kx with
  | .c (.raw (.mp id)),.c (.it kk n)=>
   match P.underlying kt,H[id]?,wT P et with
   |some (.int k1),some (.mp _ k2 ty es),some z=>
    if k1=kk/\k2=kk then
     match ty.isAgg&&AV.beqL z (ty.enc ty.zero).cells with
     |true=>k (.tup [ty.tv ((Pk n es).getD ty.zero),.c (.bl (Pk n es).isSome)]) H
     |false=>none
    else none
   |_,_,_=>none
  |_,_=>none
 |_=>none
variable {P:Program} {N:Nat} {o:Oper} {env:BQ} {H:Am} {k:TV->Am->Option R} {r:R}
theorem nv(ok:Oc env H)(b:o.op= .makeMap a none)(h:nu P H a k=some r): ∀F,jl P N o env H F k r:=by intro F;unfold nu at h;split at h;split at h;rename_i t c _ _;have st:Bx H (H++[.mp false t c []]):=Bx.push H _;refine⟨_,_,Iv.makeMap t b ⟨?_,?_⟩,h,JU trivial,Ob ok.heap trivial,st,Frame.push F H _⟩;show AV.mp (A7 H).length=AV.mp H.length;rw[CO];rw[Ps];rfl;cases h;cases h
def km{u:Operand}(ok:Oc env H)(E:o.op= .mapUpdate a c L u)(h:iC P H a (Ib env c) (Ib env L) (Ib env u) k=some r):jl P N o env H (List.range H.length) k r:=by
 have b:=JD env;unfold iC at h;split at h;rename_i K I F;split at h;rename_i id J n D C;split at h;rename_i k1 q t d g i;split at h;rename_i f;obtain⟨w,A⟩:=f;subst w A;split at h;rename_i e;split at h;rename_i x G;have st:Bx H (H.set id (.mp false q t (TG n x d))):=Bx.set i rfl λ_ _ _ _ _ h=>by cases h
 refine⟨RE,_,Iv.mapUpdate (id:=id) (k:=q) (n:=n) (v:=t.enc x) (es:=d.map λp=>(p.1,t.enc p.2)) E (by rw[b,D];rfl) (by rw[b,C];rfl) (λy m l z=>?_) F g (by rw[FF,i];rfl) ⟨rfl,?_⟩,h,cH,S5 st ok.heap trivial,st,λj B hn=>(hn (IX.2 B)).elim⟩;rw[b]at l;exact t.plain e x y m (Lf G y m l) z;rw[M9,<-tK];rfl;cases h;cases h;cases h;cases h;cases h;cases h
theorem oz(ok:Oc env H)(y:o.op= .lookup a c L true)(h:qz P H a (Ib env c) (Ib env L) k=some r): ∀F,jl P N o env H F k r:=by
 intro F;have g:=JD env;unfold qz at h;split at h;rename_i G D A;split at h;rename_i id E n w u;split at h;rename_i k1 ro C j b z e s B;split at h;rename_i d;obtain⟨l,q⟩:=d;subst l q;split at h;rename_i m;simp at m;have f:=aQ _ _ m.2;refine⟨_,H,Iv.lookup (id:=id) (k:=C) (n:=n) (z:=z) (es:=b.map λp=>(p.1,j.enc p.2)) y (by rw[g,w];rfl) (by rw[g,u];rfl) A e B (by rw[FF,s];rfl) ⟨?_,rfl⟩,h,Pw λv t=>?_,ok.heap,Bx.refl H,Frame.refl F H⟩;rw[tH];show _=AV.tup [(j.tv _).enc,_];rw[Ty.tv_enc];cases Pk n b with
 |none=>rw[f];rw[<-Ty.agg_enc m.1];rfl
 |some x=>rfl
 rcases A1.1 t with rfl|t;exact Ty.tv_ok _ _;simp at t;subst t;exact JU trivial;cases h;cases h;cases h;cases h;cases h
end
inductive Tgt where
 |fn (F:FuncId)
 |yd (id:Nat)
abbrev Pz:= ∀{R:Type},Tgt->List TV->Am->(TV->Am->Option R)->Option R
def bm(ops:Array Oper)(g:Option (Nat×Bool))(env:BQ):Option Bool:=
 match g with
 |none=>some true
 |some (j,want)=>
  match (ops[j]?).bind (·.dst)with
  |some d=>match env.get d with| .c (.bl b)=>some (b==want)| .tup []=>some false|_=>none
  |none=>none
def Kb:List Bc->List Nat
 |[]=>[]
 | .own id _ _ _::r=>id::Kb r
 |_::r=>Kb r
def behind(H:Am)(v:TV):List Nat:=
 match v with
 | .c (.raw (.ptr id 0 0))=>match H[id]? with|some (.live false cs)=>Kb cs|_=>[]
 |v=>Kb v.refs
def G4:List Nat->BQ->Am->BQ×Am
 |[],env,H=>(env,H)
 |id::r,env,H=>match frz id env H with|some (e,h)=>G4 r e h|none=>G4 r env H
def lV:List QY->FuncId->Option QY
 |[],_=>none
 |c::r,F=>match Nat.beq c.f F with|true=>some c|false=>lV r F
def fL(env:BQ)(op:Op):Option (FuncId×List TV):=
 match op with
 | .call c=>
  match c.callee with
  | .value f=>match Ib env f with| .c (.raw (.fn (.func F) first caps))=>some (F,first.map xo++c.args.toList.map (Ib env)++caps.map xo)|_=>none
  |_=>none
 |_=>none
def oX(env:BQ)(c:Call):Option (Nat×List TV):=
 match c.callee with
 | .value f=>match Ib env f with| .c (.raw (.yf id))=>some (id,c.args.toList.map (Ib env))|_=>none
 |_=>none
def gS(cs:List QY)(env:BQ)(H:Am)(op:Op):List Nat:=
 match op with
 | .call c=>
  match fL env (.call c)with
  |some (F,vs)=>match lV cs F with|some ct=>(AEY ct vs).flatMap (behind H)|none=>[]
  |none=>[]
 | .buildSlice _ _ parts=>parts.toList.flatMap λp=>Kb (Ib env p.2).refs
 | .store _ a v=>match Ib env a with| .aptr .. =>Kb (Ib env v).refs| .bptr .. =>Kb (Ib env v).refs|_=>[]
 | .slice _ x _ _ _=>Kb (Ib env x).refs
 |_=>[]
def UG(H H':Am):Am:=H++H'.drop H.length
def isNil:List R->Bool
 |[]=>true
 |_=>false
section
variable {R:Type}
def qj(cs:List QY)(env:BQ)(H:Am)(op:Op):List Nat:=
 match op with
 | .store _ a _=>idT (Ib env a)
 | .mapUpdate .. =>List.range H.length
 | .call c=>
  match fL env (.call c)with
  |some (F,vs)=>match lV cs F with|some ct=>AAf ct vs|none=>(match isNil vs with|true=>[]|false=>List.range H.length)
  |none=>
   match oX env c with
   |some _=>List.range H.length
   |none=>match c with|{callee:=.builtin .append,args:=⟨[s,_]⟩,.. }=>idT (Ib env s)|_=>[]
 |_=>[]
def sU(P:Program)(cs:List QY)(call:Pz)(env:BQ)(H:Am)(op:Op)(k:TV->Am->Option R):Option R:=
 match op with
 | .alloc t=>uH P H t k
 | .box _ x=>AAT H (Ib env x) k
 | .store t a v=>storeT P H t (Ib env a) (Ib env v) k
 | .buildSlice t len parts=>XK P env H t len parts k
 | .makeSlice t x y=>bv P H t (Ib env x) (Ib env y) k
 | .makeMap t none=>nu P H t k
 | .mapUpdate t m x y=>iC P H t (Ib env m) (Ib env x) (Ib env y) k
 | .lookup t m x true=>qz P H t (Ib env m) (Ib env x) k
 | .convert s d x=>
  match kd P d with
  | .bytes=>oV P H s d (Ib env x) k
  |_=>quT P env H (.convert s d x) λv=>k v H
 | .call c=>
  match fL env (.call c)with
  |some (F,vs)=>
   match Enters P F with
   |true=>
    match lV cs F with
    |some ct=>vc ct vs H k
    |none=>match isNil vs with|true=>call (.fn F) [] (H.map Dp.lock) λv H'=>k v (UG H H')|false=>call (.fn F) vs H k
   |false=>none
  |none=>
   match oX env c with
   |some (id,vs)=>call (.yd id) vs H k
   |none=>
    match c with
    |{callee:=.builtin .append,args:=⟨[s,x]⟩,argTypes:=⟨[t,t']⟩}=>match Nat.beq t t' with|true=>mJ P H t (Ib env s) (Ib env x) k|false=>none
    |c=>quT P env H (.call c) λv=>k v H
 |op=>quT P env H op λv=>k v H
def force(f:Bool)(v:TV)(k:TV->Option R):Option R:=
 match f with
 |true=>match v with| .c (.bl b)=>cond b (k (.c (.bl true))) (k (.c (.bl false)))|v=>k v
 |false=>k v
def guards(ops:Array Oper):List Nat:=ops.toList.filterMap λo=>o.guard.map (·.1)
def Ni(j:Nat):List Nat->Bool
 |[]=>false
 |i::r=>match Nat.beq i j with|true=>true|false=>Ni j r
def ACn{α:Type}(l:List α)(i:Int)(z:α):Option (List α):=if 0<=i/\i<=(l.length:Int)then some (l.take i.toNat++List.replicate (l.length-i.toNat) z)else none
def vf(o1 o2:Oper):Option (Nat×TypeId×Operand×Operand):=
 match o1.dst,o1.op,o1.guard,o2.dst,o2.op,o2.guard with
 |some d,.slice t x (some lo) none none,none,none,.call {callee:=.builtin .clear,args:=⟨[.tmp d']⟩,argTypes:=⟨[t']⟩},none=>match Nat.beq d d'&&Nat.beq t t' with|true=>some (d,t,x,lo)|false=>none
 |_,_,_,_,_,_=>none
def ACc(P:Program)(H:Am)(t:TypeId)(x lo:TV)(k:Am->Option R):Option R:=
 match x,lo with
 | .c (.own id ver _ _),.c (.it _ i)=>
  match H[id]? with
  |some (.buf false t2 l n2 ver2)=>
   match Nat.beq ver ver2,elT P t,eI P t with
   |true,some te,some (none,e,_)=>
    if h:(Ty.list t2).beq (Ty.list te)=true then
     match oY P e with
     |some z=>match te.all z with|some zd=>(ACn (α:=te.D) (Ty.cast h l) i zd).bind λl'=>k (H.set id (.buf false te l' n2 ver2))|none=>none
     |none=>none
    else none
   |_,_,_=>none
  |_=>none
 |_,_=>none
def AAb(o:Oper):List Oper->Option (Nat×TypeId×Operand×Operand)
 |o2::_=>vf o o2
 |[]=>none
def oN(P:Program)(cs:List QY)(call:Pz)(ops:Array Oper)(gs:List Nat)(sk:Bool):List Oper->Nat->BQ->Am->(BQ->Am->Option R)->Option R
 |[],_,env,H,k=>k env H
 |o::r,j,env,H,k=>
  match sk with
  |true=>oN P cs call ops gs false r (j+1) env H k
  |false=>
   match AAb o r with
   |some (d,t,x,lo)=>ACc P H t (Ib env x) (Ib env lo) λH'=>oN P cs call ops gs true r (j+1) (env.put d RE) H' k
   |none=>
    match bm ops o.guard env with
    |some true=>
     match G4 (gS cs env H o.op) env H with
     |(env1,H1)=>sU P cs call env1 H1 o.op λv H'=>force (Ni j gs) v λv'=>oN P cs call ops gs false r (j+1) (env1.putO o.dst v') H' k
    |some false=>oN P cs call ops gs false r (j+1) (env.putO o.dst (.tup [])) H k
    |none=>none
end
def jP(H:Am)(v:TV):Prop:= ∀id ver t n,Bc.own id ver t n∈v.refs-> ∀t' l n' ver',H[id]? ≠some (.buf false t' l n' ver')
structure FB(A:List Nat)(env:BQ)(H:Am)(env':BQ)(H':Am):Prop where
 step:Bx H H'
 same: ∀t,t∉A->jP H (env.get t)->env'.get t=env.get t
def jP.step(h:Bx G b)(d:e.ok G)(k:jP G e):jP b e:=by intro id a t n c;have hr:=d (.own id a t n) c;exact h.nb id hr.1 (k id a t n c)
theorem FB.refl(A:List Nat)(env:BQ)(H:Am):FB A env H env H:=⟨Bx.refl H,λ_ _ _=>rfl⟩
def FB.trans{A B:List Nat}{d g i:BQ}{c e f:Am}(ok: ∀p∈d,p.2.ok c)(a:FB A d c g e)(b:FB B g e i f):FB (A++B) d c i f:=by refine⟨a.step.trans b.step,λt l k=>?_⟩;have j:=a.same t (λh=>l (HQ _ h)) k;rw[b.same t (λh=>l (PG _ h)) (by rw[j];exact k.step a.step (ka ok t)),j]
def FB.mono{B:List Nat}(a:FB O g b Y G)(h: ∀t,t∈O->t∈B):FB B g b Y G:=⟨a.step,λt A f=>a.same t (λq=>A (h t q)) f⟩
def qq{t u:Nat}(h:u≠t): ∀env:BQ,(BQ.del t env).get u=env.get u
 |[]=>rfl
 |(k,v)::r=>by simp only[BQ.del];by_cases a:k=t;subst a;rw[JT];simp only[BQ.get,beq_false (Ne.symm h)];exact qq h r;rw[beq_false a];simp only[BQ.get];rw[qq h r]
def jg(h:n≠N):(g.put N e).get n=g.get n:=by simp_all[BQ.put,BQ.get,beq_false,Ne.symm,qq]
theorem rA{p:Nat×TV}{t:Nat}: ∀{env:BQ},p∈BQ.del t env->p∈env
 |(k,v)::r,h=>by simp only[BQ.del]at h;split at h;exact CN _ (rA h);rcases A1.1 h with rfl|h;simp;exact CN _ (rA h)
theorem Yk{d:Option Nat}(h: ∀p∈g,p.2.ok b)(H:e.ok b): ∀p∈g.putO d e,p.2.ok b:=by
 cases d with
 |none=>exact h
 |some t=>intro p a;rcases A1.1 a with rfl|a;exact H;grind[rA]
def jF{l:List t.D}(g:b[N]? =some (.buf false t l n U))(j: ∀a f e d,u= .own a f e d-> ∀i l2 h c,b[a]? ≠some (.buf false i l2 h c)):Mp N U t l u=u:=by
 cases u with
 |own a f e d=>simp only[Mp];split<;>simp_all
 |_=>rfl
mutual
theorem nS{H:Am}{id n k:Nat}{t:Ty}{l:List t.D}(d:H[id]? =some (.buf false t l n k)): ∀{v:TV},jP H v->jG id k t l v=v
 | .c z,h=>by simp only[jG];rw[jF d λa j i f e=>h a j i f (by simp[TV.refs,e])]
 | .g b,h=>by
  simp only[jG,TV.g.injEq];have: ∀b:List Bc,(∀a j i f,Bc.own a j i f∈b-> ∀s l2 q m,H[a]? ≠some (.buf false s l2 q m))->b.map (Mp id k t l)=b:=by
   intro b;induction b with
   |nil=>intro _;rfl
   |cons z r p=>intro h;rw[Be,p λa j i f o=>h a j i f (by simp[o]),jF d λa j i f e=>h a j i f (by simp[e])]
  exact this b h
 | .tup vs,h=>by simp only[jG];rw[lX d (vs:=vs) h]
 | .aptr ..,_=>rfl
 | .bptr ..,_=>rfl
 | .vptr ..,_=>rfl
theorem lX{H:Am}{id n c:Nat}{t:Ty}{l:List t.D}(b:H[id]? =some (.buf false t l n c)): ∀{vs:List TV},jP H (.tup vs)->bK id c t l vs=vs
 |[],_=>rfl
 |v::r,h=>by simp only[bK];rw[nS b (v:=v) λa g f e d=>h a g f e (by simp only[TV.refs,TV.refsL,At];exact .inl d),lX b (vs:=r) λa g f e d=>h a g f e (by simp only[TV.refs,TV.refsL,At]at d⊢;exact .inr d)]
end
def vu{f:TV->TV}(a:f RE=RE)(t:Nat): ∀env:BQ,BQ.get (env.map λp=>(p.1,f p.2)) t=f (env.get t)
 |[]=>a.symm
 |(k,v)::r=>by simp only[Be,BQ.get];split;rfl;exact vu a t r
def yq(h:frz N g b=some (Y,G))(t:Nat)(d:jP b (g.get t)):Y.get t=g.get t:=by unfold frz at h;split at h;rename_i e l n H a;obtain⟨rfl,rfl⟩:=h;rw[vu (f:=jG N H e l) rfl];exact nS a d;cases h
def Oh: ∀(a:List Nat) {env:BQ} {H:Am},Oc env H→Oc (G4 a env H).1 (G4 a env H).2∧FB [] env H (G4 a env H).1 (G4 a env H).2∧
  ∀N,Fs N (A7 H).length (Bw env) (A7 H) (Bw (G4 a env H).1) (A7 (G4 a env H).2)
 |[],env,H,ok=>⟨ok,FB.refl _ _ _,λN=>Fs.refl N _ _⟩
 |id::r,env,H,ok=>by simp only[G4];split;rename_i e h b;obtain⟨f,c,j⟩:=ACi ok b;obtain⟨g,i,k⟩:=Oh r f;refine⟨g,(FB.trans (A:=[]) (B:=[]) ok.env ⟨c,λt _ d=>yq b t d⟩ i),λN=>(j N).trans ((k N).of_le (by rw[CO,CO];exact c.len))⟩;exact Oh r ok
section
variable {P:Program} {N:Nat} {R:Type}
def vV(P:Program)(args:List AV)(H:Ap)(v:AV)(H':Ap):Tgt->Prop
 | .fn F=>EQ P F args H (Cr v H')
 | .yd id=> ∀(N:Nat) (o:Oper) (c:Call) (f:Operand) (env:Env),o.op= .call c->c.callee= .value f->BC env f= .yf id->c.args.toList.map (BC env)=args->Iv P N o env H (Cr v H')
def T6(P:Program)(call:Pz):Prop:= ∀{R:Type} tg vs H (k:TV->Am->Option R) r,(∀v∈vs,v.ok H)->(∀e∈H,e.ok H)->call tg vs H k=some r->
 ∃v H',vV P (vs.map TV.enc) (A7 H) v.enc (A7 H') tg/\k v H'=some r/\v.ok H'/\(∀e∈H',e.ok H')/\Bx H H'
theorem eE(h:bm j q g=some true){B:Prop}(a:V):Vg j q (Bw g) V B:=by unfold bm at h;grind[Vg,US,Sg,TV.enc,Bc.one]
theorem jO(h:bm j q g=some false){B:Prop}(b:B):Vg j q (Bw g) V B:=by unfold bm at h;unfold Vg;split at h;cases h;rename_i a c;unfold US;split at h;rename_i d f;simp only[f,Sg];split at h;grind[TV.enc,Bc.one];rename_i e;simp[e];exact b;cases h;cases h
theorem qv(e: ∀d b,g.get d= .c (.bl b)->Y.get d= .c (.bl b))(h:bm j q g=some true):bm j q Y=some true:=by cases q<;>grind[bm]
theorem gz: ∀{a:List QY} {F:FuncId} {c:QY},lV a F=some c->c∈a/\c.f=F
 |d::r,F,c,h=>by simp only[lV]at h;split at h;simp_all;obtain⟨b,e⟩:=gz h;grind
theorem qT{e:Op}(h:fL g e=some (S,m)):Go.Ab.callT (BC (Bw g)) e=some (.inl (S,m.map TV.enc))/\ ∀H,(∀p∈g,p.2.ok H)-> ∀v∈m,v.ok H:=by
 unfold fL at h;split at h;rename_i c;split at h;rename_i f d;split at h;rename_i G first a b
 simp at h;obtain⟨rfl,rfl⟩:=h;have j:BC (Bw g) f= .fn (.func G) first a:=by rw[JD,b];rfl
 have k: ∀l:List AV,(l.map xo).map TV.enc=l:=by
  intro l;conv=>rhs;rw[<-aG l]
  grind[List.map_congr_left,cI]
 refine⟨?_,λH F v i=>?_⟩;simp_all[Go.Ab.callT,JD];simp at i;grind[eS,YD];cases h;cases h;cases h
theorem tz{c:Call}(h:oX g c=some (N,m)):(∃f,c.callee= .value f/\BC (Bw g) f= .yf N/\c.args.toList.map (BC (Bw g))=m.map TV.enc)/\ ∀H,(∀p∈g,p.2.ok H)-> ∀v∈m,v.ok H:=by unfold oX at h;split at h;rename_i f a;split at h;rename_i i b;injection h with h;injection h with d e;subst d e;refine⟨⟨f,a,by rw[JD,b];rfl,?_⟩,λH j v k=>?_⟩;grind[List.map_congr_left,JD];grind[YD];cases h;cases h
def AC9{k:TV->Am->Option R}{r:R}(ok:Oc g b)(h:quT P g b o.op (λv=>k v b)=some r): ∀F,jl P N o g b F k r:=by intro F;obtain⟨v,a,H,c⟩:=qB ok h;exact⟨v,b,Db a ⟨rfl,rfl⟩,H,c,ok.heap,Bx.refl b,Frame.refl F b⟩
theorem ol(H:Am):A7 (H.map Dp.lock)=A7 H:=by grind[A7,List.map_congr_left,nr]
theorem tG(h: ∀e∈b,e.ok b): ∀e∈b.map Dp.lock,e.ok (b.map Dp.lock):=by
 have f: ∀id a t n,Tg b id a t n->Tg (b.map Dp.lock) id a t n:=λid a t n q=>by
  refine⟨by simpa using q.1,λro y l w k c=>?_⟩;rw[CC]at c;cases j:b[id]? with
  |none=>grind
  |some e=>
   rw[j]at c;simp at c;cases e<;>simp only[Dp.lock]at c<;>first|(cases c;done)|skip
   injection c with _ m v o p;subst m o p;exact q.2 _ _ _ _ _ j
 have d: ∀x:Bc,x.ok b->x.ok (b.map Dp.lock):=λx i=>by
  cases x with
  |own id a t n=>exact f _ _ _ _ i
  |_=>trivial
 intro e c;obtain⟨u,r,rfl⟩:=Br.1 c;have g:=h u r;cases u with
 |dead=>trivial
 |live H s=>exact λx i=>d x (g x i)
 |buf=>exact g
 |lp=>exact g
 |mp=>exact g
theorem yK(L: ∀e∈b,e.ok b)(st:Bx (b.map Dp.lock) G)(F: ∀e∈G,e.ok G):
  (∀v:TV,v.ok G->v.ok (UG b G))/\(∀e∈UG b G,e.ok (UG b G))/\Bx b (UG b G)/\ ∀x:Cx,SO x x (A7 G) (A7 (UG b G)):=by
 have K:b.length<=G.length:=by simpa using st.len
 have c:(UG b G).length=G.length:=by grind[UG,List.length_append,List.length_drop]
 have o: ∀j,j<b.length->(UG b G)[j]? =b[j]? :=λj p=>B6 p;have I: ∀j,b.length<=j->(UG b G)[j]? =G[j]? :=λj p=>by grind[UG]
 have keep: ∀(j:Nat) (e:Dp),b[j]? =some e->e≠ .dead->G[j]? =some e.lock:=λj e p a=>by apply st.ro j e.lock (by rw[CC,p];rfl);cases e<;>first|rfl|exact(a rfl).elim
 have A: ∀id f t n,Tg G id f t n->Tg (UG b G) id f t n:=λid f t n q=>by refine⟨by rw[c];exact q.1,λro P l O D d=>?_⟩;rcases Ao id b.length with h|h;rw[o id h]at d;exact q.2 _ _ _ _ _ (keep id _ d (by simp));rw[I id h]at d;exact q.2 _ _ _ _ _ d
 have k: ∀x:Bc,x.ok G->x.ok (UG b G):=λx C=>by
  cases x with
  |own id f t n=>exact A _ _ _ _ C
  |_=>trivial
 have B:Bx b (UG b G):=by refine⟨by rw[c];exact K,λid f t n q=>⟨by rw[c];exact C9 q.1 K,λro P l O D d=>?_⟩,λid e d _=>?_,λid w h=>by rw[o id w];exact h,λid w _ _ _ _ _ _ _ _ h=>by rw[o id w]at h;exact⟨_,_,h⟩⟩;rw[o id q.1]at d;exact q.2 _ _ _ _ _ d;grind
 refine⟨λv N x C=>k x (N x C),λe d=>?_,B,λx=>⟨by rw[CO,CO,c],λj Q p=>?_⟩⟩;rcases At.1 d with d|d;exact B.ent (L e d);have E:=F e (Vk d);cases e with
 |dead=>trivial
 |live H s=>exact λx C=>k x (E x C)
 |buf=>exact E
 |lp=>exact E
 |mp=>exact E
 rw[FF]at p;cases J:(UG b G)[j]? with
 |none=>grind
 |some y=>
  rw[J]at p;simp at p;subst p;have same:(A7 G)[j]? =some y.enc->y.enc= .dead\/(∃g s u,(A7 G)[j]? =some (.live g s)/\y.enc= .live g u/\u.length=s.length/\ ∀(i:Nat) (z:AV),u[i]? =some z-> ∃v,s[i]? =some v/\Conv x x v z)\/((A7 G)[j]? =some y.enc/\ ∀g s,y.enc≠ .live g s):=λh=>by
   cases y with
   |dead=>exact .inl rfl
   |live H s=>exact .inr (.inl ⟨_,_,_,h,rfl,rfl,λi z h=>⟨z,h,λ_ r=>r⟩⟩)
   |buf H t l m f=>exact .inr (.inl ⟨_,_,_,h,rfl,rfl,λi z h=>⟨z,h,λ_ r=>r⟩⟩)
   |lp=>exact .inr (.inr ⟨h,λ_ _ h=>by cases h⟩)
   |mp=>exact .inr (.inr ⟨h,λ_ _ h=>by cases h⟩)
  rcases Ao j b.length with h|h;rw[o j h]at J;by_cases M:y= .dead;subst M;exact .inl rfl;grind[FF,nr];grind[FF]
theorem lT{u:List QY}(y: ∀c∈u,c.Ok P){i:Pz}(l:T6 P i){k:TV->Am->Option R}{r:R}(ok:Oc g b)(h:sU P u i g b o.op k=some r):jl P N o g b (qj u g b o.op) k r:=by
 have s: ∀t,o.op=t->quT P g b t (λv=>k v b)=some r-> ∀F,jl P N o g b F k r:=λt e h=>AC9 ok (by grind);generalize a:o.op=t at h;unfold sU at h;split at h;exact qP ok a h;exact uM ok a h;exact rT ok a h;exact iW ok a h;exact kj ok a h;grind[nv];exact km ok a h;grind[oz];split at h;exact oW ok a h;grind;rename_i c;split at h;rename_i F q m;obtain⟨K,C⟩:=qT m;split at h;rename_i x;split at h;rename_i L n;obtain⟨M,O⟩:=gz n;obtain⟨v,d,q1,q2,q3,q4,q5,q6⟩:=sI (y L M) (C b ok.env) ok.heap h;rw[O]at q1;exact⟨v,d,jU (by grind) x q1,q2,q3,q4,q5,by simp only[qj,m,n];exact q6⟩;rename_i n;split at h;rename_i H;have A:q=[]:=by cases q<;>first|rfl|cases H
 subst A;obtain⟨v,d,q1,q2,q3,q4,q5⟩:=l (.fn F) [] (b.map Dp.lock) _ r (λv Q=>by cases Q) (tG ok.heap) h;obtain⟨E,G,I,J⟩:=yK ok.heap q5 q4;have B:EQ P F [] (A7 b) (Cr v.enc (A7 d)):=by grind[vV,ol]
 refine⟨v,UG b d,Iv.after (jU (by grind) x B) λX W w _=>?_,q2,E v q3,G,I,?_⟩;have hr:=(J (cx X W (A7 d) w)).onto;exact⟨hr,λc r=>r.later hr.later⟩;simp only[qj,m,n];exact λj p _=>B6 p;rename_i H;obtain⟨v,d,q1,q2,q3,q4,q5⟩:=l (.fn F) q b k r (C b ok.env) ok.heap h;have z:=H;exact⟨v,d,jU (by rw[a];exact K) x q1,q2,q3,q4,q5,by simp only[qj,m,n,z];exact λj p hn=>(hn (IX.2 p)).elim⟩;cases h;rename_i m;split at h;rename_i id q D;obtain⟨⟨f,S,T,U⟩,V⟩:=tz D;obtain⟨v,d,q1,q2,q3,q4,q5⟩:=l (.yd id) q b k r (V b ok.env) ok.heap h;exact⟨v,d,q1 N o c f (Bw g) a S T U,q2,q3,q4,q5,by simp only[qj,m,D];exact λj p hn=>(hn (IX.2 p)).elim⟩;grind[od,Nat.eq_of_beq_eq_true,qj];grind
theorem hY{k:TV->Option R}{r:R}(h:force D e k=some r):k e=some r:=by unfold force at h;grind
def iy(ops:List Oper):List Nat:=ops.filterMap (·.dst)
def nD{b:Oper}{d:Nat}(h:vf o b=some (d,a,L,c)):o.dst=some d/\o.op= .slice a L (some c) none none/\o.guard=none/\b.dst=none/\b.op= .call {callee:=.builtin .clear,args:= #[.tmp d],argTypes:= #[a]}/\b.guard=none:=by unfold vf at h;split at h;rename_i e f g i j k;split at h<;>simp_all;cases h
def pV{a:Ty}{z:List AV}{b:a.D}(h:DT z (a.enc b).cells): ∀n:Nat,DT (List.replicate n z).flatten (a.E.cl (List.replicate n b))
 |0=>DT.refl _
 |n+1=>by exact DT.append h (pV h n)
theorem uQ{o1 o2:Oper}{d:Nat}{t:TypeId}{x lo:Operand}{env:BQ}{H:Am}{k:Am→Option R}{r:R}(ok:Oc env H)(hc:vf o1 o2=some (d,t,x,lo))(h:ACc P H t (Ib env x) (Ib env lo) k=some r):
  ∃v G,Iv P N o1 (Bw env) (A7 H) (Cr v (A7 H))/\Iv P N o2 ((Bw env).put d v) (A7 H) (Cr (.tup []) (A7 G))/\k G=some r/\(∀e∈G,e.ok G)/\Bx H G:=by
 obtain⟨_,c2,_,c4,U,_⟩:=nD hc;unfold ACc at h;split at h;rename_i id c t0 n0 kk i hx Z;split at h;rename_i a l b ap y;split at h;rename_i te e ax hb al F;split at h;rename_i S;split at h;rename_i z hz;split at h;rename_i zd ao;obtain⟨w,o,h⟩:=Dv.1 h;have T:=C8 hb;subst T;have u:=Ty.beq_eq _ _ S;injection u with u;subst u;have B:(Ty.cast S l:List a.D)=l:=rfl;rw[B]at o;have hr:Tg H id c t0 n0:=by have:=YD ok.env x;rw[hx]at this;exact this (.own id c t0 n0) (by simp[TV.refs])
 obtain⟨_,q⟩:=hr.2 _ _ _ _ _ y;obtain⟨rfl,rfl⟩:=q rfl;have hn:b=l.length:=ok.heap _ (BL y);obtain⟨e',I,M⟩:=dh al;rw[I]at F;injection F with F;injection F with _ F;injection F with X Y;subst X Y;obtain⟨z1,z2⟩:=We hz;have p:=Fe ao;have C:(lvs z).length=a.sz:=by rw[<-p.1,a.enc_len]
 unfold ACn at o;split at o;rename_i hi;injection o with o;have O:Bx H (H.set id (.buf false a w b c)):=Bx.set y rfl λ_ _ _ _ _ e=>by grind
 have J:Dp.ok (H.set id (.buf false a w b c)) (.buf false a w b c):=by show b=w.length;grind
 have m:(A7 H)[id]? =some (.live b (a.E.cl l)):=by rw[FF,y];rfl
 have A:id<(A7 H).length:=by grind
 have ex:BC (Bw env) x= .sl id b a.sz 0 b:=by rw[JD,hx];rfl
 have el:BC (Bw env) lo= .int kk i:=by rw[JD,Z];rfl
 have W:Re (A7 H) id b=true:=by simp[Re,m]
 have s: ∀v,BC ((Bw env).put d v) (.tmp d)=v:=λv=>by simp[BC,Env.put,Env.get]
 have j:=a.E.clen l;have Q:a.E.sz=a.sz:=rfl;rw[Q]at j;have ad:CM P (Bw env) (A7 H) o1.op=some (if i.toNat=0 then .sl id b a.sz 0 b else if i.toNat=b then .vs a.sz []else .sl id b a.sz (0+i.toNat*a.sz) (b-i.toNat)):=by
  rw[c2];have b1:U4 0 (some (AV.int kk i))=some i.toNat:=by grind[U4,ny]
  have b2: ∀n,U4 n none=some n:=λ_=>rfl;simp only[CM,ex,el,Bf,Option.map_none,eP,b1,b2,I];rw[if_pos ⟨trivial,a.sz_pos,by omega,Ag _,Ag _,W,by simp⟩];grind
 have g: ∀V,a.E.cl l=V->(A7 H).set id (.live b V)=A7 H:=λV ar=>by apply IY;grind
 have f:DT (UY (a.E.cl l) (i.toNat*a.sz) (List.replicate (b-i.toNat) (lvs z)).flatten) (a.E.cl w):=by
  have e1:a.E.cl w=a.E.cl (l.take i.toNat)++a.E.cl (List.replicate (b-i.toNat) zd):=by grind[S9.cl]
  have e2:(a.E.cl l).take (i.toNat*a.sz)=a.E.cl (l.take i.toNat):=by
   have e3:a.E.cl l=a.E.cl (l.take i.toNat)++a.E.cl (l.drop i.toNat):=by grind[List.take_append_drop,S9.cl]
   have e4:(a.E.cl (l.take i.toNat)).length=i.toNat*a.sz:=by rw[a.E.clen,Bh,Q];grind
   grind
  have e5:(a.E.cl l).drop (i.toNat*a.sz+(List.replicate (b-i.toNat) (lvs z)).flatten.length)=[]:=by apply fB;simp[C];rw[<-GY];grind
  unfold UY;rw[e1,e2,e5,D8];exact(DT.refl _).append (pV p _)
 have L:Iv P N o2 ((Bw env).put d (if i.toNat=0 then .sl id b a.sz 0 b else if i.toNat=b then .vs a.sz []else .sl id b a.sz (0+i.toNat*a.sz) (b-i.toNat))) (A7 H) (Cr (.tup []) (A7 (H.set id (.buf false a w b c)))):=by
  have e6:A7 (H.set id (.buf false a w b c))=(A7 H).set id (.live b (a.E.cl w)):=by rw[M9];rfl
  rw[e6];by_cases h0:i.toNat=0;rw[if_pos h0];refine Iv.set_less A ?_ f;have:=Iv.clear (N:=N) (K:=Cr (.tup []) _) U c4 I M z1 C (s (.sl id b a.sz 0 b)) m (by rw[j,hn];omega) ⟨rfl,rfl⟩;grind;rw[if_neg h0];by_cases h1:i.toNat=b;rw[if_pos h1];have e7:w=l:=by simp_all
  rw[e7,g _ rfl];exact mG U (PO I).1 (s _) ⟨rfl,rfl⟩;rw[if_neg h1];refine Iv.set_less A ?_ f;have:=Iv.clear (N:=N) (K:=Cr (.tup []) _) U c4 I M z1 C (s (.sl id b a.sz (0+i.toNat*a.sz) (b-i.toNat))) m (by rw[j,<-hn,ED,<-GY];apply PL;omega) ⟨rfl,rfl⟩;grind
 exact⟨_,_,Db ad ⟨rfl,rfl⟩,L,h,S5 O ok.heap J,O⟩;grind;cases h;cases h;cases h;cases h;cases h;cases h
def zz:Fs N (A7 b).length ((Bw g).put n v) (A7 b) (Bw (g.put n RE)) (A7 b):=by
 refine UA rfl λX d w s=>⟨SO.refl _ _,λt f m=>?_⟩
 rw[di]at m;rcases A1.1 m with e|m;injection e with a H;subst a H;exact⟨v,JS,λc _=>.any c⟩;exact⟨f,CN _ m,λ_ r=>r⟩
theorem Rf{J:List QY}(m: ∀c∈J,c.Ok P){p:Pz}(l:T6 P p){D:Array Oper}{gs:List Nat}: ∀(os:List Oper) (j:Nat) (env:BQ) (H:Am) (k:BQ→Am→Option R) (r:R),Oc env H→oN P J p D gs false os j env H k=some r→
  ∃f i,Ub P N D os (Bw env) (A7 H) (λe h=>e=Bw f/\h=A7 i)/\k f i=some r/\Oc f i/\FB (iy os) env H f i
 |[],j,env,H,k,r,ok,h=>⟨env,H,⟨_,_,Fs.refl _ _ _,rfl,rfl⟩,h,ok,FB.refl _ _ _⟩
 |o::os,j,env,H,k,r,ok,h=>by
  simp only[oN]at h;have B: ∀{e:BQ} {h:Am} {v:TV},FB (iy [o]) e h (e.putO o.dst v) h:=by
   intro e h v;refine⟨Bx.refl h,λt U _=>?_⟩;cases hd:o.dst with
   |none=>rfl
   |some d=>refine jg λe=>U ?_;simp[iy,hd,e]
  have z: ∀t,t∈iy [o]++iy os->t∈iy (o::os):=by grind[iy]
  split at h;rename_i d t x lo y;cases os with
  |nil=>cases y
  |cons o2 E=>
   have hc:=y;obtain⟨c1,c2,c3,c4,c5,c6⟩:=nD hc;obtain⟨v,C,M,w2,T,W,st⟩:=uQ (N:=N) ok hc h;have g:Oc (env.put d RE) C:=⟨Yk (d:=some d) (st.env ok.env) cH,W⟩
   obtain⟨f,i,L,Y,F,G⟩:=Rf m l E (j+1+1) _ C k r g T;refine⟨f,i,⟨Bw env,A7 H,Fs.refl N _ _,?_⟩,Y,F,?_⟩;rw[c3];apply Iv.mono M;rintro u _ ⟨rfl,rfl⟩;rw[c1];refine⟨(Bw env).put d u,A7 H,Fs.refl N _ _,?_⟩;rw[c6];apply Iv.mono w2;rintro _ _ ⟨rfl,rfl⟩;rw[c4];exact Ub.weak zz L;have Z:FB (iy [o]) env H (env.put d RE) C:=by exact⟨st,λu hu _=>jg λe=>hu (by simp[iy,c1,e])⟩
   refine(FB.trans ok.env Z G).mono λu hu=>?_;grind[iy,List.mem_cons_of_mem]
  split at h;rename_i S;obtain⟨K,t1,M⟩:=Oh (gS J env H o.op) ok;generalize G4 (gS J env H o.op) env H=q at h K t1 M;obtain⟨env1,C⟩:=q;obtain⟨v,I,e1,e2,e3,e4,e5,_⟩:=lT (N:=N) m l K h;have O:=hY e2;have g:Oc (env1.putO o.dst v) I:=⟨Yk (e5.env K.env) e3,e4⟩
  obtain⟨f,i,L,E,F,G⟩:=Rf m l os (j+1) _ I k r g O;refine⟨f,i,?_,E,F,?_⟩;refine⟨Bw env1,A7 C,M N,eE ?_ ?_⟩;exact qv (λd b hb=>by rw[t1.same d (λh=>by cases h) (by rw[hb];intro id al t n hm;simp[TV.refs]at hm),hb]) S;exact λrr X h0 a w s Q=>T4 (e1 rr X h0 a w s Q) (by rintro a' w' ⟨c,u,h',ad,ha,⟨rfl,rfl⟩,V,hs,hx⟩;exact⟨c,_,h',_,ha,by show Ub P N D os ((Bw env1).putO o.dst v.enc) (A7 I) _;rw[<-VZ];exact L,V,hs,hx⟩);have Z:FB (iy [o]) env1 C (env1.putO o.dst v) I:=by exact⟨e5,λt U T=>(B (h:=C)).same t U T⟩
  have:=(FB.trans (A:=[]) ok.env t1 (FB.trans K.env Z G))
  exact this.mono z;rename_i S;have g:Oc (env.putO o.dst (.tup [])) H:=⟨Yk ok.env (Pw λv V=>by cases V),ok.heap⟩
  obtain⟨f,i,L,E,F,G⟩:=Rf m l os (j+1) _ H k r g h;refine⟨f,i,⟨Bw env,A7 H,Fs.refl N _ _,jO S ?_⟩,E,F,(FB.trans ok.env B G).mono z⟩;have:(Bw env).putO o.dst (.tup [])=Bw (env.putO o.dst (.tup [])):=by rw[VZ];rfl
  grind;cases h
end
end Go.Ab
