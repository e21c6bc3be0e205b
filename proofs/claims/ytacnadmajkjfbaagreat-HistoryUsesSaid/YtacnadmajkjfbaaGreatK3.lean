/- A layer over the model in which values are trees: its laws and a typed interpreter, part 3. Texts of the folder wip, laid in few files with shorter names by a program (wip/tools/pack.py); nothing is assumed. -/
import Derived.Test.YtacnadmajkjfbaaGreatK2
import Derived.Laws.IdiomRangeMap
noncomputable section
set_option linter.unusedVariables false
set_option linter.unusedSimpArgs false
set_option linter.unusedSectionVars false
set_option linter.defProp false
set_option linter.unnecessarySimpa false
set_option linter.deprecated false
namespace Go.Ab
def TO(H:An)(id ver:Nat)(t:Ty)(n:Nat):Prop:=
 id<H.length/\ ∀ro t' l n' ver',H[id]? =some (.buf ro t' l n' ver')->ver<=ver'/\(ver=ver'->t'=t/\n'=n)
def Bc.ok(H:An):Bc->Prop
 | .own id ver t n=>TO H id ver t n
 |_=>True
def lok(H:An)(cs:List Bc):Prop:= ∀x∈cs,x.ok H
mutual
def TV.refs:TV->List Bc
 | .c x=>[x]
 | .g cs=>cs
 | .aptr .. =>[]
 | .bptr id ver t n _ _=>[.own id ver t n]
 | .vptr cs _=>cs
 | .tup vs=>TV.refsL vs
def TV.refsL:List TV->List Bc
 |[]=>[]
 |v::r=>v.refs++TV.refsL r
end
def TV.ok(H:An)(v:TV):Prop:=lok H v.refs
def Dn.ok(H:An):Dn->Prop
 | .live _ cs=>lok H cs
 | .buf _ _ l n _=>n=l.length
 | .dead=>True
 | .lp _ _ _ env _ _ _ _=> ∀p∈env,∀id ver t n,Bc.own id ver t n∉p.2.refs
 | .mp .. =>True
structure PB(env:BS)(H:An):Prop where
 env: ∀p∈env,p.2.ok H
 heap: ∀e∈H,e.ok H
variable {a G Z:TypeId}{N n U:Nat}{b I:An}{c L:Operand}{d:List Bc}{e T:TV}{P:Program}{t:Ty}{g W:BS}{i Q:List AV}{w:World}{j:Array Oper}{m:List TV}{p k:As}{o:Oper}{q:Option (Nat×Bool)}{s:IntKind}{h:Gh}{u:Env}{v:AV}{X:Nat->Prop}{z:Bc}{x y:Cx}{A:Nat→Prop}{B:Int}{C:Option TV}{D:Dn}{E:Bool}{F:Array (Nat×Operand)}{J:List (Int×AV)}{R:Type}{M:Act}{O:List Nat}{S:FuncId}{V:BinOp}{Y:Prop}
theorem Ie{H:List Bc}:lok b (d++H)↔lok b d/\lok b H:=by grind[lok]
theorem zg:lok b []:=λ_ h=>by cases h
def oe{v:TV}: ∀{l:List TV},v∈l-> ∀x∈v.refs,x∈TV.refsL l
 |w::r,a,x,hx=>by simp only[TV.refsL,Ap];rcases Am.1 a with rfl|a;exact .inl hx;exact .inr (oe a x hx)
def jp(h:(TV.tup m).ok b)(H:e∈m):e.ok b:=λx c=>h x (by simp only[TV.refs];exact oe H x c)
def Px{H:An}: ∀{vs:List TV},(∀v∈vs,v.ok H)->(TV.tup vs).ok H
 |[],_=>λx a=>by simp[TV.refs,TV.refsL]at a
 |v::r,h=>by have:=Px (vs:=r) λw b=>h w (by simp[b]);intro x a;simp only[TV.refs,TV.refsL,Ap]at a;rcases a with a|a;exact h v (by simp) x a;exact this x a
theorem jd(h: ∀p∈g,p.2.ok b)(t:Nat):(g.get t).ok b:=by
 induction g with
 |nil=>intro x a;simp only[BS.get,S4,TV.refs,A2]at a;subst a;trivial
 |cons p r H=>grind[BS.get]
theorem uJ(v:Value):(wy v).ok b:=by
 cases v with
 |pointer p=>cases p<;>trivial
 |slice a l c=>
  cases a with
  |some _=>trivial
  |none=>
   match l,c with
   |0,0=>trivial
   |0,_+1=>trivial
   |_+1,_=>trivial
 |_=>trivial
def cG:S4.ok b:=λx a=>by simp only[S4,TV.refs,A2]at a;subst a;trivial
theorem JW{H:An}(h:z.ok H):(TV.c z).ok H:=λy a=>by grind[TV.refs]
theorem AA7(v:Value):(cvT v).ok b:=by
 cases v with
 |agg a=>
  simp only[cvT];cases h:a.toList.all (·.oneCell')with
  |false=>exact cG
  |true=>intro x H;grind[TV.refs,uJ]
 |_=>exact JW (uJ _)
theorem bA{H:An}(h: ∀p∈g,p.2.ok H)(x:Operand):(Iu g x).ok H:=by
 cases x with
 |tmp t=>exact jd h t
 |const v=>exact AA7 v
 |global _=>exact cG
 |func f=>exact JW trivial
theorem Gm(a b:List Bc):lvs (a++b)=lvs a++lvs b:=Yi
theorem HT(x:Bc)(b:List Bc):lvs (x::b)=x.enc++lvs b:=I4
theorem Z5: ∀a:List Bc,(lvs a).length=yW a
 |[]=>rfl
 |x::r=>by rw[HT,Ai,x.enc_len,Z5 r];rfl
def No: ∀{c:List Bc} {n:Nat} {a b:List Bc},Uf c n=some (a,b)->c=a++b/\(lvs a).length=n
 |c,0,a,b,h=>by cases c<;>simp only[Uf]at h<;>obtain⟨rfl,rfl⟩:=h<;>exact⟨rfl,rfl⟩
 |x::r,n+1,a,b,h=>by simp only[Uf]at h;split at h;rename_i e;split at h;rename_i g i f;obtain⟨rfl,rfl⟩:=h;obtain⟨j,d⟩:=No f;rw[HT,Ai,d,x.enc_len];simp_all;cases h;cases h
mutual
theorem Ty.lvs_enc: ∀(t:Ty) (x:t.D),lvs (t.lvs x)=(t.enc x).cells
 | .bool,_=>rfl
 | .int _,_=>rfl
 | .str,_=>rfl
 | .list _,_=>rfl
 | .arr n t,a=>by simp only[Ty.lvs,lvs,I4,jA,Do,Bc.enc]
 | .prod ts,x=>by simp only[Ty.lvs,Ty.enc,AV.cells];exact ts.lvs_cells x
theorem QX.lvs_cells: ∀(a:QX) (x:a.D),Go.Ab.lvs (a.lvs x)=a.cells x
 | .one t,x=>by simp only[QX.lvs,QX.cells];exact t.lvs_enc x
 | .cons t a,x=>by simp only[QX.lvs,QX.cells];rw[Gm,t.lvs_enc,a.lvs_cells]
end
mutual
theorem Ty.lvs_ok{H:An}: ∀(t:Ty) (x:t.D),lok H (t.lvs x)
 | .bool,_=>λy b=>by simp only[Ty.lvs,A2]at b;subst b;trivial
 | .int _,_=>λy b=>by simp only[Ty.lvs,A2]at b;subst b;trivial
 | .str,_=>λy b=>by simp only[Ty.lvs,A2]at b;subst b;trivial
 | .list _,_=>λy b=>by simp only[Ty.lvs,A2]at b;subst b;trivial
 | .arr n t,a=>λy b=>by simp only[Ty.lvs,A2]at b;subst b;trivial
 | .prod ts,x=>by simp only[Ty.lvs];exact ts.lvs_ok x
theorem QX.lvs_ok{H:An}: ∀(a:QX) (x:a.D),lok H (a.lvs x)
 | .one t,x=>by simp only[QX.lvs];exact t.lvs_ok x
 | .cons t a,x=>by simp only[QX.lvs];exact Ie.2 ⟨t.lvs_ok _,a.lvs_ok _⟩
end
def LU(h:z.scalar=true):z.enc=[z.one]:=by
 cases z with
 |ar n t a=>cases h
 |_=>rfl
def Bc.scalar_cells(h:z.scalar=true):z.one.cells=[z.one]:=by
 cases z with
 |ar n t a=>cases h
 |raw v=>cases v<;>first|rfl|cases h
 |_=>rfl
theorem Py(h:part P a d N=some e):
  (∃n,tI P a=some (true,n)/\N+n<=(lvs d).length/\e.enc= .agg (((lvs d).drop N).take n)\/tI P a=some (false,n)/\(lvs d)[N]? =some e.enc)/\ ∀H,lok H d->e.ok H:=by
 unfold part at h;split at h;rename_i t r l;obtain⟨rfl,j⟩:=No l;split at h;rename_i n i;split at h;rename_i b c g;obtain⟨rfl,k⟩:=No g;injection h with h;subst h;refine⟨⟨n,.inl ⟨i,?_,?_⟩⟩,λH f=>?_⟩;simp only[Gm,Ai];omega;simp only[TV.enc,Gm,AV.agg.injEq];rw[<-j,Ra,<-k,aC];exact(Ie.1 (Ie.1 f).2).1;cases h;rename_i n i;split at h;rename_i x r;split at h;rename_i m;injection h with h;subst h;refine⟨⟨n,.inr ⟨i,?_⟩⟩,λH f=>JW ((Ie.1 f).2 x (by simp))⟩;rw[Gm,HT,LU m,Cr (by omega)];simp[j,TV.enc];cases h;cases h;cases h;cases h
def eZ(h:part P a d N=some e)
  (hr: ∀n,N+n<=(lvs d).length->Ov p v n=some (((lvs d).drop N).take n)):cO P a p v=some e.enc:=by
 obtain⟨⟨n,t|t⟩,_⟩:=Py h;obtain⟨i,g,c⟩:=t;simp only[cO,i,hr n g,Bf,c];obtain⟨i,c⟩:=t;have k:N<(lvs d).length:=by rcases Aq N (lvs d).length with f|f;exact f;rw[Cs f]at c;cases c
 simp only[cO,i,hr 1 (by omega),AF];rw[List.head?_take,List.head?_drop,c];rfl
theorem kW(h:Ue b N=some d): ∃ro,b[N]? =some (.live ro d):=by grind[Ue]
theorem E8(H:An)(id:Nat):(A6 H)[id]? =(H[id]?).map Dn.enc:=CL
theorem ma(h:Ue b N=some d):(A6 b)[N]? =some (.live 0 (lvs d)):=by obtain⟨ro,H⟩:=kW h;rw[E8,H];rfl
def ze(H: ∀e∈b,e.ok b)(h:Ue b N=some d):lok b d:=by obtain⟨ro,c⟩:=kW h;exact H _ (BK c)
def sT{l:List t.D}(h:dK b N n t=some l): ∃ro a,b[N]? =some (.buf ro t l a n):=by unfold dK at h;split at h;rename_i ro i j a d e;split at h;rename_i g;have c:=DP g;subst c;split at h;rename_i f;have H:=f;have:=Ty.beq_eq i t H;subst this;injection h with h;refine⟨ro,a,?_⟩;rw[e,<-h];rfl;cases h;cases h;cases h
def gj{l:List t.D}(d: ∀e∈b,e.ok b)(hr:TO b N U t n)(h:dK b N U t=some l):(A6 b)[N]? =some (.live n (t.E.cl l))/\l.length=n:=by obtain⟨ro,f,H⟩:=sT h;obtain⟨_,c⟩:=hr.2 _ _ _ _ _ H;obtain⟨_,rfl⟩:=c rfl;have:f=l.length:=d _ (BK H);refine⟨?_,this.symm⟩;rw[E8,H];rfl
def sN{a:RG (n+1) t.D}(h:wW d N n t=some a): ∃c b,d=c++(.ar n t a::b)/\(lvs c).length=N:=by unfold wW at h;split at h;rename_i c l m k b i;split at h;rename_i j;have:=Ty.beq_eq _ _ j;injection this with e f;subst e f;injection h with h;obtain⟨e,f⟩:=No i;refine⟨c,b,?_,f⟩;rw[e,<-h];rfl;cases h;cases h
theorem Yn(n:Nat)(t:Ty)(a:RG (n+1) t.D):(Bc.ar n t a).enc=aJ (n+1) t.E a:=rfl
section
variable {P:Program} {R:Type} {H:An} {k:TV->Option R} {r:R}
theorem UH(h:yb C k=some r): ∃v,C=some v/\k v=some r:=by unfold yb at h;grind
theorem cH(v:AV):(wF v).enc=v:=by cases v<;>rfl
theorem eK(v:AV):(wF v).ok H:=by cases v<;>exact JW trivial
theorem eA{o:Option AV}(h:okA o k=some r): ∃v,o=some v/\k (wF v)=some r:=by unfold okA at h;grind
theorem eU{o:Option R}(h:cond E none o=some r):E=false/\o=some r:=by grind
theorem kX(C: ∀v∈H,v.ok H)(D:e.ok H)(h:loadT P H a e k=some r): ∃u,cO P a (A6 H) e.enc=some u.enc/\k u=some r/\u.ok H:=by
 unfold loadT at h;split at h;rename_i id g;split at h;rename_i B q;obtain⟨u,f,o⟩:=UH h;refine⟨u,eZ f λn c=>?_,o,(Py f).2 H (ze C q)⟩;grind[TV.enc,Bc.one,Ov,ma];cases h;rename_i B d;obtain⟨u,f,o⟩:=UH h;refine⟨u,eZ f λn c=>?_,o,(Py f).2 H D⟩;simp only[TV.enc,Ov];grind;rename_i id p n b i g;split at h;rename_i B q;split at h;rename_i t G;obtain⟨v,z,h⟩:=Dr.1 h;obtain⟨u,f,o⟩:=UH h;obtain⟨j,d,rfl,s⟩:=sN G;refine⟨u,eZ f λm c=>?_,o,(Py f).2 H (b.lvs_ok v)⟩;rw[b.lvs_enc,b.enc_len]at c;obtain⟨w,x⟩:=wT b.E (lvs j) (lvs d) z c;have F:lvs (j++(.ar n b t::d))=lvs j++aJ (n+1) b.E t++lvs d:=by rw[Gm,HT,Yn,Ax]
 simp only[TV.enc,Ov,ma q,F];have y:p+i.toNat*b.sz+g=(lvs j).length+i.toNat*b.E.sz+g:=by rw[s];rfl
 rw[y,if_pos ⟨trivial,w⟩,x,b.lvs_enc];rfl;cases h;cases h;rename_i id A b n i g;split at h;rename_i l q;obtain⟨v,z,h⟩:=Dr.1 h;obtain⟨u,f,o⟩:=UH h;obtain⟨y,_⟩:=gj C (D (.own id A b n) (by simp[TV.refs])) q;refine⟨u,eZ f λm c=>?_,o,(Py f).2 H (b.lvs_ok v)⟩;rw[b.lvs_enc,b.enc_len]at c;obtain⟨w,x⟩:=AA0 b.E z c;simp only[TV.enc,Ov,y];rw[if_pos ⟨trivial,w⟩];show some (List.take m (List.drop (i.toNat*b.E.sz+g) (b.E.cl l)))=_;rw[x,b.lvs_enc];rfl;cases h;cases h
theorem sP{b:Int}(h:gA V s B b=some v):V≠ .shl/\V≠ .shr:=by constructor<;>rintro rfl<;>cases h
theorem sQ(h:AA1 P V a e T k=some r): ∃u,qQ P V a e.enc T.enc=some u.enc/\k u=some r/\u.ok H:=by
 unfold AA1 at h;split at h;rename_i n i o b;simp only[TV.enc,Bc.one,qQ];split at h;obtain⟨c,h⟩:=eU h;have d: ¬b<0:=by simpa using c
 refine⟨_,?_,h,JW trivial⟩;grind[eG,TV.enc,Bc.one];obtain⟨c,h⟩:=eU h;have d: ¬b<0:=by simpa using c
 refine⟨_,?_,h,JW trivial⟩;grind[eG,TV.enc,Bc.one];split at h;rename_i t;obtain⟨c,h⟩:=eU h;have d: ¬b=0:=by simpa using c
 refine⟨_,?_,h,JW trivial⟩;grind[gA,TV.enc,Bc.one];cases h;split at h;rename_i t;obtain⟨c,h⟩:=eU h;have d: ¬b=0:=by simpa using c
 refine⟨_,?_,h,JW trivial⟩;grind[gA,TV.enc,Bc.one];cases h;grind[eA,eK,cH,sP];rename_i i b;simp only[TV.enc,Bc.one,qQ];split at h;split at h;rename_i t;exact⟨_,by simp only[if_pos t,TV.enc,Bc.one],h,JW trivial⟩;cases h;split at h;rename_i t;exact⟨_,by simp only[if_pos t,TV.enc,Bc.one],h,JW trivial⟩;cases h;cases h;rename_i i b;simp only[TV.enc,Bc.one,qQ];split at h;obtain⟨s,j,h⟩:=Dr.1 h;exact⟨_,by simp only[o6,TV.enc,Bc.one];exact ABN j,h,JW trivial⟩;grind[eA,cH,eK];rename_i l bs;split at h;rename_i m f;split at h;rename_i g;simp only[TV.enc,qQ,f,if_pos g];split at h;exact⟨_,by simp only[TV.enc,Bc.one,eqT],h,JW trivial⟩;exact⟨_,by simp only[TV.enc,Bc.one,eqT],h,JW trivial⟩;cases h;cases h;cases h;cases h
def vy{a:UnOp}(h:unT a e k=some r): ∃u,unV a e.enc=some u.enc/\k u=some r/\u.ok H:=by unfold unT at h;split at h;obtain⟨e,b,h⟩:=eA h;exact⟨_,by rw[cH];exact b,h,eK e⟩;cases h
def AB5(l:List Int):(Ty.int .u8).E.cl l=l.map (pH .u8).f:=by
 unfold Sv.cl;induction l with
 |nil=>rfl
 |cons n l a=>simp only[Bb,I4,a];rfl
def vC:Ui P p G a (.int s B)=Ui P [] G a (.int s B):=by unfold Ui;cases kd P a<;>rfl
def vD{s:List UInt8}:Ui P p G a (.str s)=Ui P [] G a (.str s):=by unfold Ui;cases kd P a<;>rfl
def qU(g: ∀d∈H,d.ok H)(c:e.ok H)(h:wu P H G a e k=some r): ∃u,Ui P (A6 H) G a e.enc=some u.enc/\k u=some r/\u.ok H:=by
 unfold wu at h;split at h;rename_i l;split at h;rename_i b;exact⟨_,xf l b.1 b.2,h,JW trivial⟩;cases h;rename_i id f n;split at h;rename_i b;split at h;rename_i l j;obtain⟨i,hn⟩:=gj g (c (.own id f (.int .u8) n) (by simp[TV.refs])) j;refine⟨_,?_,h,JW trivial⟩;simp only[TV.enc,Bc.one,Ui,b.1,b.2,if_true,rowsOf,i];rw[if_pos ⟨trivial,rfl,by rw[(Ty.int .u8).E.clen,hn];show 0+n<=n*1;omega⟩];have:((Ty.int .u8).E.cl l).length=n:=by rw[(Ty.int .u8).E.clen,hn];exact Nat.mul_one n
 rw[iz,<-this,List.take_length,AB5];exact congrArg (Option.map AV.str) (qC l);cases h;cases h;obtain⟨e,c,h⟩:=eA h;exact⟨_,by rw[cH];exact vC.trans c,h,eK e⟩;obtain⟨e,c,h⟩:=eA h;exact⟨_,by rw[cH];exact vD.trans c,h,eK e⟩;cases h
end
section
variable {P:Program} {R:Type} {H:An} {k:TV->Option R} {r:R}
theorem dY(h:Ue H N=some d):RV (A6 H) N 0=true:=by simp[RV,ma h]
def pF{l:List t.D}(b: ∀e∈H,e.ok H)(hr:TO H N U t n)(h:dK H N U t=some l):RV (A6 H) N n=true:=by simp[RV,(gj b hr h).1]
theorem jR(x: ∀f∈H,f.ok H)(g:e.ok H)(h:gG P H N n e k=some r): ∃u,Tf P (A6 H) N n e.enc=some u.enc/\k u=some r/\u.ok H:=by
 unfold gG at h;split at h;rename_i B t s z;split at h;cases h;rename_i hn;have d:s≠0:=λf=>by simp_all
 unfold Tf;simp only[z,if_neg d];split at h;rename_i id o;split at h;rename_i p c;exact⟨_,by simp only[TV.enc,Bc.one,shift,dY c,if_true],h,JW trivial⟩;cases h;rename_i p q;split at h;rename_i a b A;obtain⟨rfl,y⟩:=No A;refine⟨_,?_,h,(Ie.1 g).2⟩;simp only[TV.enc,shift];rw[if_pos (by simp only[Ai,Gm];omega),Gm,Ax,<-y,Ra];cases h;rename_i id m s w i o;split at h;rename_i p c;refine⟨_,?_,h,λ_ h=>by cases h⟩;grind[TV.enc,shift,dY];cases h;rename_i id j w s i o;split at h;rename_i l c;refine⟨_,?_,h,g⟩;simp only[TV.enc,shift,pF x (g (.own id j w s) (by simp[TV.refs])) c,if_true,aE];cases h;cases h;cases h
theorem pk(h:part P a d N=some e)(c: ∀t,N+t<=(lvs d).length->n+t<=i.length/\(i.drop n).take t=((lvs d).drop N).take t):mo P a i n=some e.enc:=by grind[Py,mo,List.head?_take,List.head?_drop]
theorem pJ(d:e.ok H)(h:se P N n e k=some r): ∃u,mB P N n e.enc=some u.enc/\k u=some r/\u.ok H:=by unfold se at h;split at h;rename_i f t s g a;obtain⟨u,c,b⟩:=UH h;refine⟨u,?_,b,(Py c).2 H d⟩;simp only[mB,a,TV.enc];grind[pk];cases h
theorem lY{a:RG n R}{x:R}(h:K3 a B=some x):0<=B/\B<n:=by obtain⟨c,j,rfl,_⟩:=ij h;grind
theorem jf(s: ∀v∈H,v.ok H)(C:e.ok H)(h:gK P H a e T k=some r): ∃u,Tl P (A6 H) a e.enc T.enc=some u.enc/\k u=some r/\u.ok H:=by
 unfold gK at h;split at h;rename_i L T;simp only[TV.enc,Bc.one,Tl];split at h;rename_i len z sz p;simp only[p];split at h;rename_i id D;split at h;rename_i G m;split at h;rename_i F n b t g K;split at h;rename_i d;obtain⟨rfl,rfl⟩:=d;obtain⟨v,c,h⟩:=Dr.1 h;refine⟨_,?_,h,λ_ h=>by cases h⟩;rw[if_pos (lY c)];simp only[TV.enc,Bc.one,shift,dY m,if_true,RK];cases h;cases h;cases h;rename_i n b t M g;split at h;rename_i d;obtain⟨rfl,rfl⟩:=d;obtain⟨v,c,h⟩:=Dr.1 h;refine⟨_,?_,h,b.lvs_ok v⟩;rw[if_pos (lY c)];obtain⟨_,o,q,_⟩:=wY b.E c [] [];simp only[CC,Do,BQ,D5]at o q;have B:T.toNat*b.sz+b.sz<=(aJ (n+1) b.E t).length:=o;simp only[TV.enc,shift,HT,Yn];rw[if_pos (by grind)];rw[b.lvs_enc,Ax,nj (by omega)];have y:(aJ (n+1) b.E t).drop (T.toNat*b.sz)=(b.enc v).cells++(aJ (n+1) b.E t).drop (T.toNat*b.sz+b.sz):=by rw[<-Po];have I:((aJ (n+1) b.E t).drop (T.toNat*b.sz)).take b.sz=(b.enc v).cells:=q;grind[List.take_append_drop]
 rw[y,Ax];rfl;cases h;cases h;rename_i z sz p;simp only[p];split at h;rename_i b l;split at h;rename_i d;subst d;obtain⟨v,c,h⟩:=Dr.1 h;obtain⟨q1,q2⟩:=AC2 (f:=b.enc) c;refine⟨_,?_,h,b.lvs_ok v⟩;simp only[TV.enc,Bc.one];rw[if_pos ⟨q1,trivial⟩,q2,b.lvs_enc,Do];rfl;cases h;rename_i id j b n;split at h;rename_i l m;split at h;rename_i d;subst d;obtain⟨v,c,h⟩:=Dr.1 h;have hr:=C (.own id j b n) (by simp[TV.refs]);obtain⟨J,hn⟩:=gj s hr m;refine⟨.bptr id j b n T 0,?_,h,λx w=>by simp only[TV.refs,A2]at w;subst w;exact hr⟩;obtain⟨_,_,_,_,A,o,_,_⟩:=lr b.E c;simp only[TV.enc,Bc.one];rw[if_pos ⟨A,by omega,trivial,pF s hr m⟩,D5,RK];cases h;cases h;cases h;cases h;cases h
theorem gw{e:TypeId}{sz:Nat}{cs:List Bc}{i:Int}(b:lok H cs): ∀{m j:Nat},o8 P e sz cs i k m j=some r-> ∃u,(0<=i/\i<((j+m:Nat):Int))/\mo P e (lvs cs) (i.toNat*sz)=some u.enc/\k u=some r/\u.ok H
 |m+1,j,h=>by
  simp only[o8]at h;cases a:decide (i=Int.ofNat j)with
  |true=>
   rw[a]at h;have f:i=(j:Int):=by grind
   obtain⟨u,d,c⟩:=UH h;refine⟨u,⟨by omega,by omega⟩,?_,c,(Py d).2 H b⟩;grind[pk]
  |false=>rw[a]at h;obtain⟨u,q1,q2⟩:=gw b (m:=m) (j:=j+1) h;grind
theorem pR(A:e.ok H)(h:sm P a e T k=some r): ∃u,dy P a e.enc T.enc=some u.enc/\k u=some r/\u.ok H:=by
 unfold sm at h;split at h;rename_i B T;split at h;rename_i n c t;split at h;rename_i len x sz o;split at h;rename_i z;obtain⟨rfl,rfl⟩:=z;obtain⟨v,p,h⟩:=Dr.1 h;obtain⟨u,q,f⟩:=UH h;refine⟨u,?_,f,(Py q).2 H (c.lvs_ok v)⟩;simp only[TV.enc,Bc.one,dy,o];rw[if_pos (lY p)];refine pk q λm d=>?_;rw[c.lvs_enc,c.enc_len,D5]at d;obtain⟨j,l⟩:=wT c.E (off:=0) [] [] p (m:=m) (by rw[D5];exact d);simp at j l;have w:lvs [Bc.ar n c t]=aJ (n+1) c.E t:=by grind[Yn,lvs]
 rw[w,c.lvs_enc,iz];exact⟨j,l⟩;cases h;cases h;rename_i g _;split at h;rename_i len x sz o;split at h;obtain⟨u,q1,q2,q3⟩:=gw (cs:=g) (H:=H) A h;grind[TV.enc,Bc.one,dy];cases h;cases h;rename_i s;split at h;rename_i f;obtain⟨b,y,h⟩:=Dr.1 h;exact⟨_,by simp only[TV.enc];exact ACJ y f,h,JW trivial⟩;cases h;cases h;cases h
theorem gi{d:Nat}(h:u5 d C=some B)(a:0<=B):Uo d (C.map TV.enc)=some B.toNat:=by unfold u5 at h;grind[Uo,TV.enc,Bc.one,mh]
theorem px{i mx:Option TV}(h:tc P a e C i mx k=some r): ∃u,eH P (A6 H) a e.enc (C.map TV.enc) (i.map TV.enc) (mx.map TV.enc)=some u.enc/\k u=some r/\u.ok H:=by unfold tc at h;split at h;cases h;split at h;rename_i s;split at h;rename_i l q g b;split at h;rename_i w;obtain⟨x,c,h⟩:=Dr.1 h;refine⟨_,?_,h,JW trivial⟩;unfold R9 at c;split at c;rename_i t;simp only[TV.enc,Bc.one,eH,gi (d:=0) g t.1,gi b (Int.le_trans t.1 t.2.1)];grind;cases c;cases h;cases h;rename_i y f;split at h;rename_i l q z sz g b p;split at h;rename_i w;obtain⟨x,c,h⟩:=Dr.1 h;refine⟨_,?_,h,JW trivial⟩;unfold YU at c;split at c;rename_i t;have v:(f.map y.enc).length=f.length:=DF _;have m:=gi (d:=0) g t.1;have n:=gi b (Int.le_trans t.1 t.2.1);have o:Uo f.length none=some f.length:=rfl;simp only[TV.enc,Bc.one,eH,v,m,n,o,p];grind[List.map_take,List.map_drop];cases c;cases h;cases h;cases h
def sq(d: ∀v∈H,v.ok H)(g:e.ok H)(h:ABI P H a e k=some r): ∃u,mZ P (A6 H) a e.enc=some u.enc/\k u=some r/\u.ok H:=by unfold ABI at h;split at h;rename_i s t;exact⟨_,by simp only[mZ,t,TV.enc,Bc.one],h,JW trivial⟩;rename_i n v t;exact⟨_,by simp only[mZ,t,TV.enc,Bc.one],h,JW trivial⟩;rename_i b l v t;exact⟨_,by simp only[mZ,t,TV.enc,Bc.one,DF],h,JW trivial⟩;rename_i v id c b n t;split at h;rename_i l f;refine⟨_,?_,h,JW trivial⟩;simp only[mZ,t,TV.enc,Bc.one];cases h;rename_i v t;exact⟨_,by simp only[mZ,t,TV.enc,Bc.one],h,JW trivial⟩;cases h
end
def WO(h:e.words=some d):e.enc.solid=true/\e.enc.cells=lvs d/\ ∀H,e.ok H->lok H d:=by unfold TV.words at h;split at h;rename_i x;split at h;rename_i a;simp at a;injection h with h;subst h;refine⟨a.2,?_,λH b=>b⟩;rw[HT,LU a.1];exact Bc.scalar_cells a.1;cases h;injection h with h;subst h;exact⟨rfl,rfl,λH b=>b⟩;cases h
theorem ej{f c:List Bc}{e n:Nat}(h:vp d e f n=some c)(hn:(lvs f).length=n):lvs c=UK (lvs d) e (lvs f)/\e+n<=(lvs d).length/\ ∀H,lok H d->lok H f->lok H c:=by unfold vp at h;split at h;rename_i a r i;obtain⟨rfl,l⟩:=No i;split at h;rename_i m b g;obtain⟨rfl,o⟩:=No g;refine⟨?_,by simp only[Gm,Ai];omega,λH j k=>?_⟩;grind[UK,Gm];grind[Ie];cases h;cases h
mutual
theorem Ty.zlvs_ok{H:An}: ∀t:Ty,lok H t.zlvs
 | .bool=>λy a=>by simp only[Ty.zlvs,A2]at a;subst a;trivial
 | .int _=>λy a=>by simp only[Ty.zlvs,A2]at a;subst a;trivial
 | .str=>λy a=>by simp only[Ty.zlvs,A2]at a;subst a;trivial
 | .list _=>λy a=>by simp only[Ty.zlvs,A2]at a;subst a;trivial
 | .arr n t=>λy a=>by simp only[Ty.zlvs,A2]at a;subst a;trivial
 | .prod b=>by simp only[Ty.zlvs];exact b.zlvs_ok
theorem QX.zlvs_ok{H:An}: ∀a:QX,lok H a.zlvs
 | .one t=>by simp only[QX.zlvs];exact t.zlvs_ok
 | .cons t a=>by simp only[QX.zlvs];exact Ie.2 ⟨t.zlvs_ok,a.zlvs_ok⟩
end
def vR(v:AV):(oL v).enc=[v]:=by cases v<;>rfl
theorem xQ(v:AV):(oL v).ok b:=by cases v<;>trivial
theorem jh: ∀z:List AV,lvs (z.map oL)=z
 |[]=>rfl
 |v::r=>by rw[Bb,HT,jh r,vR];rfl
theorem ui(z:List AV):lok b (z.map oL):=λx a=>by grind[xQ]
theorem WS(h:nF P a=some d):WP P a=some (lvs d)/\ ∀H,lok H d:=by unfold nF at h;split at h;rename_i z b;split at h;rename_i e t;split at h;rename_i c;injection h with h;subst h;exact⟨by rw[b,aK _ _ c],λH=>e.zlvs_ok⟩;grind[jh,ui];grind[jh,ui];cases h
theorem mC{p:XS}: ∀{a:List (Nat×TV)} {c b:List Bc},qh p c a=some b->kO p (lvs c) (a.map λq=>(q.1,q.2.enc))=some (lvs b)/\ ∀H,lok H c->(∀q∈a,q.2.ok H)->lok H b
 |[],c,b,h=>by simp only[qh,Aj]at h;subst h;exact⟨rfl,λH h _=>h⟩
 |(i,v)::r,c,b,h=>by simp only[qh]at h;split at h;rename_i m size z t l;split at h;rename_i k;have e:=DP k;split at h;rename_i s d;obtain⟨x,y,o⟩:=WO l;obtain⟨u,w,n⟩:=ej d (by rw[Z5,e]);obtain⟨q1,q2⟩:=mC h;refine⟨?_,λH g f=>q2 H (n H g (o H (f (i,v) (by simp)))) λq j=>f q (by simp[j])⟩;grind[kO,Z5];cases h;cases h;cases h
section
variable {P:Program} {R:Type} {env:BS} {H:An} {k:TV->Option R} {r:R}
theorem qR{t:List (Nat×TV)}(h:sU P a t=some e):lj P a (t.map λq=>(q.1,q.2.enc))=some e.enc/\((∀q∈t,q.2.ok H)->e.ok H):=by unfold sU at h;split at h;rename_i z p v j;obtain⟨k,f⟩:=WS v;rw[aH]at h;obtain⟨g,c,rfl⟩:=h;obtain⟨i,b⟩:=mC c;refine⟨?_,λd=>b H (f H) d⟩;grind[lj,TV.enc];cases h
def js: ∀{l:List TV} {m:List AV},mu l=some m->m=l.map TV.enc
 |[],m,h=>by simp only[mu,Aj]at h;subst h;rfl
 | .c x::r,m,h=>by simp only[mu]at h;split at h;rename_i b _ a;injection h with h;subst h;rw[Bb,<-js a];rfl;cases h
 | .g _::_,m,h=>by simp[mu]at h
 | .aptr .. ::_,m,h=>by simp[mu]at h
 | .bptr .. ::_,m,h=>by simp[mu]at h
 | .vptr .. ::_,m,h=>by simp[mu]at h
 | .tup _::_,m,h=>by simp[mu]at h
def oS(h:mmT E e T k=some r): ∃u,mmV E [e.enc,T.enc]=some u.enc/\k u=some r/\u.ok H:=by unfold mmT at h;split at h;exact⟨_,by simp only[TV.enc,Bc.one,mmV],h,JW trivial⟩;cases h
def tB{z:TV}(h:ABJ e T z k=some r): ∃u,mm3 e.enc T.enc z.enc=some u.enc/\k u=some r/\u.ok H:=by unfold ABJ at h;split at h;exact⟨_,by simp only[TV.enc,Bc.one,mm3],h,JW trivial⟩;cases h
theorem od{F:Op}(ok:PB env H)(h:zx P env H F k=some r): ∃v,CQ P (Bt env) (A6 H) F=some v.enc/\k v=some r/\v.ok H:=by
 have j: ∀x,(Iu env x).ok H:=bA ok.env;have g:=KU env;unfold zx at h;split at h;grind[CQ];grind[CQ];rename_i c a b;split at h;rename_i t K;have w:BA (Bt env) c= .bool t:=by rw[g,K];rfl
 grind[CQ,Bool.false_eq_true];cases h;obtain⟨u,d,e⟩:=kX ok.heap (j _) h;grind[CQ];rename_i x;split at h;grind[BA,Bt,CQ,dY,TV.enc,Bc.one,JW];grind[BA,Bt,CQ,TV.enc,Bc.one,JW];grind[BA,Bt,lvs,CQ,TV.enc];grind[BA,Bt,CQ,dY,TV.enc];rename_i id D G n i B s;split at h;rename_i l A;have w:BA (Bt env) x= .ptr id n (i.toNat*G.sz+B):=by rw[g,s];rfl
 have:=j x;rw[s]at this;exact⟨_,by simp only[CQ,w,pF ok.heap (this (.own id D G n) (by simp[TV.refs])) A,if_true,TV.enc],h,this⟩;cases h;cases h;simp_all[sQ,CQ];obtain⟨u,d,e⟩:=vy (H:=H) h;exact⟨u,by simp only[CQ,g,d],e⟩;obtain⟨u,d,e⟩:=qU ok.heap (j _) h;exact⟨u,by simp only[CQ,g,d],e⟩;obtain⟨u,d,e⟩:=jR ok.heap (j _) h;exact⟨u,by simp only[CQ,g,d],e⟩;obtain⟨u,d,e⟩:=pJ (j _) h;exact⟨u,by simp only[CQ,g,d],e⟩;obtain⟨u,d,e⟩:=jf ok.heap (j _) h;exact⟨u,by simp only[CQ,g,d],e⟩;obtain⟨u,d,e⟩:=pR (H:=H) (j _) h;exact⟨u,by simp only[CQ,g,d],e⟩;rename_i t x Q O mx;obtain⟨u,d,e⟩:=px (H:=H) h;have q: ∀o:Option Operand,o.map (BA (Bt env))=(o.map (Iu env)).map TV.enc:=by
  intro o;cases o with
  |none=>rfl
  |some y=>simp only[Bf,g]
 exact⟨u,by simp only[CQ,g,q,d],e⟩;rename_i x i;split at h;rename_i N s;split at h;rename_i v z;have w:BA (Bt env) x= .tup (N.map TV.enc):=by rw[g,s];simp only[TV.enc,lz]
 have E:=j x;rw[s]at E;exact⟨v,by simp only[CQ,w,CL,z,Bf],h,jp E (BK z)⟩;cases h;cases h;rename_i f a b;split at h;rename_i l m A L;refine⟨_,?_,h,JW trivial⟩;have q: ∀o:List Operand,o.map (BA (Bt env))=(o.map (Iu env)).map TV.enc:=by intro o;rw[Nt];exact L6 λy _=>g y
 simp only[CQ,q,<-js A,<-js L,TV.enc,Bc.one];cases h;rename_i t C;obtain⟨v,z,h⟩:=UH h;obtain⟨I,J⟩:=qR (H:=H) z;refine⟨v,?_,h,J λq M=>?_⟩;simp only[CQ];rw[<-I,Nt];congr 1;exact L6 λp _=>by simp only[Function.comp,g]
 obtain⟨p,_,rfl⟩:=Bi.1 M;exact j _;obtain⟨u,d,e⟩:=sq ok.heap (j _) h;exact⟨u,by simp only[CQ,g,d],e⟩;obtain⟨u,d,e⟩:=oS (H:=H) h;exact⟨u,by simp only[CQ,g,d],e⟩;obtain⟨u,d,e⟩:=oS (H:=H) h;exact⟨u,by simp only[CQ,g,d],e⟩;obtain⟨u,d,e⟩:=tB (H:=H) h;exact⟨u,by simp only[CQ,g,d],e⟩;cases h
end
def Conv(x y:Cx)(v v':AV):Prop:= ∀c,Bg x v c->Bg y v' c
def R6(x y:Cx)(H H2:As):Prop:=
 H2.length=H.length/\ ∀(j:Nat) (e':EU),H2[j]? =some e'->e'= .dead\/
  (∃g cs cs',H[j]? =some (.live g cs)/\e'= .live g cs'/\cs'.length=cs.length/\ ∀(i:Nat) (v':AV),cs'[i]? =some v'-> ∃v,cs[i]? =some v/\Conv x y v v')\/
  (H[j]? =some e'/\ ∀g cs,e'≠ .live g cs)
theorem R6.refl(x:Cx)(H:As):R6 x x H H:=by
 refine⟨rfl,λj a d=>?_⟩;cases a with
 |live g c=>exact .inr (.inl ⟨g,c,c,d,rfl,rfl,λi v b=>⟨v,b,λ_ r=>r⟩⟩)
 |_=>grind
theorem R6.own{H d:As}{h:Gh}(hr:R6 x y H d): ∀B,owned h d B->owned h H B:=by rintro B ⟨j,f,i,c,a⟩;rcases hr.2 j f i with b|⟨g,k,e,b,_⟩|⟨b,_⟩;grind;exact⟨j,_,b,by simp,a⟩;exact⟨j,_,b,c,a⟩
def R6.later{h:Gh}{H a:As}{w:World}{x y:Cx}(hr:R6 x y H a):(cx X h H w).Later (cx X h a w):={size:=Ak _,keep:=λ_ _ _ _=>rfl,own:=λB _ b=>b.imp _root_.id (hr.own B),n:=by simp[cx,hr.1],gen:=λ_ _=>Ak _,same:=λ_ _ _=>⟨rfl,rfl⟩}
theorem It.rel{X:Nat->Prop}(s:It X h p w)(hr:R6 (cx X h p w) (cx X h k w) p k):It X h k w:=by
 have y:=hr.own (h:=h);have M:(cx X h p w).Later (cx X h k w):=hr.later;have back: ∀{j:Nat} {e:EU},k[j]? =some e->e≠ .dead-> ∃N,p[j]? =some N/\N≠ .dead:=by intro j e l ad;rcases hr.2 j e l with a|⟨g,z,C,a,_⟩|⟨a,_⟩;grind;grind;grind
 refine⟨λB H=>⟨(s.out B H).1,λho=>(s.out B H).2 (y B ho)⟩,λj Q C l=>?_,λj L l=>?_,λi j e e' B a c J K O D=>?_,s.bldKeep λj e l H=>?_⟩;rcases hr.2 j _ l with a|⟨g,z,o,a,c,O,D⟩|⟨_,a⟩;cases a;injection c with R S;subst R S;obtain⟨I,W⟩:=s.live j Q z a;refine⟨I,?_⟩;rcases W with⟨n,h0⟩|⟨B,A,T,P,f,n,V,q,Z,G,b⟩;refine .inl ⟨n,?_⟩;grind;refine .inr ⟨B,A,T,P,f,n,V,q,by omega,G,λi v' Y=>?_⟩;obtain⟨v,hv,U⟩:=D i v' Y;obtain⟨p1,p2,p3⟩:=b i v hv;exact⟨p1,p2,U _ p3⟩;grind;rcases hr.2 j _ l with a|⟨g,z,o,_,c,_⟩|⟨a,_⟩;cases a;cases c;obtain⟨I,B,r,q1,q2,q3,q4,q5,q6,q7,q8,q9⟩:=s.lp j L a;exact⟨I,B,r,q1,q2,q3,q4,q5,q6,q7,q8,λt v m=>⟨(q9 t v m).1,(q9 t v m).2.later M⟩⟩;obtain⟨d,E,F⟩:=back a J;obtain⟨d',u,x⟩:=back c K;exact s.inj i j _ _ B E u F x O D;refine⟨?_,rfl,rfl,rfl,λ_ _ _ _ _=>rfl⟩;rcases hr.2 j _ l with a|⟨g,z,o,_,c,_⟩|⟨a,_⟩;subst a;cases H;subst c;cases H;exact a
theorem R6.onto(hr:R6 (cx X h p w) (cx X h p w) p k):R6 (cx X h p w) (cx X h k w) p k:=by have e:(cx X h p w).Later (cx X h k w):=hr.later;refine⟨hr.1,λj H a=>?_⟩;rcases hr.2 j H a with d|⟨g,f,b,d,l,m,n⟩|d;grind;refine .inr (.inl ⟨g,f,b,d,l,m,λi q o=>?_⟩);obtain⟨v,q1,q2⟩:=n i q o;exact⟨v,q1,λc r=>(q2 c r).later e⟩;grind
def Tt{env2:Env}(f:k.length=p.length)(hr: ∀X h w,It X h p w→R6 (cx X h p w) (cx X h k w) p k∧ ∀t c,(t,c)∈env2→ ∃v,(t,v)∈u∧Conv (cx X h p w) (cx X h k w) v c):
  F4 N p.length u p env2 k:=by
 refine⟨by omega,λX h a w s=>?_⟩;obtain⟨q1,q2⟩:=hr X h w s.sim;refine⟨h,⟨s.sim.rel q1,λt c m=>?_,s.size⟩,λ_ _=>⟨rfl,rfl,rfl⟩,q1.own⟩;obtain⟨v,d,e⟩:=q2 t c m;exact⟨(s.env t v d).1,e _ (s.env t v d).2⟩
def R6.ext{X:Nat->Prop}{c:Gh}{H a b:As}{d:World}(hr:R6 x y H b)(e:Hd c a d h H w):Hd c a d h b w where
 os:=e.os
 tape:=e.tape
 output:=e.output
 size:=e.size
 keep:=e.keep
 n:=by rw[hr.1];exact e.n
 gen:=e.gen
 same:=e.same
 fresh B hB:=e.fresh B (hr.own B hB)
 loops:=e.loops
def Is.after{N:Nat}{H:As}{v f:AV}{H1 b:As}(h:Is P N o u H (DY v H1))
  (hr: ∀X h w,It X h H1 w->R6 (cx X h H1 w) (cx X h b w) H1 b/\Conv (cx X h H1 w) (cx X h b w) v f):Is P N o u H (DY f b):=by
 intro r X g a w s Q;apply To (h r X g a w s Q);rintro n l ⟨c,p,d,m,i,⟨rfl,rfl⟩,j,e,k⟩;obtain⟨q1,q2⟩:=hr X d l e;exact⟨c,_,d,_,i,⟨rfl,rfl⟩,q2 _ j,e.rel q1,R6.ext (X:=X) q1 k⟩
def Is.before{N:Nat}{env2:Env}{H H2:As}{K:AV->As->Prop}(b:F4 N H.length u H env2 H2)(h:Is P N o env2 H2 K):Is P N o u H K:=by intro r X g a w s Q;obtain⟨f,q,j,l⟩:=b.2 X g a w s;apply To (h r X f a w q Q);rintro t x ⟨c,v,e,d,i,k,n,m,p⟩;exact⟨c,v,e,d,i,k,n,m,(F4.ext rfl b.1 j l (Hd.refl g H w)).trans p⟩
def Et.before{args args2:List AV}{H H2:As}{K:AV→As→Prop}(hn:args2.length=args.length)
  (hr: ∀X h w,It X h H w->R6 (cx X h H w) (cx X h H2 w) H H2/\ ∀(j:Nat) (b:AV),args2[j]? =some b-> ∃v,args[j]? =some v/\Conv (cx X h H w) (cx X h H2 w) v b)
  (h:Et P S args2 H2 K):Et P S args H K:=by
 intro X g w a s n k;obtain⟨q1,q2⟩:=hr X g w s;refine(h X g w a (s.rel q1) (by omega) λj b c m l=>?_).mono ?_;obtain⟨v,o,d⟩:=q2 j b m;exact d _ (k j v c o l);rintro e t ⟨c,v,i,f,rfl,q,r,p,x⟩;exact⟨c,v,i,f,rfl,q,r,p,(R6.ext (X:=X) q1 (Hd.refl g H w)).trans x⟩
def Un(v v':AV):Prop:= ∀(x:Cx) (c:Value),Bg x v c->Bg x v' c
def Un.refl(v:AV):Un v v:=λ_ _ h=>h
def Un.nil{sz:Nat}(h:0<sz):Un .nils (.vs sz []):=λ_ _ r=>r.nil_vs h
def DT(cs cs':List AV):Prop:=cs'.length=cs.length/\ ∀(i:Nat) (v':AV),cs'[i]? =some v'-> ∃v,cs[i]? =some v/\Un v v'
theorem DT.refl(a:List AV):DT a a:=⟨rfl,λ_ v h=>⟨v,h,.refl v⟩⟩
theorem DT.append{b f:List AV}(c:DT i Q)(g:DT b f):DT (i++b) (Q++f):=by refine⟨by simp[c.1,g.1],λa j h=>?_⟩;rcases Aq a Q.length with d|d;rw[CE d]at h;obtain⟨v,q1,q2⟩:=c.2 a j h;grind;rw[Cr d]at h;obtain⟨v,q1,q2⟩:=g.2 _ j h;exact⟨v,by rw[Cr (by rw[<-c.1];exact d),<-c.1];exact q1,q2⟩
theorem DT.one{b:AV}(h:Un v b):DT [v] [b]:=⟨rfl,λi u a=>by
 match i,a with
 |0,a=>grind
 |i+1,a=>simp at a⟩
def DT.agg{b a:List AV}(h:DT b a):Un (.agg b) (.agg a):=by
 intro x c r;cases r with
 |agg i e hr=>refine .agg (by rw[i,h.1]) e λj k d g f=>?_;obtain⟨v,q1,q2⟩:=h.2 j k g;exact q2 _ _ (hr j v d q1 f)
mutual
def Ty.mk:(t:Ty)->List Bc->Option (t.D×List Bc)
 | .bool,.bl b::r=>some (b,r)
 | .int k,.it k' n::r=>if k=k' then some (n,r)else none
 | .str,.st s::r=>some (s,r)
 | .list t,.ls t' l::r=>if h:(Ty.list t').beq (Ty.list t)=true then some (Ty.cast h l,r)else none
 | .list _,.nil::r=>some ([],r)
 | .arr n t,.ar n' t' a::r=>if h:(Ty.arr n' t').beq (Ty.arr n t)=true then some (Ty.cast h a,r)else none
 | .prod ts,ls=>ts.mk ls
 |_,_=>none
def QX.mk:(ts:QX)->List Bc->Option (ts.D×List Bc)
 | .one t,ls=>t.mk ls
 | .cons t ts,ls=>
  match t.mk ls with
  |some (x,r)=>match ts.mk r with|some (y,r')=>some ((x,y),r')|none=>none
  |none=>none
end
mutual
theorem Ty.mk_spec: ∀(t:Ty) (b:List Bc) (x:t.D) (r:List Bc),t.mk b=some (x,r)-> ∃a,b=a++r/\DT (lvs a) (t.enc x).cells
 | .bool,b,x,r,h=>by
  cases b with
  |nil=>simp[Ty.mk]at h
  |cons y b=>
   cases y<;>simp only[Ty.mk]at h<;>try (cases h;done)
   simp only[Aj,EV]at h;obtain⟨rfl,rfl⟩:=h;exact⟨[_],rfl,DT.refl _⟩
 | .int k,b,x,r,h=>by
  cases b with
  |nil=>simp[Ty.mk]at h
  |cons y b=>
   cases y<;>simp only[Ty.mk]at h<;>try (cases h;done)
   split at h;rename_i f;subst f;simp only[Aj,EV]at h;obtain⟨rfl,rfl⟩:=h;exact⟨[_],rfl,DT.refl _⟩;cases h
 | .str,b,x,r,h=>by
  cases b with
  |nil=>simp[Ty.mk]at h
  |cons y b=>
   cases y<;>simp only[Ty.mk]at h<;>try (cases h;done)
   simp only[Aj,EV]at h;obtain⟨rfl,rfl⟩:=h;exact⟨[_],rfl,DT.refl _⟩
 | .list t,b,x,r,h=>by
  cases b with
  |nil=>simp[Ty.mk]at h
  |cons y b=>
   cases y<;>simp only[Ty.mk]at h<;>try (cases h;done)
   split at h;rename_i c;simp only[Aj,EV]at h;obtain⟨rfl,rfl⟩:=h;refine⟨[_],rfl,?_⟩;have d:((Ty.list t).enc (Ty.cast c ‹_›))=_:=ZX c _;rw[d];exact DT.refl _;cases h;simp only[Aj,EV]at h;obtain⟨rfl,rfl⟩:=h;exact⟨[_],rfl,DT.one (Un.nil t.sz_pos)⟩
 | .arr n t,b,x,r,h=>by
  cases b with
  |nil=>simp[Ty.mk]at h
  |cons y b=>
   cases y<;>simp only[Ty.mk]at h<;>try (cases h;done)
   split at h;rename_i c;simp only[Aj,EV]at h;obtain⟨rfl,rfl⟩:=h;refine⟨[_],rfl,?_⟩;have d:((Ty.arr n t).enc (Ty.cast c ‹_›))=_:=ZX c _;rw[d];have e: ∀y:Bc,lvs [y]=y.enc:=λy=>by rw[HT];simp[lvs]
   rw[e];exact DT.refl _;cases h
 | .prod ts,b,x,r,h=>ts.mk_spec b x r (by simpa only[Ty.mk]using h)
theorem QX.mk_spec: ∀(d:QX) (c:List Bc) (x:d.D) (r:List Bc),d.mk c=some (x,r)-> ∃a,c=a++r/\DT (lvs a) (d.cells x)
 | .one t,c,x,r,h=>t.mk_spec c x r (by simpa only[QX.mk]using h)
 | .cons t d,c,x,r,h=>by simp only[QX.mk]at h;split at h;rename_i y e f;split at h;rename_i z k g;simp only[Aj,EV]at h;obtain⟨rfl,rfl⟩:=h;obtain⟨a,rfl,i⟩:=t.mk_spec c y e f;obtain⟨b,rfl,j⟩:=d.mk_spec e z k g;exact⟨a++b,by rw[Ax],by rw[Gm];exact i.append j⟩;cases h;cases h
end
def Ty.isAgg:Ty->Bool
 | .arr .. =>true
 | .prod _=>true
 |_=>false
def Ty.all(t:Ty)(ls:List Bc):Option t.D:=
 match t.mk ls with
 |some (x,[])=>some x
 |_=>none
theorem FZ{x:t.D}(h:t.all d=some x):DT (Go.Ab.lvs d) (t.enc x).cells:=by unfold Ty.all at h;split at h;rename_i y c;obtain⟨a,rfl,b⟩:=t.mk_spec d y [] c;grind;cases h
def Ty.data(t:Ty)(v:TV):Option t.D:=
 match v with
 | .c x=>match t.isAgg|| !x.scalar with|true=>none|false=>t.all [x]
 | .g cs=>match t.isAgg with|true=>t.all cs|false=>none
 |_=>none
def Ty.scalar_cells(h:t.isAgg=false)(x:t.D):(t.enc x).cells=[t.enc x]:=by cases t<;>first|rfl|cases h
def Ty.agg_enc(h:t.isAgg=true)(x:t.D):t.enc x= .agg (t.enc x).cells:=by cases t<;>first|rfl|cases h
def LW{v:TV}{x:t.D}(h:t.data v=some x):Un v.enc (t.enc x):=by unfold Ty.data at h;split at h;rename_i y;split at h;cases h;rename_i a;simp at a;have:=FZ h;rw[t.scalar_cells a.1,HT,LU a.2]at this;obtain⟨u,b,c⟩:=this.2 0 _ rfl;simp at b;subst b;exact c;rename_i d;split at h;rename_i a;have:=(FZ h).agg;rw[<-t.agg_enc a]at this;exact this;cases h;cases h
def Ty.tv(t:Ty)(x:t.D):TV:=
 match t,x with
 | .bool,b=>.c (.bl b)
 | .int k,n=>.c (.it k n)
 | .str,s=>.c (.st s)
 | .list t,l=>.c (.ls t l)
 | .arr n t,a=>.g [.ar n t a]
 | .prod ts,x=>.g (ts.lvs x)
def Ty.tv_enc(t:Ty)(x:t.D):(t.tv x).enc=t.enc x:=by
 cases t with
 |arr n t=>
  have a: ∀y:Bc,Go.Ab.lvs [y]=y.enc:=λy=>by rw[HT];simp[Go.Ab.lvs]
  simp only[Ty.tv,TV.enc,a];rfl
 |prod b=>simp only[Ty.tv,TV.enc,b.lvs_cells];rfl
 |_=>rfl
def Ty.tv_ok(t:Ty)(x:t.D):(t.tv x).ok b:=by
 cases t with
 |prod a=>exact a.lvs_ok x
 |_=>exact JW trivial
def Dn.ro:Dn->Bool
 | .dead=>false
 | .live b _=>b
 | .buf b _ _ _ _=>b
 | .lp b _ _ _ _ _ _ _=>b
 | .mp b _ _ _=>b
def Dn.isLp:Dn->Bool
 | .lp .. =>true
 |_=>false
def wC(H H':An):Prop:= ∀(id:Nat),id<H.length-> ∀ro F n env ps a b s,H'[id]? =some (.lp ro F n env ps a b s)-> ∃ro0 s0,H[id]? =some (.lp ro0 F n env ps a b s0)
def wC.refl(H:An):wC H H:=λ_ _ _ _ _ _ _ _ _ _ h=>⟨_,_,h⟩
def Dn.lock:Dn->Dn
 | .dead=>.dead
 | .live _ cs=>.live true cs
 | .buf _ t l n ver=>.buf true t l n ver
 | .lp _ F n env ps a b s=>.lp true F n env ps a b s
 | .mp _ k t es=>.mp true k t es
theorem mb(e:Dn):e.lock.enc=e.enc:=by cases e<;>rfl
structure B4(H H':An):Prop where
 len:H.length<=H'.length
 refs: ∀id ver t n,TO H id ver t n->TO H' id ver t n
 ro: ∀(id:Nat) (e:Dn),H[id]? =some e->e.ro=true->H'[id]? =some e
 nb: ∀id,id<H.length->(∀t l n ver,H[id]? ≠some (.buf false t l n ver))-> ∀t l n ver,H'[id]? ≠some (.buf false t l n ver)
 lp:wC H H'
theorem B4.refl(H:An):B4 H H:=⟨Ak _,λ_ _ _ _ h=>h,λ_ _ h _=>h,λ_ _ h=>h,.refl H⟩
def B4.trans{a b c:An}(h:B4 a b)(k:B4 b c):B4 a c:=⟨Cv h.len k.len,λid d t n q=>k.refs id d t n (h.refs id d t n q),λid e q r=>k.ro id e (h.ro id e q r) r,λid q r=>k.nb id (DD q h.len) (h.nb id q r),λid q _ _ _ _ _ _ _ _ r=>by obtain⟨g,i,f⟩:=k.lp id (DD q h.len) _ _ _ _ _ _ _ _ r;exact h.lp id q _ _ _ _ _ _ _ _ f⟩
def B4.leaf(h:B4 I b)(k:z.ok I):z.ok b:=by
 cases z with
 |own id a t n=>exact h.refs id a t n k
 |_=>trivial
def B4.lok(h:B4 b I)(k:lok b d):lok I d:=λx c=>h.leaf (k x c)
def B4.tv(h:B4 b I)(k:e.ok b):e.ok I:=h.lok k
def B4.ent(h:B4 b I)(k:D.ok b):D.ok I:=by
 cases D with
 |live H d=>exact h.lok k
 |buf H t l n c=>exact k
 |dead=>trivial
 |lp=>exact k
 |mp=>exact k
def B4.env{H a:An}(h:B4 H a){env:BS}(k: ∀p∈env,p.2.ok H): ∀p∈env,p.2.ok a:=λp b=>h.tv (k p b)
theorem B4.push(H:An)(e:Dn):B4 H (H++[e]):=by refine⟨by simp,λid g t n h=>⟨by have:=h.1;simp;omega,λro f l d a b=>?_⟩,λid i b hr=>?_,λid c h=>by grind,λid c _ _ _ _ _ _ _ _ h=>by grind⟩;rw[CE h.1]at b;exact h.2 ro f l d a b;grind
def B4.set{H:An}{id:Nat}{r:Dn}(o:H[id]? =some D)(hr:D.ro=false)
  (y: ∀ro t l n k,r= .buf ro t l n k-> ∃d v p f,D= .buf d t v p f/\(f<k\/(f=k/\p=n)))
  (B: ∀ro F n env z a b s,r= .lp ro F n env z a b s-> ∃d w,D= .lp d F n env z a b w:=by intro _ _ _ _ _ _ _ _ h;cases h):B4 H (H.set id r):=by
 have m:id<H.length:=by rcases Aq id H.length with u|u;exact u;rw[Cs u]at o;cases o
 refine⟨by simp,λj k t n h=>⟨by simpa using h.1,λro I l G A g=>?_⟩,λj E g x=>?_,λj g h t l n k i=>?_,λj g _ _ _ _ _ _ _ _ i=>?_⟩;by_cases c:j=id;subst c;rw[HF m]at g;injection g with g;obtain⟨d,v,p,f,q1,q2⟩:=y _ _ _ _ _ g;subst q1;obtain⟨C,e⟩:=h.2 _ _ _ _ _ o;rcases q2 with q2|⟨rfl,rfl⟩;exact⟨by omega,λD=>by omega⟩;exact⟨C,e⟩;rw[D3 (λD=>c D.symm)]at g;exact h.2 _ _ _ _ _ g;have c:j≠id:=by rintro rfl;rw[o]at g;injection g with g;subst g;rw[hr]at x;cases x
 rw[D3 (λD=>c D.symm)];exact g;by_cases c:j=id;subst c;rw[HF m]at i;injection i with i;obtain⟨d,v,p,f,q1,_⟩:=y _ _ _ _ _ i;subst q1;have:d=false:=hr;subst this;exact h _ _ _ _ o;rw[D3 (λD=>c D.symm)]at i;exact h _ _ _ _ i;by_cases c:j=id;subst c;rw[HF m]at i;injection i with i;obtain⟨d,w,q⟩:=B _ _ _ _ _ _ _ _ i;exact⟨d,w,by rw[o,q]⟩;rw[D3 (λD=>c D.symm)]at i;exact⟨_,_,i⟩
theorem Od{H:An}(h: ∀x∈H,x.ok H)(b:D.ok (H++[D])): ∀x∈H++[D],x.ok (H++[D]):=by intro x a;rcases Ap.1 a with a|a;exact(B4.push H D).ent (h x a);grind
def So{H:An}{id:Nat}(d:B4 H (H.set id D))(h: ∀x∈H,x.ok H)(c:D.ok (H.set id D)): ∀x∈H.set id D,x.ok (H.set id D):=by intro x b;rcases Nv b with b|rfl;exact d.ent (h x b);exact c
def Frame(F:List Nat)(H H':An):Prop:= ∀j,j<H.length->j∉F->H'[j]? =H[j]?
def Frame.refl(F:List Nat)(H:An):Frame F H H:=λ_ _ _=>rfl
def Frame.push(F:List Nat)(H:An)(e:Dn):Frame F H (H++[e]):=λ_ a _=>CE a
theorem Frame.set{F:List Nat}{H:An}{id:Nat}(h:id∈F):Frame F H (H.set id D):=λj _ hn=>D3 λq:id=j=>hn (by grind)
def zX:TV->List Nat
 | .c (.raw a)=>je a
 | .c (.own id _ _ _)=>[id]
 | .aptr id .. =>[id]
 | .bptr id .. =>[id]
 |_=>[]
theorem zY(v:TV):je v.enc=zX v:=by
 cases v with
 |c x=>
  cases x with
  |_=>rfl
 |_=>rfl
def Pt(H:An)(e:Dn):A6 (H++[e])=A6 H++[e.enc]:=by simp[A6]
theorem M5(H:An)(id:Nat)(e:Dn):A6 (H.set id e)=(A6 H).set id e.enc:=by simp[A6]
theorem CV(H:An):(A6 H).length=H.length:=DF _
section
variable {R:Type}
def storeT(P:Program)(H:An)(t:TypeId)(p v:TV)(k:TV->An->Option R):Option R:=
 match v.words,tI P t with
 |some ws,some (_,n)=>
  match Nat.beq (yW ws) n with
  |false=>none
  |true=>
   match p with
   | .c (.raw (.ptr id 0 off))=>
    match H[id]? with
    |some (.live false cs)=>match vp cs off ws n with|some cs'=>k S4 (H.set id (.live false cs'))|none=>none
    |_=>none
   | .aptr id base m te i off=>
    match H[id]? with
    |some (.live false cs)=>
     match Uf cs base with
     |some (pre,.ar m' te' a::post)=>
      if h:(Ty.arr m' te').beq (Ty.arr m te)=true then
       (K3 (n:=m+1) (Ty.cast h a) i).bind λe=>
        match vp (te.lvs e) off ws n with
        |some ls=>match te.all ls with|some e'=>k S4 (H.set id (.live false (pre++(.ar m te (fx (n:=m+1) (Ty.cast h a) i e')::post))))|none=>none
        |none=>none
      else none
     |_=>none
    |_=>none
   | .bptr id ver te _ i off=>
    match H[id]? with
    |some (.buf false te' l n' ver')=>
     match Nat.beq ver ver' with
     |true=>
      if h:(Ty.list te').beq (Ty.list te)=true then
       (ix (α:=te.D) (Ty.cast h l) i).bind λe=>
        match vp (te.lvs e) off ws n with
        |some ls=>match te.all ls with|some e'=>k S4 (H.set id (.buf false te (BO (α:=te.D) (Ty.cast h l) i e') n' ver'))|none=>none
        |none=>none
      else none
     |false=>none
    |_=>none
   |_=>none
 |_,_=>none
theorem rf{b d:List AV}(h:N+d.length<=Q.length):UK (i++Q++b) (i.length+N) d=i++UK Q N d++b:=by
 unfold UK;have e:(i++Q++b).take (i.length+N)=i++Q.take N:=by rw[Ax,fi,CR (by omega),Ve,fj (by omega)]
 have f:(i++Q++b).drop (i.length+N+d.length)=Q.drop (N+d.length)++b:=by grind[List.drop_drop,List.drop_left]
 grind
theorem R6.set_less{H m n:As}{f cs':List AV}(k:N<H.length)(s:m=H.set N (.live U f))(t:n=H.set N (.live U cs'))(o:DT f cs')(d:x.Later y):R6 x y m n:=by
 subst s t;refine⟨by simp,λj p a=>?_⟩;by_cases b:j=N;subst b;rw[HF k]at a;injection a with a;subst a;refine .inr (.inl ⟨U,f,cs',by grind,rfl,o.1,λi l h=>?_⟩);obtain⟨v,q1,q2⟩:=o.2 i l h;exact⟨v,q1,λc r=>q2 _ _ (r.later d)⟩;rw[D3 (λe=>b e.symm)]at a;cases p with
 |live q c0=>exact .inr (.inl ⟨q,c0,c0,by grind,rfl,rfl,λi l h=>⟨l,h,λc r=>r.later d⟩⟩)
 |_=>grind
theorem bo(l:k.length=p.length)(i: ∀(j:Nat) (e:EU),k[j]? =some e->e≠ .dead-> ∃a,p[j]? =some a/\a≠ .dead):(cx X h p w).Later (cx X h k w):={size:=Ak _,keep:=λ_ _ _ _=>rfl,gen:=λ_ _=>Ak _,same:=λ_ _ _=>⟨rfl,rfl⟩,n:=by simp[cx,l],own:=λB _ m=>m.imp _root_.id (λ⟨j,e,H,d,c⟩=>by obtain⟨a,f,g⟩:=i j e H d;exact⟨j,a,f,g,c⟩)}
theorem Is.set_less{N:Nat}{b cs':List AV}(d:n<p.length)(h:Is P N o u p (DY v (p.set n (.live U b))))(f:DT b cs'):Is P N o u p (DY v (p.set n (.live U cs'))):=by
 refine Is.after h λX e w _=>?_;have a:(cx X e (p.set n (.live U b)) w).Later (cx X e (p.set n (.live U cs')) w):=by grind[bo]
 exact⟨R6.set_less d rfl rfl f a,λc r=>r.later a⟩
theorem G1{l:List R}{x:R}(h:l[N]? =some x):N<l.length:=by grind
variable {P:Program} {N:Nat} {o:Oper} {env:BS} {H:An} {k:TV->An->Option R} {r:R}
def ic(P:Program)(N:Nat)(o:Oper)(env:BS)(H:An)(F:List Nat)(k:TV->An->Option R)(r:R):Prop:=
 ∃v H',Is P N o (Bt env) (A6 H) (DY v.enc (A6 H'))/\k v H'=some r/\v.ok H'/\(∀e∈H',e.ok H')/\B4 H H'/\Frame F H H'
theorem py(ok:PB env H)(ho:o.op= .store a c L)(h:storeT P H a (Iu env c) (Iu env L) k=some r):ic P N o env H (zX (Iu env c)) k r:=by
 have W:=KU env;have a2:(Iu env L).ok H:=bA ok.env L;have ap:(Iu env c).ok H:=bA ok.env c;unfold storeT at h;split at h;rename_i ws b n hw ht;obtain⟨w1,Z,w3⟩:=WO hw;split at h;cases h;rename_i hn;have f:(lvs ws).length=n:=by grind[Z5,Nat.eq_of_beq_eq_true]
 have S:tI P a=some (b,(Iu env L).enc.cells.length):=by grind
 split at h;rename_i id d G;split at h;rename_i cs u;split at h;rename_i M hs;obtain⟨s1,s2,s3⟩:=ej hs f;have C:(A6 H)[id]? =some (.live 0 (lvs cs)):=by rw[E8,u];rfl
 have j:B4 H (H.set id (.live false M)):=B4.set u rfl λ_ _ _ _ _ h=>by cases h
 refine⟨S4,_,Is.store ho (id:=id) (g:=0) (off:=d) (v:=(Iu env L).enc) (by rw[W,G];rfl) (W L) w1 C S (by rw[Z,f];exact s2) ⟨rfl,?_⟩,h,cG,So j ok.heap (j.lok (s3 H (ok.heap _ (BK u)) (w3 H a2))),j,Frame.set (by rw[G];exact A2.2 rfl)⟩;rw[M5,Z,<-s1];rfl;cases h;cases h;rename_i id A m te i d G;split at h;rename_i cs u;split at h;rename_i w X t x p hs;split at h;rename_i hb;have U:=Ty.beq_eq _ _ hb;injection U with hm T;subst hm T;obtain⟨e,hg,h⟩:=Dr.1 h;split at h;rename_i ls R;split at h;rename_i O B;obtain⟨ad,J⟩:=No hs;obtain⟨s1,s2,_⟩:=ej R f;have s:=FZ B;have q:(Ty.cast hb x:RG (X+1) t.D)=x:=rfl;rw[q]at hg h;obtain⟨h0,I,rfl,rfl⟩:=ij hg;obtain⟨y,c2,q1,q2,q3⟩:=lg t.E x I;have C:(A6 H)[id]? =some (.live 0 (lvs w++y++(t.enc (x I)).cells++(c2++lvs p))):=by rw[E8,u,ad];show some (EU.live 0 (lvs (w++(.ar X t x::p))))=_;rw[Gm,HT,Yn,q1];simp only[Ax];rfl
 have j:B4 H (H.set id (.live false (w++(.ar X t (fx (n:=X+1) x (I.val:Int) O)::p)))):=B4.set u rfl λ_ _ _ _ _ h=>by cases h
 have al:lok H cs:=ok.heap _ (BK u);rw[ad]at al;obtain⟨o1,o2⟩:=Ie.1 al;refine⟨S4,_,?_,h,cG,So j ok.heap (j.lok (Ie.2 ⟨o1,λz hz=>?_⟩)),j,Frame.set (by rw[G];exact A2.2 rfl)⟩;have F:d+(lvs ws).length<=(t.enc (x I)).cells.length:=by rw[f,<-t.lvs_enc];exact s2
 have st:=Is.store (P:=P) (N:=N) (K:=DY .any ((A6 H).set id (.live 0 (UK (lvs w++y++(t.enc (x I)).cells++(c2++lvs p)) (A+(I.val:Int).toNat*t.sz+d) (Iu env L).enc.cells)))) ho (id:=id) (g:=0)
  (off:=A+(I.val:Int).toNat*t.sz+d) (v:=(Iu env L).enc) (by rw[W,G];rfl) (W L) w1 C S (by rw[Z,f];simp only[Ai,q2,J];have:t.E.sz=t.sz:=rfl;rw[f]at F;simp only[DE,this];omega) ⟨rfl,rfl⟩
 have ea:A+(I.val:Int).toNat*t.sz+d=(lvs w++y).length+d:=by rw[Ai,J,q2,DE];rfl
 rw[Z,ea,rf F]at st;have Q:=Is.set_less (cs':=lvs (w++(.ar X t (fx (n:=X+1) x (I.val:Int) O)::p))) (by rw[CV];exact G1 u) st (by rw[Gm,HT,Yn,q3 O];simp only[Ax];refine(DT.refl _).append ((DT.refl _).append (DT.append ?_ (DT.refl _)));rw[<-t.lvs_enc,<-s1];exact s);rw[M5];exact Q;rcases Am.1 hz with rfl|hz;trivial;exact o2 z (by simp[hz]);cases h;cases h;cases h;cases h;cases h;rename_i id V te nn i d G;split at h;rename_i t l Y a3 u;split at h;rename_i hv;have a1:=DP hv;subst a1;split at h;rename_i hb;have U:=Ty.beq_eq _ _ hb;injection U with T;subst T;obtain⟨e,hg,h⟩:=Dr.1 h;split at h;rename_i ls R;split at h;rename_i O B;obtain⟨s1,s2,_⟩:=ej R f;have s:=FZ B;have q:(Ty.cast hb l:List t.D)=l:=rfl;rw[q]at hg h;obtain⟨y,c2,q1,q2,q3,q4,_,q5⟩:=lr t.E hg;have hr:TO H id V t nn:=by rw[G]at ap;exact ap (.own id V t nn) (by simp[TV.refs])
 obtain⟨_,a0⟩:=hr.2 _ _ _ _ _ u;obtain⟨_,rfl⟩:=a0 rfl;have ax:Y=l.length:=ok.heap _ (BK u);have C:(A6 H)[id]? =some (.live Y (y++(t.enc e).cells++c2)):=by rw[E8,u];show some (EU.live Y (t.E.cl l))=_;rw[q1];rfl
 have j:B4 H (H.set id (.buf false t (BO l i O) Y V)):=B4.set u rfl λ_ _ _ _ _ h=>by cases h;exact⟨_,_,_,_,rfl,.inr ⟨rfl,rfl⟩⟩
 refine⟨S4,_,?_,h,cG,So j ok.heap ((Oc ax.symm).symm),j,Frame.set (by rw[G];exact A2.2 rfl)⟩;have F:d+(lvs ws).length<=(t.enc e).cells.length:=by rw[f,<-t.lvs_enc];exact s2
 have st:=Is.store (P:=P) (N:=N) (K:=DY .any ((A6 H).set id (.live Y (UK (y++(t.enc e).cells++c2) (i.toNat*t.sz+d) (Iu env L).enc.cells)))) ho (id:=id) (g:=Y)
  (off:=i.toNat*t.sz+d) (v:=(Iu env L).enc) (by rw[W,G];rfl) (W L) w1 C S (by rw[Z,f];simp only[Ai,q2];have:t.E.sz=t.sz:=rfl;rw[f]at F;rw[this];omega) ⟨rfl,rfl⟩
 have ea:i.toNat*t.sz+d=y.length+d:=by rw[q2];rfl
 rw[Z,ea,rf F]at st;have Q:=Is.set_less (cs':=t.E.cl (BO l i O)) (by rw[CV];exact G1 u) st (by unfold BO;rw[q5 O];refine DT.append (DT.append (DT.refl _) ?_) (DT.refl _);rw[<-t.lvs_enc,<-s1];exact s);rw[M5];exact Q;cases h;cases h;cases h;cases h;cases h;cases h;cases h
end
section
variable {R:Type}
def sM(P:Program)(H:An)(t:TypeId)(k:TV->An->Option R):Option R:=
 match nF P t with
 |some z=>k (.c (.raw (.ptr H.length 0 0))) (H++[.live false z])
 |none=>none
def yv(H:An)(v:TV)(k:TV->An->Option R):Option R:=
 match v.words with
 |some ws=>k (.c (.raw (.ptr H.length 0 0))) (H++[.live false ws])
 |none=>none
def fT(t:Ty):List TV->Option (List t.D)
 |[]=>some []
 |v::r=>match t.data v,fT t r with|some x,some xs=>some (x::xs)|_,_=>none
def zN(P:Program)(t:TypeId):Option Ty:=
 match eI P t with
 |some (none,e,sz)=>
  match tj P 1000 e with
  |some te=>if sz=te.sz/\QW P e=true then some te else none
  |none=>none
 |_=>none
def bv(len:Nat)(te:Ty)(parts:Array (Nat×Operand))(vs:List TV):Bool:=
 decide (parts.toList.map (·.1)=List.range len)&&(vs.all λv=>match v.words with|some ws=>Nat.beq (yW ws) te.sz|none=>false)&&Nat.ble len 4096&&Nat.ble te.sz 4096
def W5(P:Program)(env:BS)(H:An)(t:TypeId)(len:Nat)(parts:Array (Nat×Operand))(k:TV->An->Option R):Option R:=
 match zN P t with
 |some te=>
  match bv len te parts (parts.toList.map λp=>Iu env p.2)with
  |true=>match fT te (parts.toList.map λp=>Iu env p.2)with|some xs=>k (.c (.own H.length 0 te xs.length)) (H++[.buf false te xs xs.length 0])|none=>none
  |false=>none
 |none=>none
def kC(P:Program)(env:BS)(t:TypeId)(len:Nat)(parts:Array (Nat×Operand))(k:TV->Option R):Option R:=
 match zN P t with
 |some te=>
  match bv len te parts (parts.toList.map λp=>Iu env p.2)with
  |true=>match fT te (parts.toList.map λp=>Iu env p.2)with|some xs=>k (.c (.ls te xs))|none=>none
  |false=>none
 |none=>none
def bp(P:Program)(H:An)(t:TypeId)(x y:TV)(k:TV->An->Option R):Option R:=
 match eI P t,x,y with
 |some (none,e,_),.c (.it _ l),.c (.it _ c)=>
  match zN P t,nF P e with
  |some te,some z=>match te.all z with|some zd=>(mk zd l c).bind λr=>k (.c (.own H.length 0 te r.length)) (H++[.buf false te r r.length 0])|none=>none
  |_,_=>none
 |_,_,_=>none
def nC(P:Program)(H:An)(src dst:TypeId)(x:TV)(k:TV->An->Option R):Option R:=
 match P.underlying src,P.underlying dst,x with
 |some _,some (.slice e),.c (.st s)=>
  match P.underlying e with
  |some (.int .u8)=>k (.c (.own H.length 0 (.int .u8) (RF s).length)) (H++[.buf false (.int .u8) (RF s) (RF s).length 0])
  |_=>none
 |_,_,_=>none
def yB(H:An)(te:Ty)(v:TV):Option (List te.D):=
 match v with
 | .c (.ls te' l)=>if h:(Ty.list te').beq (Ty.list te)=true then some (Ty.cast h l)else none
 | .c (.own id ver te' _)=>if h:(Ty.list te').beq (Ty.list te)=true then(match dK H id ver te' with|some l=>some (Ty.cast (t:=.list te') (t':=.list te) h l)|none=>none)else none
 | .c .nil=>some []
 |_=>none
def lG(P:Program)(H:An)(t:TypeId)(s x:TV)(k:TV->An->Option R):Option R:=
 match zN P t with
 |some te=>
  match yB H te x with
  |some xs=>
   match s with
   | .c .nil=>(app [] xs).bind λr=>k (.c (.own H.length 0 te r.length)) (H++[.buf false te r r.length 0])
   | .c (.own id ver te' _)=>
    match H[id]? with
    |some (.buf false t2 l _ ver')=>
     match Nat.beq ver ver' with
     |true=>
      if h:(Ty.list t2).beq (Ty.list te)=true/\(Ty.list te').beq (Ty.list te)=true then
       (app (α:=te.D) (Ty.cast h.1 l) xs).bind λr=>k (.c (.own id (ver+1) te r.length)) (H.set id (.buf false te r r.length (ver+1)))
      else none
     |false=>none
    |_=>none
   |_=>none
  |none=>none
 |none=>none
variable {P:Program} {N:Nat} {o:Oper} {env:BS} {H:An} {k:TV->An->Option R} {r:R}
theorem mi{H:An}{l:List t.D}:(TV.c (.own H.length N t l.length)).ok (H++[.buf E t l l.length N]):=by refine JW ⟨by simp,λd h f g b e=>?_⟩;grind
def lL(H:An)(b:Ty)(n a:Nat):(TV.c (.own H.length a b n)).enc= .sl (A6 H).length n b.sz 0 n:=by rw[CV];rfl
def o0(ok:PB env H)(b:o.op= .alloc a)(h:sM P H a k=some r):ic P N o env H [] k r:=by
 unfold sM at h;split at h;rename_i z d;obtain⟨e,f⟩:=WS d;refine⟨_,_,?_,h,JW trivial,Od ok.heap (f _),B4.push _ _,Frame.push _ _ _⟩;have t:(TV.c (.raw (.ptr H.length 0 0))).enc= .ptr (A6 H).length 0 0:=by rw[CV];rfl
 rw[t,Pt];exact Is.alloc b e ⟨rfl,rfl⟩;cases h
def sS(ok:PB env H)(b:o.op= .box a c)(h:yv H (Iu env c) k=some r):ic P N o env H [] k r:=by
 unfold yv at h;split at h;rename_i i d;obtain⟨e,f,g⟩:=WO d;refine⟨_,_,?_,h,JW trivial,Od ok.heap ((B4.push _ _).lok (g H (bA ok.env c))),B4.push _ _,Frame.push _ _ _⟩;have t:(TV.c (.raw (.ptr H.length 0 0))).enc= .ptr (A6 H).length 0 0:=by rw[CV];rfl
 rw[t,Pt];exact Is.box b (KU env c) e ⟨rfl,by rw[f];rfl⟩;cases h
def gF{t:Ty}: ∀{b:List TV} {a:List t.D},fT t b=some a->DT (b.map TV.enc) (a.map t.enc)
 |[],a,h=>by simp only[fT,Aj]at h;subst h;exact DT.refl _
 |v::r,a,h=>by simp only[fT]at h;split at h;rename_i x e c d;injection h with h;subst h;have:=gF d;exact(DT.one (LW c)).append this;cases h
def dZ{t:Ty}: ∀{e:List TV} {b:List t.D},fT t e=some b->DT ((e.map TV.enc).flatMap AV.cells) (t.E.cl b)
 |[],b,h=>by simp only[fT,Aj]at h;subst h;exact DT.refl _
 |v::r,b,h=>by simp only[fT]at h;split at h;rename_i x k a g;injection h with h;subst h;have i:=dZ g;refine DT.append ?_ i;unfold Ty.data at a;split at a;rename_i y;split at a;cases a;rename_i d;simp at d;have c:=FZ a;rw[HT,LU d.2,<-Bc.scalar_cells d.2]at c;have f:lvs ([]:List Bc)=[]:=rfl;rw[f,Do]at c;exact c;rename_i j;split at a;exact FZ a;cases a;cases a;cases h
theorem da(h:zN P a=some t): ∃e,eI P a=some (none,e,t.sz)/\QW P e=true:=by grind[zN]
theorem mq(h:zN P a=some t)(c:bv N t F (F.toList.map λp=>Iu env p.2)=true):
  Q7 P (Bt env) a N F=some (t.sz,(F.toList.map λp=>Iu env p.2).map TV.enc):=by
 obtain⟨e,k,l⟩:=da h;unfold bv at c;simp only[BT,decide_eq_true_eq]at c;obtain⟨⟨⟨f,g⟩,i⟩,j⟩:=c;have d:(F.toList.map λp=>BA (Bt env) p.2)=(F.toList.map λp=>Iu env p.2).map TV.enc:=by grind[List.map_congr_left,KU]
 unfold Q7;simp only[k,d];refine if_pos ⟨t.sz_pos,l,f,?_,Nx i,Nx j⟩;rw[Fy];intro v n;obtain⟨u,m,rfl⟩:=Bi.1 n;have:=Fy.1 g u m;split at this<;>simp_all[WO,Z5]
theorem vF{b:List t.D}(h:fT t m=some b):b.length=m.length:=by have:=(gF h).1;grind
theorem R6.push_less{H:As}(n:DT i Q)(d:x.Later y):R6 x y (H++[.live N i]) (H++[.live N Q]):=by
 refine⟨by simp,λj o e=>?_⟩;rcases Aq j H.length with b|b;rw[CE b]at e;cases o with
 |live p c0=>exact .inr (.inl ⟨p,c0,c0,by grind,rfl,rfl,λg m h=>⟨m,h,λc r=>r.later d⟩⟩)
 |_=>grind
 have k:=G1 e;simp at k;have l:j=H.length:=by omega
 subst l;simp at e;subst e;refine .inr (.inl ⟨N,i,Q,by simp,rfl,n.1,λg m h=>?_⟩);obtain⟨v,q1,q2⟩:=n.2 g m h;exact⟨v,q1,λc r=>q2 _ _ (r.later d)⟩
theorem Is.push_less(h:Is P N o u p (DY v (p++[.live n i])))(E:DT i Q):Is P N o u p (DY v (p++[.live n Q])):=by
 refine Is.after h λX f w _=>?_;have b:(cx X f (p++[.live n i]) w).Later (cx X f (p++[.live n Q]) w):=by refine bo (by simp) λj e l k=>?_;grind
 exact⟨R6.push_less E b,λc r=>r.later b⟩
def gk(ok:PB env H)(f:o.op= .buildSlice a n F)(h:W5 P env H a n F k=some r):ic P N o env H [] k r:=by unfold W5 at h;split at h;rename_i i d;split at h;rename_i g;split at h;rename_i j c;have e:=mq d g;have b:=vF c;refine⟨_,_,?_,h,mi,Od ok.heap rfl,B4.push _ _,Frame.push _ _ _⟩;rw[lL,Pt];have:=Rl (N:=N) (H:=A6 H) (K:=DY _ _) f e ⟨rfl,rfl⟩;rw[DF,<-b]at this;exact Is.push_less this (dZ c);cases h;cases h;cases h
theorem AAP{a:Ty}{vs:List AV}{l:List a.D}(h:DT vs (l.map a.enc))(I:DT (vs.flatMap AV.cells) (a.E.cl l))(z: ∀v∈vs,v.cells.length=a.sz):Un (.vs a.sz vs) (.vs a.sz (l.map a.enc)):=by
 intro x c L;cases L with
 |vs f t o w C p=>
  have hn:(l.map a.enc).length=vs.length:=h.1;rw[<-hn];have key: ∀(j:Nat) (e:AV) (i:Nat) (v:AV),(l.map a.enc)[j]? =some e->e.cells[i]? =some v-> ∃b k,vs[j]? =some b/\b.cells[i]? =some k/\Un k v:=by
   intro j e i v d m;obtain⟨b,q1,_⟩:=h.2 j e d;have g: ∀u∈l.map a.enc,u.cells.length=a.sz:=λu J=>by obtain⟨y,_,rfl⟩:=Bi.1 J;exact a.enc_len y
   have A:=iB g j e i v d m;obtain⟨k,r,s⟩:=I.2 _ v A;have H:i<a.sz:=by grind
   have F:=z b (BK q1);have G:b.cells[i]? =some (b.cells[i]'(by omega)):=Az (by omega);have M:=iB z j b i _ q1 G;grind
  refine Bg.vs f (by grind) o (λj e d=>?_) (λn=>?_) λj e i v d m=>?_;obtain⟨y,_,rfl⟩:=Bi.1 (BK d);exact a.enc_len y;obtain⟨B,q,q1,q2,q3,q4⟩:=C (λe=>n (Eb (by grind)));refine⟨B,q,q1,q2,q3,λj e i v d m=>?_⟩;obtain⟨b,k,r,s,_⟩:=key j e i v d m;grind;obtain⟨b,k,r,s,K⟩:=key j e i v d m;exact K _ _ (p j b i k r s)
def jj(ok:PB env H)(s:o.op= .makeSlice a c L)(h:bp P H a (Iu env c) (Iu env L) k=some r):ic P N o env H [] k r:=by
 have i:=KU env;unfold bp at h;split at h;rename_i e sz Q l O t j v w;split at h;rename_i b z d A;split at h;rename_i y f;obtain⟨I,q,h⟩:=Dr.1 h;obtain⟨M,m,u⟩:=da d;rw[j]at m;obtain⟨rfl,rfl⟩:=m;obtain⟨J,R⟩:=WS A;have x:=FZ f;obtain⟨⟨C,D,F⟩,p,G⟩:=AC3 b.E y q;refine⟨_,_,?_,h,mi,Od ok.heap rfl,B4.push _ _,Frame.push _ _ _⟩;rw[lL,Pt];have g:(lvs z).length=b.sz:=by rw[<-x.1,b.enc_len]
 have:=Is.makeSlice (N:=N) (H:=A6 H) (K:=DY _ _) s j b.sz_pos u J g (by rw[i,v];rfl) (by rw[i,w];rfl) C D F ⟨rfl,rfl⟩;rw[p]at this;apply Is.push_less this;rw[<-G,p];induction I.length with
 |zero=>exact DT.refl _
 |succ n B=>exact DT.append x B
 cases h;cases h;cases h
def nD(ok:PB env H)(j:o.op= .convert G a c)(h:nC P H G a (Iu env c) k=some r):ic P N o env H [] k r:=by have f:=KU env;unfold nC at h;split at h;rename_i u e s l g m;split at h;rename_i i;refine⟨_,_,?_,h,mi,Od ok.heap rfl,B4.push _ _,Frame.push _ _ _⟩;rw[lL,Pt];obtain⟨b,d⟩:=ACK s;have:=jU (N:=N) (H:=A6 H) (K:=DY _ _) j l g i (by rw[f,m];rfl) ⟨rfl,rfl⟩;rw[d,b]at this;exact this;cases h;cases h
theorem tT{f:List t.D}(k: ∀d∈H,d.ok H)(p:e.ok H)(h:yB H t e=some f):Mu (A6 H) t.sz e.enc=some (f.length,t.E.cl f):=by unfold yB at h;split at h;rename_i a l;split at h;rename_i g;have c:=Ty.beq_eq _ _ g;injection c with b;subst b;injection h with h;have j:=h;subst j;simp only[TV.enc,Bc.one,Mu,DF];rfl;cases h;rename_i id i a n;split at h;rename_i g;have c:=Ty.beq_eq _ _ g;injection c with b;subst b;split at h;rename_i l m;injection h with h;have j:l=f:=h;obtain⟨q,r⟩:=gj k (p (.own id i a n) (by simp[TV.refs])) m;have s:=a.E.clen l;have o:a.E.sz=a.sz:=rfl;grind[TV.enc,Bc.one,Mu];cases h;cases h;injection h with h;subst h;rfl;cases h
theorem nI(ok:PB env H)(R:o.op= .call {callee:=.builtin .append,args:= #[c,L],argTypes:= #[a,G]})(Y:a=G)(h:lG P H a (Iu env c) (Iu env L) k=some r):ic P N o env H (zX (Iu env c)) k r:=by
 subst Y;have x:=KU env;unfold lG at h;split at h;rename_i te C;obtain⟨e,Q,S⟩:=da C;split at h;rename_i w I;have M:=tT ok.heap (bA ok.env L) I;rw[<-x]at M;split at h;rename_i b;obtain⟨l,u,X⟩:=Dr.1 h;obtain⟨W,j⟩:=gg u;rw[CC]at j;subst j;refine⟨_,_,?_,X,mi,Od ok.heap rfl,B4.push _ _,Frame.push _ _ _⟩;rw[lL,Pt];have:=ZV (N:=N) (H:=A6 H) (K:=DY _ _) R Q te.sz_pos S (by rw[x,b];rfl) M (by grind) ⟨rfl,rfl⟩;exact this;rename_i id g al n b;split at h;rename_i d l J T v;split at h;rename_i Z;have t:=DP Z;subst t;split at h;rename_i y;have F:=Ty.beq_eq _ _ y.1;injection F with p;have s:=Ty.beq_eq _ _ y.2;injection s with q;subst q;subst p;obtain⟨l2,u,h⟩:=Dr.1 h;have f:(Ty.cast y.1 l:List d.D)=l:=rfl;rw[f]at u;obtain⟨W,rfl⟩:=gg u;have hr:TO H id g d n:=by have:=bA ok.env c;rw[b]at this;exact this (.own id g d n) (by simp[TV.refs])
 obtain⟨_,A⟩:=hr.2 _ _ _ _ _ v;obtain⟨_,rfl⟩:=A rfl;have z:J=l.length:=ok.heap _ (BK v);have i:(A6 H)[id]? =some (.live J (d.E.cl l)):=by rw[E8,v];rfl
 have m:B4 H (H.set id (.buf false d (l++w) (l++w).length (g+1))):=B4.set v rfl λ_ _ _ _ _ h=>by cases h;exact⟨_,_,_,_,rfl,.inl (Nat.lt_succ_self _)⟩
 refine⟨_,_,?_,h,JW ⟨by grind,λad G l' n2 U hg=>?_⟩,So m ok.heap rfl,m,Frame.set (by rw[b];exact A2.2 rfl)⟩;have O:=d.E.clen l;have B:d.E.sz=d.sz:=rfl;rw[B]at O;have:=QV (N:=N) (H:=A6 H) (g':=J+w.length) (K:=DY _ _) R Q d.sz_pos S (by rw[x,b];rfl) i (by rw[O,z]) M (by grind) (by rcases RM w.length with V|V;grind;exact .inl (by omega)) ⟨rfl,rfl⟩;grind[M5,List.length_append,Sv.cl,TV.enc,Bc.one,Dn.enc];grind;cases h;cases h;cases h;cases h;cases h;cases h
end
def Mi(id ver:Nat)(t:Ty)(l:List t.D):Bc->Bc
 | .own id' ver' t' n=>match Nat.beq id id'&&Nat.beq ver ver' with|true=>.ls t l|false=>.own id' ver' t' n
 |x=>x
mutual
def iF(id ver:Nat)(t:Ty)(l:List t.D):TV->TV
 | .c x=>.c (Mi id ver t l x)
 | .g cs=>.g (cs.map (Mi id ver t l))
 | .tup vs=>.tup (bE id ver t l vs)
 | .aptr a b n te i o=>.aptr a b n te i o
 | .bptr a v te n i o=>.bptr a v te n i o
 | .vptr cs post=>.vptr cs post
def bE(id ver:Nat)(t:Ty)(l:List t.D):List TV->List TV
 |[]=>[]
 |v::r=>iF id ver t l v::bE id ver t l r
end
def PO(id ver:Nat)(t:Ty)(l:List t.D):Dn->Dn
 | .live false cs=>.live false (cs.map (Mi id ver t l))
 |e=>e
def frz(id:Nat)(env:BS)(H:An):Option (BS×An):=
 match H[id]? with
 |some (.buf false t l _ ver)=>some (env.map λp=>(p.1,iF id ver t l p.2),(H.map (PO id ver t l)).set id .dead)
 |_=>none
def RX(x y:Cx)(a b:List AV):Prop:=b.length=a.length/\ ∀(i:Nat) (v':AV),b[i]? =some v'-> ∃v,a[i]? =some v/\Conv x y v v'
theorem RX.append{b f:List AV}(c:RX x y i Q)(g:RX x y b f):RX x y (i++b) (Q++f):=by refine⟨by simp[c.1,g.1],λa j h=>?_⟩;rcases Aq a Q.length with d|d;rw[CE d]at h;obtain⟨v,q1,q2⟩:=c.2 a j h;grind;rw[Cr d]at h;obtain⟨v,q1,q2⟩:=g.2 _ j h;exact⟨v,by rw[Cr (by rw[<-c.1];exact d),<-c.1];exact q1,q2⟩
def RX.later{x y:Cx}(l:x.Later y)(a:List AV):RX x y a a:=⟨rfl,λ_ v h=>⟨v,h,λ_ r=>r.later l⟩⟩
theorem RX.one{b:AV}(h:Conv x y v b):RX x y [v] [b]:=⟨rfl,λi u a=>by
 match i,a with
 |0,a=>grind
 |i+1,a=>simp at a⟩
def RX.agg{x y:Cx}{b a:List AV}(h:RX x y b a):Conv x y (.agg b) (.agg a):=by
 intro c r;cases r with
 |agg i e hr=>refine .agg (by rw[i,h.1]) e λj k d g f=>?_;obtain⟨v,q1,q2⟩:=h.2 j k g;exact q2 _ (hr j v d q1 f)
def RX.tup{x y:Cx}{b a:List AV}(h:RX x y b a):Conv x y (.tup b) (.tup a):=by
 intro c r;cases r with
 |tup g hr=>refine .tup (by rw[g,h.1]) λj i d f e=>?_;obtain⟨v,q1,q2⟩:=h.2 j i f;exact q2 _ (hr j v d q1 e)
section
variable {x y:Cx} {H:An} {id n ver:Nat} {t:Ty} {l:List t.D} (lat:x.Later y) (hid:H[id]? =some (.buf false t l n ver)) (hc:Conv x y (.sl id n t.sz 0 n) (.vs t.sz (l.map t.enc)))
include lat hid hc
theorem iD(e:z.ok H):RX x y z.enc (Mi id ver t l z).enc/\Conv x y z.one (Mi id ver t l z).one:=by
 have same: ∀w:Bc,RX x y w.enc w.enc/\Conv x y w.one w.one:=λw=>⟨.later lat _,λ_ r=>r.later lat⟩
 cases z with
 |own f b h g=>simp only[Mi];split;rename_i a;simp only[BT]at a;have c:=DP a.1;have d:=DP a.2;subst c d;obtain⟨_,q⟩:=e.2 _ _ _ _ _ hid;obtain⟨rfl,rfl⟩:=q rfl;exact⟨.one hc,hc⟩;grind
 |_=>exact same _
def jX: ∀{a:List Bc},lok H a->RX x y (lvs a) (lvs (a.map (Mi id ver t l)))
 |[],_=>.later lat _
 |z::r,h=>by rw[Bb,HT,HT];exact(iD lat hid hc (h z (by simp))).1.append (jX λw b=>h w (by simp[b]))
mutual
theorem mK: ∀{v:TV},v.ok H->Conv x y v.enc (iF id ver t l v).enc
 | .c z,h=>(iD lat hid hc (h z (by simp[TV.refs]))).2
 | .g cs,h=>(jX lat hid hc h).agg
 | .tup vs,h=>RX.tup (kR (vs:=vs) h)
 | .aptr ..,_=>λ_ r=>r.later lat
 | .bptr ..,_=>λ_ r=>r.later lat
 | .vptr ..,_=>λ_ r=>r.later lat
theorem kR: ∀{vs:List TV},(TV.tup vs).ok H->RX x y (TV.encL vs) (TV.encL (bE id ver t l vs))
 |[],_=>.later lat _
 |v::r,h=>by simp only[TV.encL,bE];have a:v.ok H:=jp h (by simp);have b:(TV.tup r).ok H:=Px λw c=>jp h (by simp[c]);exact(RX.one (mK a)).append (kR b)
end
end
def mJ{l:List t.D}(c:B4 I b)(d:z.ok I):(Mi N n t l z).ok b:=by
 cases z with
 |own f e h g=>simp only[Mi];split;trivial;exact c.leaf d
 |_=>exact c.leaf d
def uQ{l:List t.D}(H:B4 I b)(h:lok I d):lok b (d.map (Mi N n t l)):=λz f=>by obtain⟨w,e,rfl⟩:=Bi.1 f;exact mJ H (h w e)
mutual
theorem qj{H d:An}{id b:Nat}{t:Ty}{l:List t.D}(a:B4 H d): ∀{v:TV},v.ok H->(iF id b t l v).ok d
 | .c z,h=>JW (mJ a (h z (by simp[TV.refs])))
 | .g cs,h=>uQ a h
 | .tup vs,h=>oF a h
 | .aptr ..,h=>a.lok h
 | .bptr ..,h=>a.lok h
 | .vptr ..,h=>a.lok h
theorem oF{H c:An}{id b:Nat}{t:Ty}{l:List t.D}(d:B4 H c): ∀{e:List TV},(TV.tup e).ok H->(TV.tup (bE id b t l e)).ok c
 |[],_=>λz i=>by simp[bE,TV.refs,TV.refsL]at i
 |v::r,h=>by have f:v.ok H:=jp h (by simp);have g:(TV.tup r).ok H:=Px λw a=>jp h (by simp[a]);refine Px λw a=>?_;simp only[bE]at a;rcases Am.1 a with rfl|a;exact qj d f;exact jp (oF d g) a
end
theorem xI{l:List t.D}(f:b[N]? =some (.buf false t l n U)):B4 b ((b.map (PO N U t l)).set N .dead):=by
 have s:=G1 f;refine⟨by simp,λj y x v h=>⟨by simpa using h.1,λro K E F u c=>?_⟩,λj e c hr=>?_,λj m h x l2 v y a=>?_,λj m _ _ _ _ _ _ _ _ a=>?_⟩;by_cases d:j=N;grind;rw[D3 (λe=>d e.symm),CL]at c;cases a:b[j]? with
 |none=>grind
 |some e=>
  rw[a]at c;simp only[Bf,Aj]at c;cases e with
  |live H k=>cases H<;>simp[PO]at c
  |dead=>cases c
  |lp=>cases c
  |mp=>cases c
  |buf H q o p r=>simp only[PO]at c;exact h.2 _ _ _ _ _ (by rw[a,c])
 have d:j≠N:=by rintro rfl;rw[f]at c;injection c with c;subst c;cases hr
 rw[D3 (λe=>d e.symm),CL,c];cases e with
 |live H k=>cases H with|true=>rfl|false=>cases hr
 |dead=>cases hr
 |buf H q o p r=>rfl
 |lp=>rfl
 |mp=>rfl
 by_cases d:j=N;grind;rw[D3 (λe=>d e.symm),CL]at a;cases g:b[j]? with
 |none=>rw[g]at a;cases a
 |some e=>
  rw[g]at a;simp only[Bf,Aj]at a;cases e with
  |live H k=>cases H<;>simp[PO]at a
  |dead=>cases a
  |lp=>cases a
  |mp=>cases a
  |buf H q o p r=>grind[PO]
 by_cases d:j=N;grind[List.getElem?_set_self];rw[D3 (λe=>d e.symm),CL]at a;cases g:b[j]? with
 |none=>rw[g]at a;cases a
 |some e=>
  rw[g]at a;simp only[Bf,Aj]at a;cases e with
  |live H k=>cases H<;>simp[PO]at a
  |dead=>cases a
  |buf H q o p r=>cases a
  |mp=>cases a
  |lp w z G C I A B J=>injection a with _ q2 q3 q4 q5 q6 q7 _;subst q2 q3 q4 q5 q6 q7;exact⟨_,_,rfl⟩
theorem ABC{id:Nat}{env env2:BS}{H K:An}(ok:PB env H)(h:frz id env H=some (env2,K)):PB env2 K/\B4 H K/\ ∀N,F4 N (A6 H).length (Bt env) (A6 H) (Bt env2) (A6 K):=by
 unfold frz at h;split at h;rename_i t l n i d;simp only[Aj,EV]at h;obtain⟨rfl,rfl⟩:=h;have G:=G1 d;have A:=xI d;have hn:n=l.length:=ok.heap _ (BK d);refine⟨⟨λp M=>?_,λe R=>?_⟩,A,λN=>?_⟩;obtain⟨q,z,rfl⟩:=Bi.1 M;exact qj A (ok.env q z);rcases Nv R with R|rfl;obtain⟨k,S,rfl⟩:=Bi.1 R;have F:=ok.heap k S;cases k with
 |live b D=>
  cases b with
  |true=>exact A.lok F
  |false=>exact uQ A F
 |dead=>trivial
 |buf b Q P T U=>exact F
 |lp=>exact F
 |mp=>exact F
 trivial;have u:(A6 H)[id]? =some (.live n (t.E.cl l)):=by rw[E8,d];rfl
 refine Tt (by simp[A6]) λX g w s=>?_;have C: ∀j,(A6 ((H.map (PO id i t l)).set id .dead))[j]? =if j=id then some .dead else(H[j]?).map λe=>(PO id i t l e).enc:=by intro j;rw[E8];by_cases v:j=id;subst v;rw[if_pos rfl,HF (by simpa using G)];rfl;grind
 have back: ∀(j:Nat) (e:EU),(A6 ((H.map (PO id i t l)).set id .dead))[j]? =some e->e≠ .dead->j≠id/\ ∃k,(A6 H)[j]? =some k/\k≠ .dead:=by
  intro j e a f;rw[C]at a;split at a;injection a with a;exact(f a.symm).elim;rename_i v;refine⟨v,?_⟩;cases z:H[j]? with
  |none=>rw[z]at a;cases a
  |some k=>
   refine⟨k.enc,by rw[E8,z];rfl,λL=>f ?_⟩;rw[z]at a;simp only[Bf,Aj]at a;cases k with
   |live b D=>simp[Dn.enc]at L
   |dead=>exact a.symm
   |buf b Q P T U=>simp[Dn.enc]at L
   |lp=>simp[Dn.enc]at L
   |mp=>simp[Dn.enc]at L
 have y:(cx X g (A6 H) w).Later (cx X g (A6 ((H.map (PO id i t l)).set id .dead)) w):=bo (by simp[A6]) λj e a f=>(back j e a f).2;have hO: ∀B,g.io id=some B-> ¬(cx X g (A6 ((H.map (PO id i t l)).set id .dead)) w).O B:=by rintro B I (hX|⟨j,e,a,f,J⟩);exact(s.out B hX).2 ⟨id,_,u,by simp,I⟩;obtain⟨v,k,Y,Z⟩:=back j e a f;exact v (s.inj j id _ _ B Y u Z (by simp) J I)
 have o:Conv (cx X g (A6 H) w) (cx X g (A6 ((H.map (PO id i t l)).set id .dead)) w) (.sl id n t.sz 0 n) (.vs t.sz (l.map t.enc)):=λc r=>k9 s u (ABM t.E l) (by rw[hn];exact DF _) y rfl hO r;refine⟨⟨by simp[A6],λj e' a=>?_⟩,λtt v' m=>?_⟩;rw[C]at a;split at a;injection a with a;exact .inl a.symm;cases z:H[j]? with
 |none=>rw[z]at a;cases a
 |some k=>
  rw[z]at a;simp only[Bf,Aj]at a;have x:(A6 H)[j]? =some k.enc:=by rw[E8,z];rfl
  cases k with
  |live b D=>
   refine .inr (.inl ?_);cases b with
   |true=>simp only[PO,Dn.enc]at a;exact⟨0,lvs D,lvs D,x,a.symm,rfl,(RX.later y _).2⟩
   |false=>simp only[PO,Dn.enc]at a;obtain⟨V,W⟩:=jX y d o (ok.heap _ (BK z));exact⟨0,lvs D,_,x,a.symm,V,W⟩
  |dead=>exact .inl a.symm
  |buf b Q P T U=>simp only[PO,Dn.enc]at a;exact .inr (.inl ⟨T,Q.E.cl P,Q.E.cl P,x,a.symm,rfl,(RX.later y _).2⟩)
  |lp=>subst a;exact .inr (.inr ⟨x,λ_ _ h=>by cases h⟩)
  |mp=>subst a;exact .inr (.inr ⟨x,λ_ _ h=>by cases h⟩)
 simp only[Bt,Nt,Bi]at m;obtain⟨p,M,e⟩:=m;simp only[Function.comp,EV]at e;obtain⟨rfl,rfl⟩:=e;exact⟨p.2.enc,Bi.2 ⟨p,M,rfl⟩,mK y d o (ok.env p M)⟩;cases h
@[reducible] def DL:List Ty->Type
 |[]=>Unit
 |[t]=>t.D
 |t::u::r=>t.D×DL (u::r)
def vP:(ts:List Ty)->List TV->Option (DL ts)
 |[],[]=>some ()
 |[t],[v]=>t.data v
 |t::u::r,v::vs=>
  match t.data v,vP (u::r) vs with
  |some x,some y=>some (x,y)
  |_,_=>none
 |_,_=>none
def qB:(ts:List Ty)->DL ts->List TV
 |[],_=>[]
 |[t],x=>[t.tv x]
 |t::u::r,x=>t.tv x.1::qB (u::r) x.2
def fy:(ts:List Ty)->DL ts->List AV
 |[],_=>[]
 |[t],x=>[t.enc x]
 |t::u::r,x=>t.enc x.1::fy (u::r) x.2
def one:List TV->TV
 |[v]=>v
 |vs=>.tup vs
def jq:List AV->AV
 |[v]=>v
 |vs=>.tup vs
def LN(bt:Ty):(rs:List Ty)->DL (rs++[bt])->DL rs×bt.D
 |[],y=>((),y)
 |[_],y=>(y.1,y.2)
 |_::u::r,y=>((y.1,(LN bt (u::r) y.2).1),(LN bt (u::r) y.2).2)
inductive Su where
 |c2 (f:FuncId) (te:Ty) (ds rs:List Ty) (post:List AV) (g:List te.D->DL ds->Option (DL (rs++[.list te])))
 |cl (f:FuncId) (t:Ty)
 |c0 (f:FuncId) (ds rs:List Ty) (g:DL ds->Option (DL rs))
 |c1 (f:FuncId) (pos:Nat) (bt:Ty) (ds rs:List Ty) (g:bt.D->DL ds->Option (DL (rs++[bt])))
def Su.f:Su->FuncId
 | .c0 f .. =>f
 | .c1 f .. =>f
 | .c2 f .. =>f
 | .cl f _=>f
def fnB:AV->AV->Bool
 | .fn (.func F) [] [],.fn (.func G) [] []=>Nat.beq F G
 |_,_=>false
def ABA{w:AV}(h:fnB v w=true):v=w:=by unfold fnB at h;split at h<;>simp_all
def oY:List TV->List AV->Bool
 |[],[]=>true
 | .c (.raw v)::r,w::s=>fnB v w&&oY r s
 |_,_=>false
def rR: ∀{l:List TV} {p:List AV},oY l p=true->l.map TV.enc=p
 |[],[],_=>rfl
 |[],_::_,h=>by simp[oY]at h
 |v::r,[],h=>by cases v<;>simp[oY]at h
 |v::r,w::s,h=>by unfold oY at h;split at h;rename_i e;cases e;rename_i c d;injection c with a1 a2;injection d with a b;subst a1 a2 a b;simp only[BT]at h;rw[Bb,rR h.2];exact congrArg (· ::_) (ABA h.1);cases h
def TN:Nat->AV->List AV->List AV
 |0,v,l=>v::l
 |n+1,v,x::l=>x::TN n v l
 |_+1,v,[]=>[v]
def Su.Ok(P:Program):Su->Prop
 | .c2 f te ds rs post g=> ∀l x y,g l x=some y->(LN (.list te) rs y).2.length=l.length-> ∀H id,H[id]? =some (.live l.length (te.E.cl l))->
  Et P f (.sl id l.length te.sz 0 l.length::(fy ds x++post)) H (DY (jq (fy rs (LN (.list te) rs y).1)) (H.set id (.live l.length (te.E.cl (LN (.list te) rs y).2))))
 | .cl f t=> ∀(l:List t.D) (H:An),(∀e∈H,e.ok H)->(l=[]->Et P f [.vs t.sz []] (A6 H) (DY (.vs t.sz []) (A6 (H++[.dead]))))/\
  ∀r,l≠ []->app [] l=some r->Et P f [.vs t.sz (l.map t.enc)] (A6 H) (DY (.sl H.length r.length t.sz 0 r.length) (A6 (H++[.buf false t r r.length 0])))
 | .c0 f ds rs g=> ∀x y,g x=some y-> ∀H,Et P f (fy ds x) H (DY (jq (fy rs y)) H)
 | .c1 f pos bt ds rs g=> ∀b x y,g b x=some y-> ∀H id,H[id]? =some (.live 0 (bt.enc b).cells)->Et P f (TN pos (.ptr id 0 0) (fy ds x)) H (DY (jq (fy rs (LN bt rs y).1)) (H.set id (.live 0 (bt.enc (LN bt rs y).2).cells)))
section
variable {R:Type}
def uD(c:Su)(vs:List TV)(H:An)(k:TV->An->Option R):Option R:=
 match c with
 | .c0 _ ds rs g=>match vP ds vs with|some x=>(g x).bind λy=>k (one (qB rs y)) H|none=>none
 | .c1 _ pos bt ds rs g=>
  match vs[pos]? with
  |some (.c (.raw (.ptr id 0 0)))=>
   match H[id]? with
   |some (.live false cs)=>
    match bt.all cs,vP ds (vs.take pos++vs.drop (pos+1))with
    |some b,some x=>(g b x).bind λy=>k (one (qB rs (LN bt rs y).1)) (H.set id (.live false (bt.lvs (LN bt rs y).2)))
    |_,_=>none
   |_=>none
  |_=>none
 | .c2 _ te ds rs post g=>
  match vs with
  | .c (.own id ver _ _)::r=>
   match H[id]? with
   |some (.buf false t l n' ver')=>
    match Nat.beq ver ver' with
    |true=>
     if h:(Ty.list t).beq (Ty.list te)=true then
      match vP ds (r.take ds.length),oY (r.drop ds.length) post with
      |some x,true=>(g (Ty.cast h l) x).bind λy=>
       cond (Nat.beq (LN (.list te) rs y).2.length n') (k (one (qB rs (LN (.list te) rs y).1)) (H.set id (.buf false te (LN (.list te) rs y).2 n' ver'))) none
      |_,_=>none
     else none
    |false=>none
   |_=>none
  |_=>none
 | .cl _ t=>
  match vs with
  |[.c (.ls te l)]=>
   if h:(Ty.list te).beq (Ty.list t)=true then
    cond (decide (((l.length:Nat):Int)=0)) (k (.c (.ls t [])) (H++[.dead])) ((app (α:=t.D) [] (Ty.cast h l)).bind λr=>k (.c (.own H.length 0 t r.length)) (H++[.buf false t r r.length 0]))
   else none
  |[.c .nil]=>k (.c (.ls t [])) (H++[.dead])
  |_=>none
def XO: ∀(a:List Ty) (x:DL a),(qB a x).map TV.enc=fy a x
 |[],_=>rfl
 |[t],x=>by simp only[qB,fy,Bb,Hf,t.tv_enc]
 |t::u::r,x=>by simp only[qB,fy,Bb,t.tv_enc,XO (u::r)]
theorem gX{H:An}: ∀(b:List Ty) (x:DL b),∀v∈qB b x,v.ok H
 |[],_,v,a=>by simp[qB]at a
 |[t],x,v,a=>by simp only[qB,A2]at a;subst a;exact t.tv_ok x
 |t::u::r,x,v,a=>by simp only[qB,Am]at a;rcases a with rfl|a;exact t.tv_ok _;exact gX (u::r) x.2 v a
def lK(a:List TV):(one a).enc=jq (a.map TV.enc):=by
 match a with
 |[]=>rfl
 |[v]=>rfl
 |v::w::r=>simp only[one,jq,TV.enc,lz,Bb]
def pe(h: ∀v∈m,v.ok b):(one m).ok b:=by
 match m,h with
 |[],h=>exact Px h
 |[v],h=>exact h v (by simp)
 |v::w::r,h=>exact Px h
def WI: ∀{a:List Ty} {b:List TV} {x:DL a},vP a b=some x->DT (b.map TV.enc) (fy a x)
 |[],[],x,h=>DT.refl _
 |[t],[v],x,h=>DT.one (LW h)
 |t::u::r,v::b,x,h=>by simp only[vP]at h;split at h;rename_i y z c d;injection h with h;subst h;exact(DT.one (LW c)).append (WI d);cases h
 |[],_::_,x,h=>by simp[vP]at h
 |[t],[],x,h=>by simp[vP]at h
 |[t],_::_::_,x,h=>by simp[vP]at h
 |_::_::_,[],x,h=>by simp[vP]at h
theorem mQ: ∀{n:Nat} {a:List AV} {v:AV} {b:List AV},a[n]? =some v->DT (a.take n++a.drop (n+1)) b->DT a (TN n v b)
 |0,u::a,v,b,h,hl=>by simp at h;subst h;exact(DT.one (Un.refl u)).append hl
 |n+1,u::a,v,b,h,hl=>by
  cases b with
  |nil=>have:=hl.1;simp at this
  |cons d b=>
   have c:Un u d:=by obtain⟨w,q1,q2⟩:=hl.2 0 d rfl;grind
   have e:DT (a.take n++a.drop (n+1)) b:=⟨by have:=hl.1;simpa using this,λi g f=>hl.2 (i+1) g f⟩
   exact(DT.one c).append (mQ h e)
def zD(c:Su)(vs:List TV):List Nat:=
 match c with
 | .c0 .. =>[]
 | .c1 _ pos .. =>match vs[pos]? with|some v=>zX v|none=>[]
 | .c2 .. =>match vs[0]? with|some v=>zX v|none=>[]
 | .cl .. =>[]
def ACx(c:Su)(vs:List TV):List TV:=
 match c with
 | .c2 .. =>vs.drop 1
 |_=>vs
def qS{c:Su}(hc:c.Ok P){k:TV→An→Option R}{r:R}(hv: ∀v∈m,v.ok b)(K: ∀e∈b,e.ok b)(h:uD c m b k=some r):
  ∃v O,Et P c.f (m.map TV.enc) (A6 b) (DY v.enc (A6 O))/\k v O=some r/\v.ok O/\(∀e∈O,e.ok O)/\B4 b O/\Frame (zD c m) b O:=by
 unfold uD at h;split at h;rename_i f S A g;split at h;rename_i x hx;obtain⟨y,hy,h⟩:=Dr.1 h;refine⟨_,b,?_,h,pe (gX A y),K,B4.refl b,Frame.refl _ _⟩;rw[lK,XO];have hl:=WI hx;refine Et.before (args2:=fy S x) (H2:=A6 b) hl.1 (λX g0 w s=>⟨⟨rfl,λj e' p=>?_⟩,λj Z p=>?_⟩) (hc x y hy _);cases e' with
 |dead=>exact .inl rfl
 |live g1 L=>exact .inr (.inl ⟨g1,L,L,p,rfl,rfl,λi v hi=>⟨v,hi,λ_ r=>r⟩⟩)
 |_=>exact .inr (.inr ⟨p,by simp⟩)
 obtain⟨v,q1,q2⟩:=hl.2 j Z p;exact⟨v,q1,λd W=>q2 _ _ W⟩;cases h;rename_i f pos J S A g;split at h;rename_i id hp;split at h;rename_i cs o;split at h;rename_i D x hb hx;obtain⟨y,hy,h⟩:=Dr.1 h;have G:B4 b (b.set id (.live false (J.lvs (LN J A y).2))):=B4.set o rfl λ_ _ _ _ _ h=>by cases h
 refine⟨_,_,?_,h,pe (gX A _),So G K (J.lvs_ok _),G,Frame.set (by simp only[zD,hp];exact A2.2 rfl)⟩;rw[lK,XO,M5];have C:id<(A6 b).length:=by rw[CV];exact G1 o
 have hl:=WI hx;have ar:=FZ hb;have a:DT (m.map TV.enc) (TN pos (.ptr id 0 0) (fy S x)):=by refine mQ ?_ (by rw[<-List.map_take,<-List.map_drop,<-L5];exact hl);rw[CL,hp];rfl
 have H:=hc D x y hy ((A6 b).set id (.live 0 (J.enc D).cells)) id (by rw[HF C]);rw[Vd]at H;have e1:(Dn.live false (J.lvs (LN J A y).2)).enc= .live 0 (J.enc (LN J A y).2).cells:=by simp only[Dn.enc,J.lvs_enc]
 rw[e1];refine Et.before a.1 (λX g0 w s=>?_) H;have ad:A6 b=(A6 b).set id (.live 0 (lvs cs)):=by
  have:(A6 b)[id]? =some (.live 0 (lvs cs)):=by rw[E8,o];rfl
  apply Mw;intro j;by_cases F:j=id;subst F;rw[HF C,this];rw[D3 (λe=>F e.symm)]
 have ap:(cx X g0 (A6 b) w).Later (cx X g0 ((A6 b).set id (.live 0 (J.enc D).cells)) w):=by refine bo (by simp) λj e p ax=>?_;by_cases F:j=id;subst F;exact⟨.live 0 (lvs cs),by rw[E8,o];rfl,by simp⟩;rw[D3 (λe=>F e.symm)]at p;exact⟨e,p,ax⟩
 refine⟨R6.set_less C ad rfl ar ap,λj Z p=>?_⟩;obtain⟨v,q1,q2⟩:=a.2 j Z p;exact⟨v,q1,λd W=>q2 _ _ (W.later ap)⟩;cases h;cases h;cases h;rename_i f Y S A N g;split at h;rename_i id B t0 n0 r0;split at h;rename_i t l V a0 o;split at h;rename_i hb;have al:=DP hb;subst al;split at h;rename_i I;have n:=Ty.beq_eq _ _ I;injection n with n;subst n;split at h;rename_i x hx hp;obtain⟨y,hy,h⟩:=Dr.1 h;have z:(Ty.cast I l:List t.D)=l:=rfl;rw[z]at hy;have hn:V=l.length:=K _ (BK o);have hr:TO b id B t0 n0:=hv _ JP (.own id B t0 n0) (by simp[TV.refs]);obtain⟨_,q⟩:=hr.2 _ _ _ _ _ o;obtain⟨rfl,rfl⟩:=q rfl;cases T:Nat.beq (LN (.list t) A y).2.length V with
 |false=>rw[T]at h;cases h
 |true=>
  rw[T]at h;have M:(LN (.list t) A y).2.length=V:=DP T;have G:B4 b (b.set id (.buf false t (LN (.list t) A y).2 V B)):=B4.set o rfl λ_ _ _ _ _ e=>by cases e;exact⟨_,_,_,_,rfl,.inr ⟨rfl,rfl⟩⟩
  refine⟨_,_,?_,h,pe (gX A _),So G K M.symm,G,Frame.set (by simp[zD,zX])⟩;rw[lK,XO,M5];have hl:=WI hx;have U:=rR hp;have a:DT ((TV.c (.own id B t V)::r0).map TV.enc) (.sl id l.length t.sz 0 l.length::(fy S x++N)):=by
   rw[Bb,<-Fh S.length r0,L5,U];have e1:(TV.c (.own id B t V)).enc= .sl id l.length t.sz 0 l.length:=by rw[<-hn];rfl
   rw[e1];rw[<-ld];rw[<-ld (l:=fy S x++N)];exact(DT.refl _).append (hl.append (DT.refl _))
  have H:=hc l x y hy (by rw[M,hn]) (A6 b) id (by rw[E8,o,<-hn];rfl);have e2:(Dn.buf false t (LN (.list t) A y).2 V B).enc= .live l.length (t.E.cl (LN (.list t) A y).2):=by rw[<-hn];rfl
  rw[e2];refine Et.before a.1 (λX g0 w s=>⟨⟨rfl,λj e' p=>?_⟩,λj Z p=>?_⟩) H;cases e' with
  |dead=>exact .inl rfl
  |live g1 L=>exact .inr (.inl ⟨g1,L,L,p,rfl,rfl,λi v hi=>⟨v,hi,λ_ r=>r⟩⟩)
  |_=>exact .inr (.inr ⟨p,by simp⟩)
  obtain⟨v,q1,q2⟩:=a.2 j Z p;exact⟨v,q1,λd W=>q2 _ _ W⟩
 cases h;cases h;cases h;cases h;cases h;rename_i f t;have same: ∀{args u:List AV} {Q:AV->As->Prop},DT args u->Et P f u (A6 b) Q->Et P f args (A6 b) Q:=λa H=>by
  refine Et.before a.1 (λX g0 w s=>⟨⟨rfl,λj e' p=>?_⟩,λj Z p=>?_⟩) H;cases e' with
  |dead=>exact .inl rfl
  |live g1 L=>exact .inr (.inl ⟨g1,L,L,p,rfl,rfl,λi v hi=>⟨v,hi,λ_ r=>r⟩⟩)
  |_=>exact .inr (.inr ⟨p,by simp⟩)
  obtain⟨v,q1,q2⟩:=a.2 j Z p;exact⟨v,q1,λd W=>q2 _ _ W⟩
 split at h;rename_i Y l;split at h;rename_i I;have n:=Ty.beq_eq _ _ I;injection n with n;subst n;have z:(Ty.cast I l:List Y.D)=l:=rfl;rw[z]at h;cases hz:decide (((l.length:Nat):Int)=0)with
 |true=>
  rw[hz]at h;have h0:l=[]:=by
   have:((l.length:Nat):Int)=0:=by simpa using hz
   exact Eb (by omega)
  subst h0;refine⟨TV.c (Bc.ls Y []),b++[Dn.dead],?_,h,JW trivial,Od K trivial,B4.push _ _,Frame.push _ _ _⟩;exact(hc [] b K).1 rfl
 |false=>
  rw[hz]at h;have h0:l≠ []:=by rintro rfl;simp at hz
  obtain⟨r,hr,h⟩:=Dr.1 h;have e:Dn.ok (b++[.buf false Y r r.length 0]) (.buf false Y r r.length 0):=rfl;have q:=(hc l b K).2 r h0 hr;refine⟨TV.c (Bc.own b.length 0 Y r.length),b++[Dn.buf false Y r r.length 0],?_,h,mi,Od K e,B4.push _ _,Frame.push _ _ _⟩;exact q
 cases h;refine⟨TV.c (Bc.ls t []),b++[Dn.dead],?_,h,JW trivial,Od K trivial,B4.push _ _,Frame.push _ _ _⟩;exact same (DT.one (Un.nil t.sz_pos)) ((hc [] b K).1 rfl);cases h
end
section
variable {P:Program} {N:Nat} {o:Oper} {env:Env} {H:As} {K:AV->As->Prop}
def mE{sz:Nat}{rows:List AV}(n:o.op= .binOp .eql a c (.const (.slice none 0 0)) G)(E:P.underlying a=some (.slice Z))(F:BA env c= .vs sz rows)
  (C: ∀b,(rows≠ []->b=false)->K (.bool b) H):Is P N o env H K:=by
 apply Cu (by rw[n];rfl);intro X h e w s Q;have l:=DQ s.env c;rw[F]at l;generalize i:e.eval c=cx0 at l;cases l with
 | @vs sz rows I cap f m D p z J=>
  have k:=run_underlying E w;have g:(execOp e.eval o).run P w= .ok (.value (.bool I.isNone)) w:=by
   unfold execOp;rw[n];have r:e.eval (.const (.slice none 0 0))= .slice none 0 0:=rfl;have u:(eqGuard .eql a c (.const (.slice none 0 0)) (.slice I rows.length cap) (.slice none 0 0)).run P w= .ok () w:=by unfold eqGuard;simp
   have v:(Op.equal a (.slice I rows.length cap) (.slice none 0 0)).run P w= .ok I.isNone w:=by
    have y: ∃d,Op.maxDepth=d+1:=⟨9999,rfl⟩
    obtain⟨d,A⟩:=y;unfold Op.equal;rw[A];cases I<;>simp[Op.equalIn,k]
   simp only[i,r,Sem.run_bind,u,Result.andThen_ok,binOp,v,Sem.run_pure]
  unfold Oper.wp;rw[g,Oper.upon_value];refine⟨_,_,h,H,rfl,C I.isNone (λj=>?_),.bool _,s.sim,Hd.refl _ _ _⟩;obtain⟨B,t,q,_⟩:=z j;rw[q];rfl
def Is.clear{x:Operand}{id g l n sz:Nat}(ho:o.op= .call {callee:=.builtin .clear,args:= #[x],argTypes:= #[a]})(hd:o.dst=none)(he:eI P a=some (none,G,sz))(b0:QW P G=true)(hz:WP P G=some Q)(W:Q.length=sz)
  (hx:BA env x= .sl id g sz l n) (E:H[id]? =some (EU.live g i)) (a5:l+n*sz<=i.length) (hk:K (.tup []) (H.set id (.live g (UK i l (List.replicate n Q).flatten)))):Is P N o env H K:=by
 apply Cu (by rw[ho];rfl);intro X h M w s e;obtain⟨b2,b,hi⟩:=PN he;obtain⟨z,zv,v,b5,bb,b3⟩:=R5 b0;have a3:=er hi v;obtain⟨i',y,a1,a9,a7⟩:=Z6 (cx X h H w) hz;have:i'=z:=by rw[v]at a1;exact(Cd a1).symm
 subst this;have:y=zv:=by rw[bb]at a9;exact(Cd a9).symm
 subst this;have A:y.cells.size=sz:=by rw[b3,a3]
 have rx:=DQ s.env x;rw[hx]at rx;have R:=run_underlying b2 w;have S:(List.replicate n Q).flatten.length=n*sz:=by simp[W]
 obtain⟨ax,ap⟩:=s.sim.live id g i E;have b1: ∃ad cap,M.eval x= .slice ad n cap/\(n≠0-> ∃B,h.io id=some B/\ad=some ⟨B,l,none⟩):=by
  generalize M.eval x=c at rx;cases rx with
  |sl h1 h2 h3 hc=>rcases hc ax with⟨_,q2,_,q4⟩|⟨B,cap,q1,_,_,q4⟩;exact⟨none,0,by rw[q4,q2],λbN=>(bN q2).elim⟩;exact⟨_,cap,q4,λ_=>⟨B,q1,rfl⟩⟩
 obtain⟨ad,cap,Z,bd⟩:=b1;have a2:id<H.length:=by rcases Aq id H.length with h2|h2;exact h2;rw[Cs h2]at E;cases E
 by_cases hn:n=0;subst hn;have F:(execOp M.eval o).run P w= .ok (.value (.tuple #[])) w:=by unfold execOp;rw[ho];simp only[resolve,invoke,builtin,Sem.run_bind,Sem.run_pure,Result.andThen_ok,PD,Bb,Hf,Z,Builtin.clear_];simp[R];cases ad<;>simp
 unfold Oper.wp;rw[F,Oper.upon_value];have e1:H.set id (.live g (UK i l (List.replicate 0 Q).flatten))=H:=by
  have:UK i l (List.replicate 0 Q).flatten=i:=by simp[UK]
  rw[this];apply Mw;intro j;by_cases a4:j=id;subst a4;rw[HF a2,E];rw[D3 λG=>a4 G.symm]
 rw[e1]at hk;exact⟨_,_,h,H,rfl,hk,.tup rfl λ_ _ _ h=>by (cases h),s.sim,Hd.refl _ _ _⟩;obtain⟨B,J,rfl⟩:=bd hn;rcases ap with⟨a6,_⟩|⟨B',Y,T,fz,f,O,hb,al,b4,ar,I⟩;rw[show(cx X h H w).io id=h.io id from rfl,J]at a6;cases a6;rw[show(cx X h H w).io id=h.io id from rfl,J]at O;injection O with e0;subst e0;have V:(Builtin.zeroCells y.cells n).size=n*sz:=by rw[WQ,A]
 have t: ∀j,j<n*sz-> ∃d u,(Builtin.zeroCells y.cells n)[j]? =some d/\(List.replicate n Q).flatten[j]? =some u/\d.oneCell'=true/\Bg (cx X h H w) u d:=by
  intro j r;have a8:0<sz:=by rcases RM sz with q|q;subst q;simp at r;exact q
  have hm:j%sz<y.cells.size:=by rw[A];exact Nat.mod_lt _ a8
  have D:y.cells[j%sz]? =some (y.cells[j%sz]'hm):=PL hm;have a0: ∀(m j:Nat),j<m*sz->(List.replicate m Q).flatten[j]? =Q[j%sz]? :=by
   intro m;induction m with
   |zero=>intro j r;omega
   |succ m ih=>intro j r;rw[fh,jB];rcases Aq j sz with bz|bl;rw[CE (by omega),TU bz];rw[Cr (by omega),W,ih (j-sz) (by rw[Gj]at r;omega),<-Nat.mod_eq_sub_mod bl]
  have a':Q[j%sz]? =some (Q[j%sz]'(by rw[W];exact Nat.mod_lt _ a8)):=Az _;have U:(Builtin.zeroCells y.cells n)[j]? =some (y.cells[j%sz]'hm):=by
   unfold Builtin.zeroCells;rw[Ym,Array.getElem?_range,if_pos (by rw[A];exact r)];have bG:j%y.cells.size<y.cells.size:=by rw[A];rw[A]at hm;exact hm
   rw[Bf,getElem!_pos y.cells _ bG];simp only[A]
  cases a7 with
  |agg q1 q2 q3=>exact⟨_,_,U,by rw[a0 n j r,a'],q2 _ _ D,q3 _ _ _ a' D⟩
 obtain⟨w',L,p1,p2,p3,p4,p5,p6,p7,p8,p9⟩:=Sr (P:=P) (off:=l) (Builtin.zeroCells y.cells n).toList 0 Y w hb (by simp[V];omega) ar (λd hd=>by
  obtain⟨j,r⟩:=FF hd;have bt:j<n*sz:=by rw[<-V];have:=(TY.1 r).1;simpa using this
  obtain⟨d',u,q1,_,q3,_⟩:=t j bt;rw[Pl]at r;rw[r]at q1;injection q1 with q1;rw[q1];exact q3)
 have F:(execOp M.eval o).run P w= .ok (.value (.tuple #[])) w':=by
  unfold execOp;rw[ho];simp only[resolve,invoke,builtin,Sem.run_bind,Sem.run_pure,Result.andThen_ok,PD,Bb,Hf,Z,Builtin.clear_];have b6: ∀(α:Type) (p q:α),(match n with|0=>p|_+1=>q)=q:=by
   intro α p q;cases n with
   |zero=>exact(hn rfl).elim
   |succ m=>rfl
  obtain⟨m,rfl⟩: ∃m,n=m+1:=⟨n-1,by omega⟩
  simp[R,zeroValue,typeInfo,v,bb];rw[p1];rfl
 have hh:dI (cx X h H w) (UK i l (List.replicate n Q).flatten) L fz:=by
  refine⟨λj=>if l<=j/\j<l+n*sz then(Builtin.zeroCells y.cells n).getD (j-l) undef else f j,by rw[eF (by rw[S];exact a5)];omega,by rw[p3];exact ar,λj u r=>?_⟩;rw[m6 (by rw[S];exact a5),S]at r;rw[p4];simp only[RK,DO,V,Pl];split at r;rename_i C;rw[if_pos C,if_pos C];obtain⟨d,u',q1,q2,q3,q4⟩:=t (j-l) (by omega);rw[q2]at r;injection r with r;subst r;have G:(Builtin.zeroCells y.cells n).getD (j-l) undef=d:=by rw[PK,q1];rfl
  rw[G];exact⟨q1,q3,q4⟩;rename_i C;rw[if_neg C,if_neg C];exact I j u r
 obtain⟨q1,q2⟩:=s.sim.upd (g':=g) (B:=B) (arr:=L) (T:=T) (fz:=fz) (w':=w') E (Ak _) (λ_=>⟨J,by rw[p3];exact al.symm⟩) (.inl J) p2 (λk _ hk=>p5 k hk) p6 p7 p8 (by rw[p9];exact Ak _) hh;unfold Oper.wp;rw[F,Oper.upon_value];exact⟨_,_,_,_,rfl,hk,.tup rfl λ_ _ _ h=>by (cases h),q1,q2⟩
def kz(k:o.op= .call {callee:=.builtin .clear,args:= #[c],argTypes:= #[a]})(m:P.underlying a=some (.slice G))
  (t:BA env c= .vs n []) (l:K (.tup []) H):Is P N o env H K:=by
 apply Cu (by rw[k];rfl);intro X h x w s Q;have j:=DQ s.env c;rw[t]at j;have d:=run_underlying m w;have i: ∃f cap,x.eval c= .slice f 0 cap:=by
  generalize x.eval c=e at j;cases j with
  |vs=>exact⟨_,_,rfl⟩
 obtain⟨f,cap,g⟩:=i;have b:(execOp x.eval o).run P w= .ok (.value (.tuple #[])) w:=by unfold execOp;rw[k];simp only[resolve,invoke,builtin,Sem.run_bind,Sem.run_pure,Result.andThen_ok,PD,Bb,Hf,g,Builtin.clear_];simp[d];cases f<;>simp
 unfold Oper.wp;rw[b,Oper.upon_value];exact⟨_,_,h,H,rfl,l,.tup rfl λ_ _ _ h=>by (cases h),s.sim,Hd.refl _ _ _⟩
end
def UN(P:Program)(N:Nat)(ops:Array Oper):List Oper->Env->As->(Env->As->Prop)->Prop
 |[],env,H,Q=> ∃env1 H1,F4 N H.length env H env1 H1/\Q env1 H1
 |o::rest,env,H,Q=> ∃env1 H1,F4 N H.length env H env1 H1/\
  VZ ops o.guard env1 (Is P N o env1 H1 λv H'=>UN P N ops rest (env1.putO o.dst v) H' Q) (UN P N ops rest (env1.putO o.dst (.tup [])) H1 Q)
def UN.weak{N:Nat}{Q:Env->As->Prop}{env1:Env}{H e:As}(w:F4 N H.length u H env1 e): ∀{os:List Oper},UN P N j os env1 e Q->UN P N j os u H Q
 |[],h=>by obtain⟨c,b,d,q⟩:=h;exact⟨c,b,w.trans (d.of_le w.1),q⟩
 |o::os,h=>by obtain⟨c,b,d,q⟩:=h;exact⟨c,b,w.trans (d.of_le w.1),q⟩
theorem mF{r:Option Nat}{C:Exit→Act→World→Prop}{Q:Env→As→Prop}:
  ∀(l:List Nat) (os:List Oper),l.map (j[·]?)=os.map some-> ∀(env:Env) (H:As) (h:Gh) (a:Act) (w:World),N4 N os=true->UN P N j os env H Q->St A h N env H a w->(∀f n y u q,Q f n->St A y N f n u q->Hd h H w y n q->u.defers=a.defers->C .normal u q)->wpOpsIn (FR r) 0 P j C l a w:=by
 intro l;induction l with
 |nil=>
  intro os d env H h a w _ hr s z;have:os=[]:=by simp_all
  subst this;obtain⟨env1,X,b,hr⟩:=hr;obtain⟨x,e,E,d⟩:=b.2 A h a w s;exact z env1 X x a w hr e (F4.ext rfl b.1 E d (Hd.refl h H w)) rfl
 |cons i l L=>
  intro os d env H h a w T hr s z;match os,d with
  |o::os,d=>
   simp at d;obtain⟨O,m⟩:=d;simp only[wpOpsIn,O];have g: ∀t,o.dst=some t->t<a.tmps.size:=by intro t Y;simp only[N4]at T;rw[s.size];grind
   have p:N4 N os=true:=by simp_all[N4]
   obtain⟨env1,X,b,hr⟩:=hr;obtain⟨x,e,E,d⟩:=b.2 A h a w s;have M:=F4.ext rfl b.1 E d (Hd.refl h H w);rcases qp e.env hr with⟨J,R⟩|⟨J,S⟩;rw[if_pos J];refine Oper.wpIn_mono ?_ (R r A x a w e C);rintro u q ⟨c,v,y,n,rfl,k,W,V,K⟩;have U:=K.later A;apply L os m _ n y _ q p k ⟨V,Np.putO (e.env.later U) g W,(Z3 _ _ _).trans e.size⟩;intro env2 B m a2 G q2 F I D;exact z env2 B m a2 G q2 F (M.trans (K.trans I)) (D.trans (by cases o.dst<;>rfl));rw[if_neg (by grind)];refine⟨λ_ _=>trivial,L os m _ X x _ w p S ⟨e.sim,Np.putO e.env g (.tup rfl λ_ _ _ h=>by cases h),(Z3 _ _ _).trans e.size⟩ ?_⟩;intro env2 B m a2 G q2 F I D;exact z env2 B m a2 G q2 F (M.trans I) (D.trans (by cases o.dst<;>rfl))
theorem FX{N:Nat}{H:As}{Q:Exit->Env->As->Prop}{id:Nat}{b:Array Oper}(i:N4 N b.toList=true)(h:UN P N b b.toList u H (Q .normal)):Ly P N (.region id b false) u H Q:=by intro r X g a w s _;refine wpIn_region (mF (List.range b.size) b.toList ?_ u H g a w i h s ?_);apply Mw;grind;intro c d f l m q j k e;exact⟨f,c,d,q,j,k,.same e⟩
open Go.MapKept (IsKey)
def EU.isM:EU->Bool
 | .mp _ _=>true
 | .it _ _=>true
 |_=>false
theorem jS{e:EU}(h:e.isM=true):e.isB=true:=by cases e<;>simp_all[EU.isM,EU.isB]
def S3{α:Type}(n:Int)(v:α):List (Int×α)->List (Int×α)
 |[]=>[(n,v)]
 |p::r=>bif p.1==n then(n,v)::r else p::S3 n v r
def Ph{α:Type}(n:Int):List (Int×α)->Option α
 |[]=>none
 |p::r=>bif p.1==n then some p.2 else Ph n r
def rK{a c:Type}(f:a->c)(n:Int)(v:a): ∀b:List (Int×a),(S3 n v b).map (λp=>(p.1,f p.2))=S3 n (f v) (b.map λp=>(p.1,f p.2))
 |[]=>rfl
 |p::r=>by simp only[S3,Bb];cases p.1==n<;>simp[rK f n v r]
def rI{b c:Type}(f:b->c)(n:Int): ∀a:List (Int×b),Ph n (a.map λp=>(p.1,f p.2))=(Ph n a).map f
 |[]=>rfl
 |p::r=>by simp only[Ph,Bb];cases p.1==n<;>simp[rI f n r]
section
variable {X:Nat->Prop} {h:Gh} {H:As} {w:World}
theorem It.of_extM{a:Gh}{d:World}(s:It X h H w)(F:Hd h H w a p d)
  (key: ∀(id:Nat) (e:EU),p[id]? =some e->e≠ .dead->(H[id]? =some e/\a.gen id=h.gen id/\a.io id=h.io id/\a.cap id=h.cap id/\ ∀B,h.io id=some B->d.heap[B]? =w.heap[B]?)\/(e.isM=true/\yX a p d id e))
  (inj: ∀(id b:Nat) (e k:EU) (B:Nat),p[id]? =some e->p[b]? =some k->e≠ .dead->k≠ .dead->a.io id=some B->a.io b=some B->id=b):It X a p d:=by
 refine s.of_ext' F (λid e n E=>?_) (λid T G j l n f hr=>?_) inj;grind[jS];obtain⟨B,c,v,m,y,z,A,D,C⟩:=s.bld id _ f rfl;rcases key id _ n (by simp)with⟨_,r,t,I,u⟩|⟨e,_⟩;rcases key j _ hr (by simp)with⟨i,J,x,K,L⟩|⟨e,_⟩;refine⟨B,c,v,t.trans m,(u B m).trans y,z,r.trans A,D,λ_=>?_⟩;obtain⟨q1,q2⟩:=C i;refine⟨⟨q1.1,?_⟩,q2.trans x.symm⟩;rcases q1.2 with q|⟨g,cap,o,M,rfl,N,O,P⟩;grind;grind[Value.ownBlock];cases e;cases e
theorem It.push_m(s:It X h H w)(o:Obj)(cap:Nat)(E:EU)(u:E.isM=true)
  (t:yX (h.at_ H.length (some w.heap.size) 0 cap) (H++[E]) {w with heap:=w.heap.push o} H.length E):
  It X (h.at_ H.length (some w.heap.size) 0 cap) (H++[E]) {w with heap:=w.heap.push o}:=by
 refine s.of_extM (Hd.push o cap E) (λid e d g=>?_) λid q e r B m n b c k l=>?_;rcases IT d with⟨a,d⟩|⟨rfl,rfl⟩;refine .inl ⟨d,by simp[Gh.at_,BR a],by simp[Gh.at_,BR a],by simp[Gh.at_,BR a],λB f=>?_⟩;have:=s.io_at d g f;grind;grind;rcases IT m with⟨l1,i⟩|⟨rfl,_⟩<;>rcases IT n with⟨l2,j⟩|⟨rfl,_⟩;exact s.inj _ _ _ _ B i j b c (by simpa[Gh.at_,BR l1]using k) (by simpa[Gh.at_,BR l2]using l);have p:=s.io_at i b (by simpa[Gh.at_,BR l1]using k);grind[Gh.at_];have p:=s.io_at j c (by simpa[Gh.at_,BR l2]using l);grind[Gh.at_];rfl
def It.setM(s:It X h H w){E E':EU}{o o':Obj}{w':World}(g:H[N]? =some E)(J:E.isM=true)(v:E'.isM=true)(m:h.io N=some n)(K:w.heap[n]? =some o)(A: ∀r,o≠ .loop r)
  (G:w'.heap=w.heap.setIfInBounds n o') (C:w'.os=w.os) (B:w'.tape=w.tape) (M:w'.output=w.output) (x:yX h (H.set N E') w' N E'):
  It X h (H.set N E') w'/\Hd h H w h (H.set N E') w':=by
 have d:N<H.length:=by rcases Aq N H.length with f|f;exact f;rw[Cs f]at g;cases g
 have b:E≠ .dead:=by rintro rfl;cases J
 have O: ∀k,k≠n->w'.heap[k]? =w.heap[k]? :=λk h=>by rw[G];simp[Ne.symm h]
 have own: ∀k,owned h (H.set N E') k->owned h H k:=by rintro k ⟨i,e,j,c,f⟩;rcases Ir d j with⟨y,a⟩|⟨rfl,_⟩;exact⟨i,e,a,c,f⟩;exact⟨i,E,g,b,f⟩
 have I:Hd h H w h (H.set N E') w':=by refine⟨C,B,M,by rw[G];simp,λk _ hn=>O k λe=>hn ⟨N,E,g,b,by rw[e];exact m⟩,by simp,λ_ _=>Ak _,λ_ _ _=>⟨rfl,rfl⟩,λk O=>.inl (own k O),λk r hr=>⟨r,?_⟩⟩;refine(O k λe=>?_).trans hr;subst e;rw[K]at hr;injection hr with hr;exact A r hr
 refine⟨s.of_extM I (λi e j c=>?_) (λi D e F k j f p q t u=>?_),I⟩;rcases Ir d j with⟨y,a⟩|⟨rfl,rfl⟩;refine .inl ⟨a,rfl,rfl,rfl,λk z=>O k λe=>?_⟩;subst e;exact y (s.inj i N _ _ k a g c b z m);exact .inr ⟨v,x⟩;rcases Ir d j with⟨y,a⟩|⟨rfl,rfl⟩<;>rcases Ir d f with⟨L,l⟩|⟨rfl,rfl⟩;exact s.inj i D e F k a l p q t u;exact s.inj i D e E k a g p b t u;exact s.inj i D E F k g l b q t u;rfl
end
def gI{k:IntKind}{n:Int}: ∀(l:List MapEntry) (a:List (Int×AV)) (i:Nat),l.length=a.length→(∀(j:Nat) (p:Int×AV),a[j]? =some p→ ∃e:MapEntry,l[j]? =some e∧e.key= .int k p.1)→
  (Instr.findNow (.int k) (.int k n) l i=some none/\Ph n a=none/\ ∀v,S3 n v a=a++[(n,v)])\/∃j e p,Instr.findNow (.int k) (.int k n) l i=some (some (i+j,e.val))/\l[j]? =some e/\a[j]? =some p/\e.key= .int k n/\Ph n a=some p.2/\ ∀v,S3 n v a=a.set j (n,v)
 |[],[],_,_,_=>.inl ⟨rfl,rfl,λ_=>rfl⟩
 |[],_::_,_,hl,_=>by simp at hl
 |_::_,[],_,hl,_=>by simp at hl
 |e::l,p::a,i,hl,h=>by
  obtain⟨z,o,r⟩:=h 0 p rfl;simp only[Yl,Aj]at o;subst o;have m:Instr.sameNow (.int k) (.int k n) e.key=some (n==p.1):=by rw[r];simp[Instr.sameNow]
  by_cases hn:p.1=n;refine .inr ⟨0,e,p,?_,rfl,rfl,by rw[r,hn],?_,λv=>?_⟩;simp[Instr.findNow,m,hn];simp[Ph,hn];simp[S3,hn];have c:(n==p.1)=false:=by simp;exact λe=>hn e.symm
  have b:(p.1==n)=false:=by simpa using hn
  rcases gI (k:=k) (n:=n) l a (i+1) (by simpa using hl) (λj q x=>by simpa using h (j+1) q (by simpa using x))with⟨d,f,g⟩|⟨j,s,y,d,f,g,t,u,w⟩;exact .inl ⟨by simp[Instr.findNow,m,c,d],by simp[Ph,b,f],λv=>by simp[S3,b,g]⟩;exact .inr ⟨j+1,s,y,by simp[Instr.findNow,m,c,d];omega,by simpa using f,by simpa using g,t,by simp[Ph,b,u],λv=>by simp[S3,b,w]⟩
section
variable {P:Program} {N:Nat} {o:Oper} {env:Env} {H:As} {K:AV->As->Prop}
def Is.makeMap(k:IntKind)(c:o.op= .makeMap a none)(e:K (.mp H.length) (H++[.mp k []])):Is P N o env H K:=by
 apply Cu (by rw[c];rfl);intro X h t w s Q;have b:(execOp t.eval o).run P w= .ok (.value (.map (some w.heap.size))) {w with heap:=w.heap.push (.map #[] 0)}:=by unfold execOp;rw[c];rfl
 unfold Oper.wp;rw[b,Oper.upon_value];refine⟨_,_,_,_,rfl,e,?_,s.sim.push_m (.map #[] 0) 0 (.mp k []) rfl ⟨w.heap.size, #[],by simp[Gh.at_],by simp[Gh.at_],by simp,rfl,λj p d=>by simp at d⟩,Hd.push _ _ _⟩;exact .mp (by simp[cx]) rfl λ_=>⟨w.heap.size,by simp[cx,Gh.at_],rfl⟩
def xZ(X:St A h N env H M w)(u:BA env c= .mp n)(r:H[n]? =some (.mp s J)):
  ∃(B:Nat) (b:Array MapEntry),M.eval c= .map (some B)/\h.io n=some B/\h.gen n=0/\w.heap[B]? =some (.map b b.size)/\b.size=J.length/\∀(j:Nat) (p:Int×AV),J[j]? =some p-> ∃e:MapEntry,b[j]? =some e/\e.born=j/\e.key= .int s p.1/\ ∀c,Bg c p.2 e.val:=by
 have g:=DQ X.env c;rw[u]at g;obtain⟨B,b,i,l,m,x,o⟩:=X.sim.bld n _ r rfl;generalize M.eval c=a at g;cases g with
 |mp t y q=>obtain⟨v,d,rfl⟩:=q l;rw[show(cx A h H w).io n=h.io n from rfl,i]at d;injection d with d;subst d;exact⟨B,b,rfl,i,l,m,x,o⟩
def xM(a:St X h N env H M w)(d:BA env c= .int s B):M.eval c= .int s B:=by have b:=DQ a.env c;rw[d]at b;generalize M.eval c=x at b;cases b;rfl
theorem Is.mapUpdate{t U et:TypeId}{m I A:Operand}{id:Nat}{k:IntKind}{es:List (Int×AV)}{n:Int}{v:AV}(S:o.op= .mapUpdate t m I A)(hm:BA env m= .mp id)(G:BA env I= .int k n)
  (hp: ∀(x:Cx) (c:Value),Bg x (BA env A) c-> ∀y,Bg y v c) (T:P.underlying t=some (.map U et)) (l:P.underlying U=some (.int k)) (E:H[id]? =some (.mp k es)) (R:K .any (H.set id (.mp k (S3 n v es)))):Is P N o env H K:=by
 apply Cu (by rw[S];rfl);intro X h a w s Q;obtain⟨B,b,q1,q2,q3,q4,q5,q6⟩:=xZ s hm E;have V:=xM s G;have W:=hp _ _ (DQ s.env A);generalize u:a.eval A=c at W;have al:id<H.length:=by grind
 have f:IsKey (.int k) (.int k n):=rfl;have q:B<w.heap.size:=(gf.1 q4).1;have z:execOp a.eval o=(do Instr.mapUpdate t (a.eval m) (a.eval I) (a.eval A);pure .skip):=by unfold execOp;rw[S]
 rcases gI (n:=n) (k:=k) b.toList es 0 (by grind) (λj p d=>by obtain⟨e,Z,_,C,_⟩:=q6 j p d;exact⟨e,by grind,C⟩)with⟨D,M,O⟩|⟨j,Y,p0,D,M,O,h4,h5,h6⟩;have g:(execOp a.eval o).run P w= .ok .skip {w with heap:=w.heap.setIfInBounds B (.map (b.push {key:=.int k n,val:=c,born:=b.size}) (b.size+1))}:=by rw[z,q1,V,u];simp[Instr.mapUpdate,run_underlying T,MapKept.run_getObj_map q4,MapKept.run_checkKey l f,MapKept.run_findKey l D,MapKept.run_setObj_map _ q4]
 unfold Oper.wp;rw[g,Oper.upon_skip];obtain⟨J,L⟩:=s.sim.setM (E':=.mp k (S3 n v es)) (o':=.map (b.push {key:=.int k n,val:=c,born:=b.size}) (b.size+1))
  (w':={w with heap:=w.heap.setIfInBounds B (.map (b.push {key:=.int k n,val:=c,born:=b.size}) (b.size+1))}) E rfl rfl q2 q4 (λr e=>by cases e) rfl rfl rfl rfl (by refine⟨B,b.push {key:=.int k n,val:=c,born:=b.size},q2,q3,by simp[q],by grind,λj p d=>?_⟩;rw[O]at d;rcases PI j es.length with ax|rfl|ad;grind;rw[Cr (Ak _),IZ]at d;simp only[Yl,Aj]at d;subst d;exact⟨{key:=.int k n,val:=c,born:=b.size},by grind,q5,rfl,W⟩;rw[Cs (by simp;omega)]at d;cases d)
 exact⟨_,_,_,_,rfl,R,.any _,J,L⟩;have d:b[j]? =some Y:=by simpa using M
 have ar:j<b.size:=(gf.1 d).1;have g:(execOp a.eval o).run P w= .ok .skip {w with heap:=w.heap.setIfInBounds B (.map (b.modify j λe=>{e with key:=.int k n,val:=c}) b.size)}:=by rw[z,q1,V,u];simp[Instr.mapUpdate,run_underlying T,MapKept.run_getObj_map q4,MapKept.run_checkKey l f,MapKept.run_findKey l D,d,h4,MapKept.run_keyThatStays f,MapKept.run_setObj_map _ q4]
 unfold Oper.wp;rw[g,Oper.upon_skip];obtain⟨J,L⟩:=s.sim.setM (E':=.mp k (S3 n v es)) (o':=.map (b.modify j λe=>{e with key:=.int k n,val:=c}) b.size)
  (w':={w with heap:=w.heap.setIfInBounds B (.map (b.modify j λe=>{e with key:=.int k n,val:=c}) b.size)}) E rfl rfl q2 q4 (λr e=>by cases e) rfl rfl rfl rfl (by refine⟨B,b.modify j λe=>{e with key:=.int k n,val:=c},q2,q3,by simp[q],by grind,λi p F=>?_⟩;rw[h6,VO]at F;split at F;grind;rename_i ap;obtain⟨e,Z,C⟩:=q6 i p F;exact⟨e,by grind,C⟩)
 exact⟨_,_,_,_,rfl,R,.any _,J,L⟩
def ut(P:Program)(t:TypeId):Option (List AV):=
 match (P.info? t).bind (·.zero)with
 |some (.agg cs)=>if cs.toList.all (·.oneCell')then some (cs.toList.map kL)else none
 |_=>none
theorem wA(h:ut P a=some i)(w:World): ∃v,(zeroValue a).run P w= .ok v w/\ ∀x,Bg x (.agg i) v:=by unfold ut at h;split at h;rename_i b t;split at h;rename_i c;obtain⟨z,d,t⟩:=Dr.1 t;refine⟨.agg b,by simp[zeroValue,typeInfo,d,t],λx=>?_⟩;have:=qY x (.agg b);grind[vE];cases h;cases h
theorem Is.lookup{id:Nat}{k:IntKind}{es:List (Int×AV)}{n:Int}{z:List AV}(R:o.op= .lookup a c L true)(hm:BA env c= .mp id)(F:BA env L= .int k n)
  (S:P.underlying a=some (.map G Z)) (f:P.underlying G=some (.int k)) (hz:ut P Z=some z) (he:H[id]? =some (.mp k es))
  (hk:K (.tup [(Ph n es).getD (.agg z),.bool (Ph n es).isSome]) H):Is P N o env H K:=by
 apply Cu (by rw[R];rfl);intro X h m w s Q;obtain⟨B,l,q1,q2,q3,q4,q5,q6⟩:=xZ s hm he;have W:=xM s F;have g:IsKey (.int k) (.int k n):=rfl;have x:execOp m.eval o=(do pure (.value (<-Instr.lookup a (m.eval c) (m.eval L) true))):=by unfold execOp;rw[R]
 have r: ∀(U:Value) (v:AV) (b:Bool),(execOp m.eval o).run P w= .ok (.value (.tuple #[U,.bool b])) w→Bg (cx X h H w) v U→K (.tup [v,.bool b]) H→
   Oper.wp P o m w (λY I=> ∃U v D A,Y=m.put o.dst U/\K v A/\Bg (cx X D A I) v U/\It X D A I/\Hd h H w D A I) Q:=by
  intro U v b y T hK;unfold Oper.wp;rw[y,Oper.upon_value];refine⟨_,_,h,H,rfl,hK,.tup (by simp) λj u d i O=>?_,s.sim,Hd.refl _ _ _⟩;rcases j with _|_|j;grind;simp at i O;subst i O;exact .bool b;grind
 rcases gI (n:=n) (k:=k) l.toList es 0 (by grind) (λj p i=>by obtain⟨e,q,_,C,_⟩:=q6 j p i;exact⟨e,by grind,C⟩)with⟨E,t,M⟩|⟨j,J,V,E,t,M,h4,h5,h6⟩;obtain⟨v,T,hr⟩:=wA hz w;refine r v (.agg z) false ?_ (hr _) (by grind);rw[x,q1,W];simp[Instr.lookup,run_underlying S,MapKept.run_getObj_map q4,MapKept.run_checkKey f g,MapKept.run_findKey f E,T];obtain⟨e',q,_,_,C⟩:=q6 j V M;have i:l[j]? =some J:=by grind
 rw[i]at q;injection q with q;subst q;refine r J.val V.2 true ?_ (C _) (by grind);rw[x,q1,W];simp[Instr.lookup,run_underlying S,MapKept.run_getObj_map q4,MapKept.run_checkKey f g,MapKept.run_findKey f E]
theorem Is.range{id:Nat}{k:IntKind}{es:List (Int×AV)}(d:o.op= .range a c)(j:BA env c= .mp id)(l:P.underlying a=some (.map G Z))(g:H[id]? =some (.mp k es))
  (i:K (.itp H.length id) (H++[.it es.length []])):Is P N o env H K:=by
 apply Cu (by rw[d];rfl);intro X h n w s Q;obtain⟨B,e,q1,q2,q3,q4,q5,q6⟩:=xZ s j g;have t:id<H.length:=by grind
 have b:(execOp n.eval o).run P w= .ok (.value (.pointer (some ⟨w.heap.size,0,none⟩))) {w with heap:=w.heap.push (.mapIter (some B) es.length #[] es.length)}:=by unfold execOp;rw[d];simp only[q1];simp[Instr.range,run_underlying l,MapKept.run_getObj_map q4,newObj,q5];rfl
 unfold Oper.wp;rw[b,Oper.upon_value];refine⟨_,_,_,_,rfl,i,?_,s.sim.push_m (.mapIter (some B) es.length #[] es.length) B (.it es.length []) rfl ⟨w.heap.size,by simp[Gh.at_],by simp[Gh.at_],by simp[Gh.at_]⟩,Hd.push _ _ _⟩;exact .itp (by simp[cx]) (by simp[cx];omega) rfl λ_=>⟨w.heap.size,by simp[cx,Gh.at_],rfl,λ_=>by simp[cx,Gh.at_,BR t,q2]⟩
def AAa{m:Nat}(a:St A h N env H M w)(F:BA env c= .itp U m)(D:H[U]? =some (.it n O))(C:H[m]? =some (.mp s J)):
  ∃(B f:Nat) (b:Array MapEntry),M.eval c= .pointer (some ⟨B,0,none⟩)/\h.io U=some B/\h.gen U=0/\w.heap[B]? =some (.mapIter (some f) n O.toArray n)/\h.cap U=f/\w.heap[f]? =some (.map b b.size)/\b.size=J.length/\∀(j:Nat) (p:Int×AV),J[j]? =some p-> ∃e:MapEntry,b[j]? =some e/\e.born=j/\e.key= .int s p.1/\ ∀c,Bg c p.2 e.val:=by
 have l:=DQ a.env c;rw[F]at l;obtain⟨B,o,q,r⟩:=a.sim.bld U _ D rfl;obtain⟨f,b,t,u,v,y,z⟩:=a.sim.bld m _ C rfl;generalize M.eval c=k at l;cases l with
 |itp E x I X=>obtain⟨G,g,rfl,d⟩:=X q;rw[show(cx A h H w).io U=h.io U from rfl,o]at g;injection g with g;subst g;have d:=d u;rw[show(cx A h H w).io m=h.io m from rfl,t]at d;injection d with d;have d:f=h.cap U:=d;subst d;exact⟨B,_,b,rfl,o,q,r,rfl,v,y,z⟩
theorem Is.next{x:Operand}{id m:Nat}{k:IntKind}{es:List (Int×AV)}{seen:List Nat}(ho:o.op= .next x false)(hx:BA env x= .itp id m)(f:H[id]? =some (.it es.length seen))(he:H[m]? =some (.mp k es))
  (z:(∀j,j<es.length->j∈seen)->K (.tup [.bool false]) H)
  (C: ∀(j:Nat) (p:Int×AV),es[j]? =some p->j∉seen->K (.tup [.bool true,.int k p.1,p.2]) (H.set id (.it es.length (seen++[j])))):Is P N o env H K:=by
 apply Cu (by rw[ho];rfl);intro X h a w s Q;obtain⟨B,v,c,q1,q2,q3,q4,qc,q5,q6,q7⟩:=AAa s hx f he;have ar:execOp a.eval o=(do pure (.value (<-Instr.next (a.eval x) false o.type))):=by unfold execOp;rw[ho]
 have y: ∀(j:Nat) (e:MapEntry),c[j]? =some e->e.born=j/\j<es.length:=by
  intro j e q;have I:j<es.length:=by grind[Array.getElem?_eq_some_iff]
  obtain⟨e',E,T,_⟩:=q7 j _ (Az I);rw[q]at E;injection E with E;subst E;exact⟨T,I⟩
 have t: ∀e∈c.toList,e.born<es.length:=λe A=>by grind[List.getElem?_of_mem]
 have M:w.heap[B]? =some (.mapIter (some v) es.length seen.toArray es.length):=q4;generalize V:Array.filter (λe:MapEntry=>!seen.toArray.contains e.born) c=L;have G: ∀e∈L.toList,e∈c.toList/\e.born∉seen:=λe A=>by rw[<-V]at A;simpa using A
 have E:L.filter (λx=>decide (x.born<es.length))=L:=Array.filter_eq_self.2 (λx hx=>by simpa using t x (G x (by simpa using hx)).1);have T:L.filter (λx=>decide (x.born>=es.length))= #[]:=by grind[Array.filter_eq_empty_iff]
 have D:(Instr.next (.pointer (some ⟨B,0,none⟩)) false o.type).run P w=((do
   let b:=(if L.isEmpty then #[none]else #[])++L.map some;match b[<-choose (.mapNext b.size)]? with
   |some (some e)=>
    setObj B (.mapIter (some v) es.length (seen.toArray.push e.born) c.size)
    pure (.tuple #[.bool true,e.key,e.val])
   |some none=>pure (.tuple #[.bool false])
   |none=>stuck "Next: no such candidate"):Sem Value).run P w:=by
  simp only[Instr.next,getObj,Sem.run_bind,Sem.run,M,q5,Result.andThen,next_test_false seen.toArray c es.length es.length t (Ak _),I2,if_false,V,E,T,Array.append_empty];rfl
 by_cases h0:L.size=0;have W:L= #[]:=Array.eq_empty_of_size_eq_zero h0;subst W;have g:(execOp a.eval o).run P w= .ok (.value (.tuple #[.bool false])) w:=by simp_all[Sem.run_bind,Sem.run,Question.forced]
 unfold Oper.wp;rw[g,Oper.upon_value];refine⟨_,_,h,H,rfl,z λj q=>?_,.tup (by simp) λi u d f n=>?_,s.sim,Hd.refl _ _ _⟩;obtain⟨e,O,R,_⟩:=q7 j _ (Az q);rcases Classical.em (j∈seen)with U|U;exact U;have:e∈(Array.filter (λe:MapEntry=>!seen.toArray.contains e.born) c).toList:=by have A:e∈c:=ng O;simp[A,R,U]
 rw[V]at this;simp at this;rcases i with _|i;simp at f n;subst f n;exact .bool false;simp at f;have a0:L.isEmpty=false:=by simp[Array.isEmpty,h0]
 obtain⟨i,l,ax,Y,Z,ad,al,ap⟩: ∃(i:Nat) (l:World),i<L.size/\l.heap=w.heap/\l.os=w.os/\l.output=w.output/\l.tape=w.tape/\(choose (Question.mapNext L.size)).run P w= .ok i l:=by by_cases hf:L.size<=1;exact⟨0,w,by omega,rfl,rfl,rfl,rfl,by simp[choose,Sem.run,Question.forced,hf]⟩;exact⟨_,w.drew,Nat.mod_lt _ (by omega),rfl,rfl,rfl,rfl,by simp only[choose,Sem.run,Question.forced,decide_eq_true_eq,hf,if_false,Question.cut];rfl⟩
 have A:L[i]∈L.toList:=by simp
 obtain⟨m1,m2⟩:=G _ A;obtain⟨j,q⟩:=FF m1;have q:c[j]? =some L[i]:=by simpa using q
 obtain⟨O,R⟩:=y j _ q;obtain⟨e,S,c2,c3,c4⟩:=q7 j _ (Az R);rw[q]at S;injection S with S;subst S;have F:B<w.heap.size:=(gf.1 q4).1;have g:(execOp a.eval o).run P w= .ok (.value (.tuple #[.bool true,.int k es[j].1,L[i].val])) {l with heap:=w.heap.setIfInBounds B (.mapIter (some v) es.length (seen++[j]).toArray es.length)}:=by
  rw[ar,q1,Sem.run_bind,D];simp only[a0,I2,if_false,Array.empty_append,Array.size_map,Sem.run_bind,ap,Result.andThen_ok,Ym,PL ax,Bf];have J:(setObj B (.mapIter (some v) es.length (seen.toArray.push L[i].born) c.size)).run P l= .ok () {l with heap:=w.heap.setIfInBounds B (.mapIter (some v) es.length (seen++[j]).toArray es.length)}:=by simp[setObj,Sem.run,Y,M,O,q6]
  simp only[J,Result.andThen_ok,Sem.run_pure,c3]
 unfold Oper.wp;rw[g,Oper.upon_value];obtain⟨s1,s2⟩:=s.sim.setM (E':=.it es.length (seen++[j])) (o':=.mapIter (some v) es.length (seen++[j]).toArray es.length) (w':={l with heap:=w.heap.setIfInBounds B (.mapIter (some v) es.length (seen++[j]).toArray es.length)}) f rfl rfl q2 q4 (λr e=>by cases e) rfl Z al ad
  ⟨B,q2,q3,by simp[F,qc]⟩
 refine⟨_,_,_,_,rfl,C j _ (Az R) (by rw[<-O];exact m2),.tup (by simp) λi u d f n=>?_,s1,s2⟩;rcases i with _|_|_|i;simp at f n;subst f n;exact .bool true;simp at f n;subst f n;exact .int _ _;simp at f n;subst f n;exact c4 _;simp at f
theorem Is.entry{x:Operand}{id m j:Nat}{k:IntKind}{es:List (Int×AV)}{seen:List Nat}{p:Int×AV}(l:o.op= .entry x)(A:BA env x= .itp id m)(f:H[id]? =some (.it es.length (seen++[j])))(r:H[m]? =some (.mp k es))
  (v:es[j]? =some p) (y:K (.tup [.int k p.1,p.2]) H):Is P N o env H K:=by
 apply Cu (by rw[l];rfl);intro X h a w s Q;obtain⟨B,C,b,q1,q2,q3,q4,J,q5,q6,q7⟩:=AAa s A f r;obtain⟨e,D,n,q,E⟩:=q7 j p v;have t:b.find? (λx=>x.born==j)=some e:=by
  rw[<-Array.find?_toList,<-n];refine find_born e b.toList ?_ (by grind);have I:b.toList.map (·.born)=List.range b.size:=by refine Mw λi=>?_;rw[CL,Pl];rcases Aq i b.size with z|z;obtain⟨e,F,G,_⟩:=q7 i _ (Az (by omega:i<es.length));grind;grind
  grind
 have c:(execOp a.eval o).run P w= .ok (.value (.tuple #[.int k p.1,e.val])) w:=by unfold execOp;rw[l];simp only[q1];simp[Instr.entry,getObj,Sem.run,q4,q5,q6,t,q]
 unfold Oper.wp;rw[c,Oper.upon_value];refine⟨_,_,h,H,rfl,y,.tup (by simp) λi u d f g=>?_,s.sim,Hd.refl _ _ _⟩;rcases i with _|_|i;simp at f g;subst f g;exact .int _ _;grind;grind
end
mutual
def Ty.flat:Ty->Bool
 | .list _=>false
 | .arr _ t=>t.flat
 | .prod ts=>ts.flat
 |_=>true
def QX.flat:QX->Bool
 | .one t=>t.flat
 | .cons t ts=>t.flat&&ts.flat
end
def Plain(v:AV):Prop:= ∀(x:Cx) (c:Value),Bg x v c-> ∀y,Bg y v c
theorem Plain.agg{a:List AV}(h: ∀v∈a,Plain v):Plain (.agg a):=λx c r y=>by
 cases r with
 |agg e f i=>exact .agg e f λj v d b g=>h v (BK b) x d (i j v d b g) y
mutual
theorem Ty.plain_cells: ∀(t:Ty),t.flat=true-> ∀x:t.D,∀v∈(t.enc x).cells,Plain v
 | .bool,_,b,v,d=>by simp only[Ty.enc,AV.cells,A2]at d;subst d;exact λ_ c r y=>by cases r;exact .bool _
 | .int k,_,n,v,d=>by simp only[Ty.enc,AV.cells,A2]at d;subst d;exact λ_ c r y=>by cases r;exact .int _ _
 | .str,_,s,v,d=>by
  simp only[Ty.enc,AV.cells,A2]at d;subst d;exact λ_ c r y=>by
   cases r with
   |str t e=>exact .str t e
 | .list t,h,_,_,_=>by cases h
 | .arr n t,h,a,v,d=>by simp only[Ty.enc,AV.cells,Hg]at d;obtain⟨i,_,d⟩:=d;exact t.plain_cells h _ v d
 | .prod ts,h,x,v,d=>ts.plain_cells h x v d
theorem QX.plain_cells: ∀(b:QX),b.flat=true-> ∀x:b.D,∀v∈b.cells x,Plain v
 | .one t,h,x,v,a=>t.plain_cells h x v a
 | .cons t b,h,x,v,a=>by simp only[QX.flat,BT]at h;simp only[QX.cells,Ap]at a;rcases a with a|a;exact t.plain_cells h.1 _ v a;exact b.plain_cells h.2 _ v a
end
theorem Ty.plain(t:Ty)(h:t.flat=true)(x:t.D):Plain (t.enc x):=by have a:=t.plain_cells h x;cases t<;>grind[Plain.agg,Ty.enc,AV.cells]
section
variable {R:Type}
def md(P:Program)(H:An)(t:TypeId)(k:TV->An->Option R):Option R:=
 match P.underlying t with
 |some (.map kt et)=>
  match P.underlying kt,tj P 1000 et with
  |some (.int kk),some ty=>k (.c (.raw (.mp H.length))) (H++[.mp false kk ty []])
  |_,_=>none
 |_=>none
def gN(P:Program)(H:An)(t:TypeId)(m kx v:TV)(k:TV->An->Option R):Option R:=
 match P.underlying t with
 |some (.map kt _)=>
  match m,kx with
  | .c (.raw (.mp id)),.c (.it kk n)=>
   match P.underlying kt,H[id]? with
   |some (.int k1),some (.mp false k2 ty es)=>
    if k1=kk/\k2=kk then
     match ty.flat with
     |true=>match ty.data v with|some x=>k S4 (H.set id (.mp false k2 ty (S3 n x es)))|none=>none
     |false=>none
    else none
   |_,_=>none
  |_,_=>none
 |_=>none
def pW(P:Program)(H:An)(t:TypeId)(m kx:TV)(k:TV->An->Option R):Option R:=
 match P.underlying t with
 |some (.map kt et)=>
  match m,kx with
  | .c (.raw (.mp id)),.c (.it kk n)=>
   match P.underlying kt,H[id]?,ut P et with
   |some (.int k1),some (.mp _ k2 ty es),some z=>
    if k1=kk/\k2=kk then
     match ty.isAgg&&AV.beqL z (ty.enc ty.zero).cells with
     |true=>k (.tup [ty.tv ((Ph n es).getD ty.zero),.c (.bl (Ph n es).isSome)]) H
     |false=>none
    else none
   |_,_,_=>none
  |_,_=>none
 |_=>none
variable {P:Program} {N:Nat} {o:Oper} {env:BS} {H:An} {k:TV->An->Option R} {r:R}
theorem mf(ok:PB env H)(b:o.op= .makeMap a none)(h:md P H a k=some r): ∀F,ic P N o env H F k r:=by intro F;unfold md at h;split at h;split at h;rename_i t d _ _;have c:B4 H (H++[.mp false t d []]):=B4.push H _;refine⟨_,_,Is.makeMap t b ⟨?_,?_⟩,h,JW trivial,Od ok.heap trivial,c,Frame.push F H _⟩;show AV.mp (A6 H).length=AV.mp H.length;rw[CV];rw[Pt];rfl;cases h;cases h
def jk{w:Operand}(ok:PB env H)(F:o.op= .mapUpdate a c L w)(h:gN P H a (Iu env c) (Iu env L) (Iu env w) k=some r):ic P N o env H (List.range H.length) k r:=by
 have b:=KU env;unfold gN at h;split at h;rename_i s J G;split at h;rename_i id K n E D;split at h;rename_i k1 q m d g i;split at h;rename_i f;obtain⟨A,B⟩:=f;subst A B;split at h;rename_i e;split at h;rename_i x I;have u:B4 H (H.set id (.mp false q m (S3 n x d))):=B4.set i rfl λ_ _ _ _ _ h=>by cases h
 refine⟨S4,_,Is.mapUpdate (id:=id) (k:=q) (n:=n) (v:=m.enc x) (es:=d.map λp=>(p.1,m.enc p.2)) F (by rw[b,E];rfl) (by rw[b,D];rfl) (λy t l z=>?_) G g (by rw[E8,i];rfl) ⟨rfl,?_⟩,h,cG,So u ok.heap trivial,u,λj C hn=>(hn (IY.2 C)).elim⟩;rw[b]at l;exact m.plain e x y t (LW I y t l) z;rw[M5,<-rK];rfl;cases h;cases h;cases h;cases h;cases h;cases h
theorem nV(ok:PB env H)(y:o.op= .lookup a c L true)(h:pW P H a (Iu env c) (Iu env L) k=some r): ∀F,ic P N o env H F k r:=by
 intro F;have g:=KU env;unfold pW at h;split at h;rename_i G D A;split at h;rename_i id E n w u;split at h;rename_i k1 ro C j b z e s B;split at h;rename_i d;obtain⟨l,q⟩:=d;subst l q;split at h;rename_i t;simp at t;have f:=aK _ _ t.2;refine⟨_,H,Is.lookup (id:=id) (k:=C) (n:=n) (z:=z) (es:=b.map λp=>(p.1,j.enc p.2)) y (by rw[g,w];rfl) (by rw[g,u];rfl) A e B (by rw[E8,s];rfl) ⟨?_,rfl⟩,h,Px λv m=>?_,ok.heap,B4.refl H,Frame.refl F H⟩;rw[rI];show _=AV.tup [(j.tv _).enc,_];rw[Ty.tv_enc];cases Ph n b with
 |none=>rw[f];rw[<-Ty.agg_enc t.1];rfl
 |some x=>rfl
 rcases Am.1 m with rfl|m;exact Ty.tv_ok _ _;simp at m;subst m;exact JW trivial;cases h;cases h;cases h;cases h;cases h
end
inductive Tgt where
 |fn (F:FuncId)
 |yd (id:Nat)
abbrev RW:= ∀{R:Type},Tgt->List TV->An->(TV->An->Option R)->Option R
def bk(ops:Array Oper)(g:Option (Nat×Bool))(env:BS):Option Bool:=
 match g with
 |none=>some true
 |some (j,want)=>
  match (ops[j]?).bind (·.dst)with
  |some d=>match env.get d with| .c (.bl b)=>some (b==want)| .tup []=>some false|_=>none
  |none=>none
def KM:List Bc->List Nat
 |[]=>[]
 | .own id _ _ _::r=>id::KM r
 |_::r=>KM r
def behind(H:An)(v:TV):List Nat:=
 match v with
 | .c (.raw (.ptr id 0 0))=>match H[id]? with|some (.live false cs)=>KM cs|_=>[]
 |v=>KM v.refs
def H6:List Nat->BS->An->BS×An
 |[],env,H=>(env,H)
 |id::r,env,H=>match frz id env H with|some (e,h)=>H6 r e h|none=>H6 r env H
def kP:List Su->FuncId->Option Su
 |[],_=>none
 |c::r,F=>match Nat.beq c.f F with|true=>some c|false=>kP r F
def eQ(env:BS)(op:Op):Option (FuncId×List TV):=
 match op with
 | .call c=>
  match c.callee with
  | .value f=>match Iu env f with| .c (.raw (.fn (.func F) first caps))=>some (F,first.map wF++c.args.toList.map (Iu env)++caps.map wF)|_=>none
  |_=>none
 |_=>none
def nE(env:BS)(c:Call):Option (Nat×List TV):=
 match c.callee with
 | .value f=>match Iu env f with| .c (.raw (.yf id))=>some (id,c.args.toList.map (Iu env))|_=>none
 |_=>none
def fX(cs:List Su)(env:BS)(H:An)(op:Op):List Nat:=
 match op with
 | .call c=>
  match eQ env (.call c)with
  |some (F,vs)=>match kP cs F with|some ct=>(ACx ct vs).flatMap (behind H)|none=>[]
  |none=>[]
 | .buildSlice _ _ parts=>parts.toList.flatMap λp=>KM (Iu env p.2).refs
 | .store _ a v=>match Iu env a with| .aptr .. =>KM (Iu env v).refs| .bptr .. =>KM (Iu env v).refs|_=>[]
 | .slice _ x _ _ _=>KM (Iu env x).refs
 |_=>[]
def Tv(H H':An):An:=H++H'.drop H.length
def isNil:List R->Bool
 |[]=>true
 |_=>false
section
variable {R:Type}
def pI(cs:List Su)(env:BS)(H:An)(op:Op):List Nat:=
 match op with
 | .store _ a _=>zX (Iu env a)
 | .mapUpdate .. =>List.range H.length
 | .call c=>
  match eQ env (.call c)with
  |some (F,vs)=>match kP cs F with|some ct=>zD ct vs|none=>(match isNil vs with|true=>[]|false=>List.range H.length)
  |none=>
   match nE env c with
   |some _=>List.range H.length
   |none=>match c with|{callee:=.builtin .append,args:=⟨[s,_]⟩,.. }=>zX (Iu env s)|_=>[]
 |_=>[]
def qe(P:Program)(cs:List Su)(call:RW)(env:BS)(H:An)(op:Op)(k:TV->An->Option R):Option R:=
 match op with
 | .alloc t=>sM P H t k
 | .box _ x=>yv H (Iu env x) k
 | .store t a v=>storeT P H t (Iu env a) (Iu env v) k
 | .buildSlice t len parts=>W5 P env H t len parts k
 | .makeSlice t x y=>bp P H t (Iu env x) (Iu env y) k
 | .makeMap t none=>md P H t k
 | .mapUpdate t m x y=>gN P H t (Iu env m) (Iu env x) (Iu env y) k
 | .lookup t m x true=>pW P H t (Iu env m) (Iu env x) k
 | .convert s d x=>
  match kd P d with
  | .bytes=>nC P H s d (Iu env x) k
  |_=>zx P env H (.convert s d x) λv=>k v H
 | .call c=>
  match eQ env (.call c)with
  |some (F,vs)=>
   match Z8 P F with
   |true=>
    match kP cs F with
    |some ct=>uD ct vs H k
    |none=>match isNil vs with|true=>call (.fn F) [] (H.map Dn.lock) λv H'=>k v (Tv H H')|false=>call (.fn F) vs H k
   |false=>none
  |none=>
   match nE env c with
   |some (id,vs)=>call (.yd id) vs H k
   |none=>
    match c with
    |{callee:=.builtin .append,args:=⟨[s,x]⟩,argTypes:=⟨[t,t']⟩}=>match Nat.beq t t' with|true=>lG P H t (Iu env s) (Iu env x) k|false=>none
    |c=>zx P env H (.call c) λv=>k v H
 |op=>zx P env H op λv=>k v H
def force(f:Bool)(v:TV)(k:TV->Option R):Option R:=
 match f with
 |true=>match v with| .c (.bl b)=>cond b (k (.c (.bl true))) (k (.c (.bl false)))|v=>k v
 |false=>k v
def guards(ops:Array Oper):List Nat:=ops.toList.filterMap λo=>o.guard.map (·.1)
def Ni(j:Nat):List Nat->Bool
 |[]=>false
 |i::r=>match Nat.beq i j with|true=>true|false=>Ni j r
def ABH{α:Type}(l:List α)(i:Int)(z:α):Option (List α):=if 0<=i/\i<=(l.length:Int)then some (l.take i.toNat++List.replicate (l.length-i.toNat) z)else none
def uG(o1 o2:Oper):Option (Nat×TypeId×Operand×Operand):=
 match o1.dst,o1.op,o1.guard,o2.dst,o2.op,o2.guard with
 |some d,.slice t x (some lo) none none,none,none,.call {callee:=.builtin .clear,args:=⟨[.tmp d']⟩,argTypes:=⟨[t']⟩},none=>match Nat.beq d d'&&Nat.beq t t' with|true=>some (d,t,x,lo)|false=>none
 |_,_,_,_,_,_=>none
def AA5(P:Program)(H:An)(t:TypeId)(x lo:TV)(k:An->Option R):Option R:=
 match x,lo with
 | .c (.own id ver _ _),.c (.it _ i)=>
  match H[id]? with
  |some (.buf false t2 l n2 ver2)=>
   match Nat.beq ver ver2,zN P t,eI P t with
   |true,some te,some (none,e,_)=>
    if h:(Ty.list t2).beq (Ty.list te)=true then
     match nF P e with
     |some z=>match te.all z with|some zd=>(ABH (α:=te.D) (Ty.cast h l) i zd).bind λl'=>k (H.set id (.buf false te l' n2 ver2))|none=>none
     |none=>none
    else none
   |_,_,_=>none
  |_=>none
 |_,_=>none
def y0(o:Oper):List Oper->Option (Nat×TypeId×Operand×Operand)
 |o2::_=>uG o o2
 |[]=>none
def rX(P:Program)(cs:List Su)(call:RW)(ops:Array Oper)(gs:List Nat)(sk:Bool):List Oper->Nat->BS->An->(BS->An->Option R)->Option R
 |[],_,env,H,k=>k env H
 |o::r,j,env,H,k=>
  match sk with
  |true=>rX P cs call ops gs false r (j+1) env H k
  |false=>
   match y0 o r with
   |some (d,t,x,lo)=>AA5 P H t (Iu env x) (Iu env lo) λH'=>rX P cs call ops gs true r (j+1) (env.put d S4) H' k
   |none=>
    match bk ops o.guard env with
    |some true=>
     match H6 (fX cs env H o.op) env H with
     |(env1,H1)=>qe P cs call env1 H1 o.op λv H'=>force (Ni j gs) v λv'=>rX P cs call ops gs false r (j+1) (env1.putO o.dst v') H' k
    |some false=>rX P cs call ops gs false r (j+1) (env.putO o.dst (.tup [])) H k
    |none=>none
end
def iO(H:An)(v:TV):Prop:= ∀id ver t n,Bc.own id ver t n∈v.refs-> ∀t' l n' ver',H[id]? ≠some (.buf false t' l n' ver')
structure E4(A:List Nat)(env:BS)(H:An)(env':BS)(H':An):Prop where
 step:B4 H H'
 same: ∀t,t∉A->iO H (env.get t)->env'.get t=env.get t
def iO.step(h:B4 I b)(d:e.ok I)(k:iO I e):iO b e:=by intro id a t n c;have hr:=d (.own id a t n) c;exact h.nb id hr.1 (k id a t n c)
theorem E4.refl(A:List Nat)(env:BS)(H:An):E4 A env H env H:=⟨B4.refl H,λ_ _ _=>rfl⟩
def E4.trans{A B:List Nat}{i:BS}{c e f:An}(ok: ∀p∈W,p.2.ok c)(a:E4 A W c g e)(b:E4 B g e i f):E4 (A++B) W c i f:=by refine⟨a.step.trans b.step,λt l k=>?_⟩;have j:=a.same t (λh=>l (IX _ h)) k;rw[b.same t (λh=>l (RI _ h)) (by rw[j];exact k.step a.step (jd ok t)),j]
def E4.mono{B:List Nat}(a:E4 O g b W I)(h: ∀t,t∈O->t∈B):E4 B g b W I:=⟨a.step,λt A f=>a.same t (λq=>A (h t q)) f⟩
def pN{t u:Nat}(h:u≠t): ∀env:BS,(BS.del t env).get u=env.get u
 |[]=>rfl
 |(k,v)::r=>by simp only[BS.del];by_cases a:k=t;subst a;rw[GC];simp only[BS.get,beq_false (Ne.symm h)];exact pN h r;rw[beq_false a];simp only[BS.get];rw[pN h r]
def iZ(h:n≠N):(g.put N e).get n=g.get n:=by simp_all[BS.put,BS.get,beq_false,Ne.symm,pN]
theorem pX{p:Nat×TV}{t:Nat}: ∀{env:BS},p∈BS.del t env->p∈env
 |(k,v)::r,h=>by simp only[BS.del]at h;split at h;exact CA _ (pX h);rcases Am.1 h with rfl|h;simp;exact CA _ (pX h)
theorem bw{d:Option Nat}(h: ∀p∈g,p.2.ok b)(H:e.ok b): ∀p∈g.putO d e,p.2.ok b:=by
 cases d with
 |none=>exact h
 |some t=>intro p a;rcases Am.1 a with rfl|a;exact H;grind[pX]
def iE{l:List t.D}(g:b[N]? =some (.buf false t l n U))(j: ∀a f e d,z= .own a f e d-> ∀i l2 h c,b[a]? ≠some (.buf false i l2 h c)):Mi N U t l z=z:=by
 cases z with
 |own a f e d=>simp only[Mi];split<;>simp_all
 |_=>rfl
mutual
theorem mL{H:An}{id n k:Nat}{t:Ty}{l:List t.D}(d:H[id]? =some (.buf false t l n k)): ∀{v:TV},iO H v->iF id k t l v=v
 | .c z,h=>by simp only[iF];rw[iE d λa j i f e=>h a j i f (by simp[TV.refs,e])]
 | .g b,h=>by
  simp only[iF,TV.g.injEq];have: ∀b:List Bc,(∀a j i f,Bc.own a j i f∈b-> ∀s l2 q m,H[a]? ≠some (.buf false s l2 q m))->b.map (Mi id k t l)=b:=by
   intro b;induction b with
   |nil=>intro _;rfl
   |cons z r p=>intro h;rw[Bb,p λa j i f o=>h a j i f (by simp[o]),iE d λa j i f e=>h a j i f (by simp[e])]
  exact this b h
 | .tup vs,h=>by simp only[iF];rw[kS d (vs:=vs) h]
 | .aptr ..,_=>rfl
 | .bptr ..,_=>rfl
 | .vptr ..,_=>rfl
theorem kS{H:An}{id n c:Nat}{t:Ty}{l:List t.D}(b:H[id]? =some (.buf false t l n c)): ∀{vs:List TV},iO H (.tup vs)->bE id c t l vs=vs
 |[],_=>rfl
 |v::r,h=>by simp only[bE];rw[mL b (v:=v) λa g f e d=>h a g f e (by simp only[TV.refs,TV.refsL,Ap];exact .inl d),kS b (vs:=r) λa g f e d=>h a g f e (by simp only[TV.refs,TV.refsL,Ap]at d⊢;exact .inr d)]
end
def uT{f:TV->TV}(a:f S4=S4)(t:Nat): ∀env:BS,BS.get (env.map λp=>(p.1,f p.2)) t=f (env.get t)
 |[]=>a.symm
 |(k,v)::r=>by simp only[Bb,BS.get];split;rfl;exact uT a t r
def xH(h:frz N g b=some (W,I))(t:Nat)(d:iO b (g.get t)):W.get t=g.get t:=by unfold frz at h;split at h;rename_i e l n H a;obtain⟨rfl,rfl⟩:=h;rw[uT (f:=iF N H e l) rfl];exact mL a d;cases h
def Pv: ∀(a:List Nat) {env:BS} {H:An},PB env H→PB (H6 a env H).1 (H6 a env H).2∧E4 [] env H (H6 a env H).1 (H6 a env H).2∧
  ∀N,F4 N (A6 H).length (Bt env) (A6 H) (Bt (H6 a env H).1) (A6 (H6 a env H).2)
 |[],env,H,ok=>⟨ok,E4.refl _ _ _,λN=>F4.refl N _ _⟩
 |id::r,env,H,ok=>by simp only[H6];split;rename_i e h b;obtain⟨f,c,j⟩:=ABC ok b;obtain⟨g,i,k⟩:=Pv r f;refine⟨g,(E4.trans (A:=[]) (B:=[]) ok.env ⟨c,λt _ d=>xH b t d⟩ i),λN=>(j N).trans ((k N).of_le (by rw[CV,CV];exact c.len))⟩;exact Pv r ok
section
variable {P:Program} {N:Nat} {R:Type}
def uA(P:Program)(args:List AV)(H:As)(v:AV)(H':As):Tgt->Prop
 | .fn F=>Et P F args H (DY v H')
 | .yd id=> ∀(N:Nat) (o:Oper) (c:Call) (f:Operand) (env:Env),o.op= .call c->c.callee= .value f->BA env f= .yf id->c.args.toList.map (BA env)=args->Is P N o env H (DY v H')
def Um(P:Program)(call:RW):Prop:= ∀{R:Type} tg vs H (k:TV->An->Option R) r,(∀v∈vs,v.ok H)->(∀e∈H,e.ok H)->call tg vs H k=some r->
 ∃v H',uA P (vs.map TV.enc) (A6 H) v.enc (A6 H') tg/\k v H'=some r/\v.ok H'/\(∀e∈H',e.ok H')/\B4 H H'
theorem dw(h:bk j q g=some true){B:Prop}(a:Y):VZ j q (Bt g) Y B:=by unfold bk at h;grind[VZ,UE,SV,TV.enc,Bc.one]
theorem iN(h:bk j q g=some false){B:Prop}(b:B):VZ j q (Bt g) Y B:=by unfold bk at h;unfold VZ;split at h;cases h;rename_i a c;unfold UE;split at h;rename_i d f;simp only[f,SV];split at h;grind[TV.enc,Bc.one];rename_i e;simp[e];exact b;cases h;cases h
theorem pQ(e: ∀d b,g.get d= .c (.bl b)->W.get d= .c (.bl b))(h:bk j q g=some true):bk j q W=some true:=by cases q<;>grind[bk]
theorem gH: ∀{a:List Su} {F:FuncId} {c:Su},kP a F=some c->c∈a/\c.f=F
 |d::r,F,c,h=>by simp only[kP]at h;split at h;simp_all;obtain⟨b,e⟩:=gH h;grind
theorem o7{e:Op}(h:eQ g e=some (S,m)):Go.Ab.callT (BA (Bt g)) e=some (.inl (S,m.map TV.enc))/\ ∀H,(∀p∈g,p.2.ok H)-> ∀v∈m,v.ok H:=by
 unfold eQ at h;split at h;rename_i c;split at h;rename_i f d;split at h;rename_i G first a F
 simp at h;obtain⟨rfl,rfl⟩:=h;have j:BA (Bt g) f= .fn (.func G) first a:=by rw[KU,F];rfl
 have k: ∀l:List AV,(l.map wF).map TV.enc=l:=by
  intro l;conv=>rhs;rw[<-aA l]
  grind[List.map_congr_left,cH]
 refine⟨?_,λH b v i=>?_⟩;simp_all[Go.Ab.callT,KU];simp at i;grind[eK,bA];cases h;cases h;cases h
theorem sD{c:Call}(h:nE g c=some (N,m)):(∃f,c.callee= .value f/\BA (Bt g) f= .yf N/\c.args.toList.map (BA (Bt g))=m.map TV.enc)/\ ∀H,(∀p∈g,p.2.ok H)-> ∀v∈m,v.ok H:=by unfold nE at h;split at h;rename_i f a;split at h;rename_i i b;injection h with h;injection h with d e;subst d e;refine⟨⟨f,a,by rw[KU,b];rfl,?_⟩,λH j v k=>?_⟩;grind[List.map_congr_left,KU];grind[bA];cases h;cases h
def ABc{k:TV->An->Option R}{r:R}(ok:PB g b)(h:zx P g b o.op (λv=>k v b)=some r): ∀F,ic P N o g b F k r:=by intro F;obtain⟨v,a,H,c⟩:=od ok h;exact⟨v,b,Da a ⟨rfl,rfl⟩,H,c,ok.heap,B4.refl b,Frame.refl F b⟩
theorem nM(H:An):A6 (H.map Dn.lock)=A6 H:=by grind[A6,List.map_congr_left,mb]
theorem rH(h: ∀e∈b,e.ok b): ∀e∈b.map Dn.lock,e.ok (b.map Dn.lock):=by
 have f: ∀id a t n,TO b id a t n->TO (b.map Dn.lock) id a t n:=λid a t n q=>by
  refine⟨by simpa using q.1,λro y l w k c=>?_⟩;rw[CL]at c;cases j:b[id]? with
  |none=>grind
  |some e=>
   rw[j]at c;simp at c;cases e<;>simp only[Dn.lock]at c<;>first|(cases c;done)|skip
   injection c with _ m v o p;subst m o p;exact q.2 _ _ _ _ _ j
 have d: ∀x:Bc,x.ok b->x.ok (b.map Dn.lock):=λx i=>by
  cases x with
  |own id a t n=>exact f _ _ _ _ i
  |_=>trivial
 intro e c;obtain⟨u,r,rfl⟩:=Bi.1 c;have g:=h u r;cases u with
 |dead=>trivial
 |live H s=>exact λx i=>d x (g x i)
 |buf=>exact g
 |lp=>exact g
 |mp=>exact g
theorem wZ(M: ∀e∈b,e.ok b)(L:B4 (b.map Dn.lock) I)(F: ∀e∈I,e.ok I):
  (∀v:TV,v.ok I->v.ok (Tv b I))/\(∀e∈Tv b I,e.ok (Tv b I))/\B4 b (Tv b I)/\ ∀x:Cx,R6 x x (A6 I) (A6 (Tv b I)):=by
 have K:b.length<=I.length:=by simpa using L.len
 have c:(Tv b I).length=I.length:=by grind[Tv,List.length_append,List.length_drop]
 have o: ∀j,j<b.length->(Tv b I)[j]? =b[j]? :=λj p=>CE p;have a: ∀j,b.length<=j->(Tv b I)[j]? =I[j]? :=λj p=>by grind[Tv]
 have keep: ∀(j:Nat) (e:Dn),b[j]? =some e->e≠ .dead->I[j]? =some e.lock:=λj e p G=>by apply L.ro j e.lock (by rw[CL,p];rfl);cases e<;>first|rfl|exact(G rfl).elim
 have A: ∀id f t n,TO I id f t n->TO (Tv b I) id f t n:=λid f t n q=>by refine⟨by rw[c];exact q.1,λro Q l P D d=>?_⟩;rcases Aq id b.length with h|h;rw[o id h]at d;exact q.2 _ _ _ _ _ (keep id _ d (by simp));rw[a id h]at d;exact q.2 _ _ _ _ _ d
 have k: ∀x:Bc,x.ok I->x.ok (Tv b I):=λx C=>by
  cases x with
  |own id f t n=>exact A _ _ _ _ C
  |_=>trivial
 have B:B4 b (Tv b I):=by refine⟨by rw[c];exact K,λid f t n q=>⟨by rw[c];exact DD q.1 K,λro Q l P D d=>?_⟩,λid e d _=>?_,λid w h=>by rw[o id w];exact h,λid w _ _ _ _ _ _ _ _ h=>by rw[o id w]at h;exact⟨_,_,h⟩⟩;rw[o id q.1]at d;exact q.2 _ _ _ _ _ d;grind
 refine⟨λv O x C=>k x (O x C),λe d=>?_,B,λx=>⟨by rw[CV,CV,c],λj R p=>?_⟩⟩;rcases Ap.1 d with d|d;exact B.ent (M e d);have E:=F e (Vc d);cases e with
 |dead=>trivial
 |live H s=>exact λx C=>k x (E x C)
 |buf=>exact E
 |lp=>exact E
 |mp=>exact E
 rw[E8]at p;cases J:(Tv b I)[j]? with
 |none=>grind
 |some y=>
  rw[J]at p;simp at p;subst p;have same:(A6 I)[j]? =some y.enc->y.enc= .dead\/(∃g s u,(A6 I)[j]? =some (.live g s)/\y.enc= .live g u/\u.length=s.length/\ ∀(i:Nat) (z:AV),u[i]? =some z-> ∃v,s[i]? =some v/\Conv x x v z)\/((A6 I)[j]? =some y.enc/\ ∀g s,y.enc≠ .live g s):=λh=>by
   cases y with
   |dead=>exact .inl rfl
   |live H s=>exact .inr (.inl ⟨_,_,_,h,rfl,rfl,λi z h=>⟨z,h,λ_ r=>r⟩⟩)
   |buf H t l m f=>exact .inr (.inl ⟨_,_,_,h,rfl,rfl,λi z h=>⟨z,h,λ_ r=>r⟩⟩)
   |lp=>exact .inr (.inr ⟨h,λ_ _ h=>by cases h⟩)
   |mp=>exact .inr (.inr ⟨h,λ_ _ h=>by cases h⟩)
  rcases Aq j b.length with h|h;rw[o j h]at J;by_cases N:y= .dead;subst N;exact .inl rfl;grind[E8,mb];grind[E8]
theorem kN{u:List Su}(y: ∀c∈u,c.Ok P){i:RW}(l:Um P i){k:TV->An->Option R}{r:R}(ok:PB g b)(h:qe P u i g b o.op k=some r):ic P N o g b (pI u g b o.op) k r:=by
 have s: ∀t,o.op=t->zx P g b t (λv=>k v b)=some r-> ∀F,ic P N o g b F k r:=λt e h=>ABc ok (by grind);generalize a:o.op=t at h;unfold qe at h;split at h;exact o0 ok a h;exact sS ok a h;exact py ok a h;exact gk ok a h;exact jj ok a h;grind[mf];exact jk ok a h;grind[nV];split at h;exact nD ok a h;grind;rename_i c;split at h;rename_i F q m;obtain⟨K,C⟩:=o7 m;split at h;rename_i x;split at h;rename_i L n;obtain⟨M,O⟩:=gH n;obtain⟨v,d,q1,q2,q3,q4,q5,q6⟩:=qS (y L M) (C b ok.env) ok.heap h;rw[O]at q1;exact⟨v,d,iT (by grind) x q1,q2,q3,q4,q5,by simp only[pI,m,n];exact q6⟩;rename_i n;split at h;rename_i H;have A:q=[]:=by cases q<;>first|rfl|cases H
 subst A;obtain⟨v,d,q1,q2,q3,q4,q5⟩:=l (.fn F) [] (b.map Dn.lock) _ r (λv Q=>by cases Q) (rH ok.heap) h;obtain⟨E,G,I,J⟩:=wZ ok.heap q5 q4;have B:Et P F [] (A6 b) (DY v.enc (A6 d)):=by grind[uA,nM]
 refine⟨v,Tv b d,Is.after (iT (by grind) x B) λX W w _=>?_,q2,E v q3,G,I,?_⟩;have hr:=(J (cx X W (A6 d) w)).onto;exact⟨hr,λc r=>r.later hr.later⟩;simp only[pI,m,n];exact λj p _=>CE p;rename_i H;obtain⟨v,d,q1,q2,q3,q4,q5⟩:=l (.fn F) q b k r (C b ok.env) ok.heap h;have z:=H;exact⟨v,d,iT (by rw[a];exact K) x q1,q2,q3,q4,q5,by simp only[pI,m,n,z];exact λj p hn=>(hn (IY.2 p)).elim⟩;cases h;rename_i m;split at h;rename_i id q D;obtain⟨⟨f,S,T,U⟩,V⟩:=sD D;obtain⟨v,d,q1,q2,q3,q4,q5⟩:=l (.yd id) q b k r (V b ok.env) ok.heap h;exact⟨v,d,q1 N o c f (Bt g) a S T U,q2,q3,q4,q5,by simp only[pI,m,D];exact λj p hn=>(hn (IY.2 p)).elim⟩;grind[nI,Nat.eq_of_beq_eq_true,pI];grind
theorem gJ{k:TV->Option R}{r:R}(h:force E e k=some r):k e=some r:=by unfold force at h;grind
def g8(ops:List Oper):List Nat:=ops.filterMap (·.dst)
def lu{b:Oper}{d:Nat}(h:uG o b=some (d,a,L,c)):o.dst=some d/\o.op= .slice a L (some c) none none/\o.guard=none/\b.dst=none/\b.op= .call {callee:=.builtin .clear,args:= #[.tmp d],argTypes:= #[a]}/\b.guard=none:=by unfold uG at h;split at h;rename_i e f g i j k;split at h<;>simp_all;cases h
def oD{a:Ty}{z:List AV}{b:a.D}(h:DT z (a.enc b).cells): ∀n:Nat,DT (List.replicate n z).flatten (a.E.cl (List.replicate n b))
 |0=>DT.refl _
 |n+1=>by exact DT.append h (oD h n)
theorem sW{o1 o2:Oper}{d:Nat}{t:TypeId}{x lo:Operand}{env:BS}{H:An}{k:An→Option R}{r:R}(ok:PB env H)(hc:uG o1 o2=some (d,t,x,lo))(h:AA5 P H t (Iu env x) (Iu env lo) k=some r):
  ∃v G,Is P N o1 (Bt env) (A6 H) (DY v (A6 H))/\Is P N o2 ((Bt env).put d v) (A6 H) (DY (.tup []) (A6 G))/\k G=some r/\(∀e∈G,e.ok G)/\B4 H G:=by
 obtain⟨_,c2,_,c4,U,_⟩:=lu hc;unfold AA5 at h;split at h;rename_i id c t0 n0 kk i hx Z;split at h;rename_i a l b ar y;split at h;rename_i te e a0 hb al F;split at h;rename_i S;split at h;rename_i z hz;split at h;rename_i zd ap;obtain⟨w,o,h⟩:=Dr.1 h;have T:=DP hb;subst T;have u:=Ty.beq_eq _ _ S;injection u with u;subst u;have B:(Ty.cast S l:List a.D)=l:=rfl;rw[B]at o;have hr:TO H id c t0 n0:=by have:=bA ok.env x;rw[hx]at this;exact this (.own id c t0 n0) (by simp[TV.refs])
 obtain⟨_,q⟩:=hr.2 _ _ _ _ _ y;obtain⟨rfl,rfl⟩:=q rfl;have hn:b=l.length:=ok.heap _ (BK y);obtain⟨e',I,M⟩:=da al;rw[I]at F;injection F with F;injection F with _ F;injection F with X Y;subst X Y;obtain⟨z1,z2⟩:=WS hz;have p:=FZ ap;have C:(lvs z).length=a.sz:=by rw[<-p.1,a.enc_len]
 unfold ABH at o;split at o;rename_i hi;injection o with o;have O:B4 H (H.set id (.buf false a w b c)):=B4.set y rfl λ_ _ _ _ _ e=>by grind
 have J:Dn.ok (H.set id (.buf false a w b c)) (.buf false a w b c):=by show b=w.length;grind
 have m:(A6 H)[id]? =some (.live b (a.E.cl l)):=by rw[E8,y];rfl
 have A:id<(A6 H).length:=by grind
 have ex:BA (Bt env) x= .sl id b a.sz 0 b:=by rw[KU,hx];rfl
 have el:BA (Bt env) lo= .int kk i:=by rw[KU,Z];rfl
 have W:RV (A6 H) id b=true:=by simp[RV,m]
 have s: ∀v,BA ((Bt env).put d v) (.tmp d)=v:=λv=>by simp[BA,Env.put,Env.get]
 have j:=a.E.clen l;have Q:a.E.sz=a.sz:=rfl;rw[Q]at j;have ad:CQ P (Bt env) (A6 H) o1.op=some (if i.toNat=0 then .sl id b a.sz 0 b else if i.toNat=b then .vs a.sz []else .sl id b a.sz (0+i.toNat*a.sz) (b-i.toNat)):=by
  rw[c2];have b1:Uo 0 (some (AV.int kk i))=some i.toNat:=by grind[Uo,mh]
  have b2: ∀n,Uo n none=some n:=λ_=>rfl;simp only[CQ,ex,el,Bf,Option.map_none,eH,b1,b2,I];rw[if_pos ⟨trivial,a.sz_pos,by omega,Ak _,Ak _,W,by simp⟩];grind
 have g: ∀V,a.E.cl l=V->(A6 H).set id (.live b V)=A6 H:=λV ax=>by apply Mw;grind
 have f:DT (UK (a.E.cl l) (i.toNat*a.sz) (List.replicate (b-i.toNat) (lvs z)).flatten) (a.E.cl w):=by
  have e1:a.E.cl w=a.E.cl (l.take i.toNat)++a.E.cl (List.replicate (b-i.toNat) zd):=by grind[Sv.cl]
  have e2:(a.E.cl l).take (i.toNat*a.sz)=a.E.cl (l.take i.toNat):=by
   have e3:a.E.cl l=a.E.cl (l.take i.toNat)++a.E.cl (l.drop i.toNat):=by grind[List.take_append_drop,Sv.cl]
   have e4:(a.E.cl (l.take i.toNat)).length=i.toNat*a.sz:=by rw[a.E.clen,CH,Q];grind
   grind
  have e5:(a.E.cl l).drop (i.toNat*a.sz+(List.replicate (b-i.toNat) (lvs z)).flatten.length)=[]:=by apply iw;simp[C];rw[<-Gj];grind
  unfold UK;rw[e1,e2,e5,Do];exact(DT.refl _).append (oD p _)
 have L:Is P N o2 ((Bt env).put d (if i.toNat=0 then .sl id b a.sz 0 b else if i.toNat=b then .vs a.sz []else .sl id b a.sz (0+i.toNat*a.sz) (b-i.toNat))) (A6 H) (DY (.tup []) (A6 (H.set id (.buf false a w b c)))):=by
  have e6:A6 (H.set id (.buf false a w b c))=(A6 H).set id (.live b (a.E.cl w)):=by rw[M5];rfl
  rw[e6];by_cases h0:i.toNat=0;rw[if_pos h0];refine Is.set_less A ?_ f;have:=Is.clear (N:=N) (K:=DY (.tup []) _) U c4 I M z1 C (s (.sl id b a.sz 0 b)) m (by rw[j,hn];omega) ⟨rfl,rfl⟩;grind;rw[if_neg h0];by_cases h1:i.toNat=b;rw[if_pos h1];have e7:w=l:=by simp_all
  rw[e7,g _ rfl];exact kz U (PN I).1 (s _) ⟨rfl,rfl⟩;rw[if_neg h1];refine Is.set_less A ?_ f;have:=Is.clear (N:=N) (K:=DY (.tup []) _) U c4 I M z1 C (s (.sl id b a.sz (0+i.toNat*a.sz) (b-i.toNat))) m (by rw[j,<-hn,D5,<-Gj];apply PJ;omega) ⟨rfl,rfl⟩;grind
 exact⟨_,_,Da ad ⟨rfl,rfl⟩,L,h,So O ok.heap J,O⟩;grind;cases h;cases h;cases h;cases h;cases h;cases h
def yU:F4 N (A6 b).length ((Bt g).put n v) (A6 b) (Bt (g.put n S4)) (A6 b):=by
 refine Tt rfl λX d w s=>⟨R6.refl _ _,λt f m=>?_⟩
 rw[g9]at m;rcases Am.1 m with e|m;injection e with a H;subst a H;exact⟨v,JP,λc _=>.any c⟩;exact⟨f,CA _ m,λ_ r=>r⟩
theorem bx{J:List Su}(m: ∀c∈J,c.Ok P){p:RW}(l:Um P p){D:Array Oper}{gs:List Nat}: ∀(os:List Oper) (j:Nat) (env:BS) (H:An) (k:BS→An→Option R) (r:R),PB env H→rX P J p D gs false os j env H k=some r→
  ∃f i,UN P N D os (Bt env) (A6 H) (λe h=>e=Bt f/\h=A6 i)/\k f i=some r/\PB f i/\E4 (g8 os) env H f i
 |[],j,env,H,k,r,ok,h=>⟨env,H,⟨_,_,F4.refl _ _ _,rfl,rfl⟩,h,ok,E4.refl _ _ _⟩
 |o::os,j,env,H,k,r,ok,h=>by
  simp only[rX]at h;have B: ∀{e:BS} {h:An} {v:TV},E4 (g8 [o]) e h (e.putO o.dst v) h:=by
   intro e h v;refine⟨B4.refl h,λt U _=>?_⟩;cases hd:o.dst with
   |none=>rfl
   |some d=>refine iZ λe=>U ?_;simp[g8,hd,e]
  have z: ∀t,t∈g8 [o]++g8 os->t∈g8 (o::os):=by grind[g8]
  split at h;rename_i d t x lo y;cases os with
  |nil=>cases y
  |cons o2 E=>
   have hc:=y;obtain⟨c1,c2,c3,c4,c5,c6⟩:=lu hc;obtain⟨v,C,M,w2,T,W,st⟩:=sW (N:=N) ok hc h;have g:PB (env.put d S4) C:=⟨bw (d:=some d) (st.env ok.env) cG,W⟩
   obtain⟨f,i,L,Y,F,G⟩:=bx m l E (j+1+1) _ C k r g T;refine⟨f,i,⟨Bt env,A6 H,F4.refl N _ _,?_⟩,Y,F,?_⟩;rw[c3];apply Is.mono M;rintro u _ ⟨rfl,rfl⟩;rw[c1];refine⟨(Bt env).put d u,A6 H,F4.refl N _ _,?_⟩;rw[c6];apply Is.mono w2;rintro _ _ ⟨rfl,rfl⟩;rw[c4];exact UN.weak yU L;have Z:E4 (g8 [o]) env H (env.put d S4) C:=by exact⟨st,λu hu _=>iZ λe=>hu (by simp[g8,c1,e])⟩
   refine(E4.trans ok.env Z G).mono λu hu=>?_;grind[g8,List.mem_cons_of_mem]
  split at h;rename_i S;obtain⟨K,t1,M⟩:=Pv (fX J env H o.op) ok;generalize H6 (fX J env H o.op) env H=q at h K t1 M;obtain⟨env1,C⟩:=q;obtain⟨v,I,e1,e2,e3,e4,e5,_⟩:=kN (N:=N) m l K h;have O:=gJ e2;have g:PB (env1.putO o.dst v) I:=⟨bw (e5.env K.env) e3,e4⟩
  obtain⟨f,i,L,E,F,G⟩:=bx m l os (j+1) _ I k r g O;refine⟨f,i,?_,E,F,?_⟩;refine⟨Bt env1,A6 C,M N,dw ?_ ?_⟩;exact pQ (λd b hb=>by rw[t1.same d (λh=>by cases h) (by rw[hb];intro id al t n hm;simp[TV.refs]at hm),hb]) S;exact λrr X h0 a w s Q=>To (e1 rr X h0 a w s Q) (by rintro a' w' ⟨c,u,h',ad,ha,⟨rfl,rfl⟩,V,hs,hx⟩;exact⟨c,_,h',_,ha,by show UN P N D os ((Bt env1).putO o.dst v.enc) (A6 I) _;rw[<-VQ];exact L,V,hs,hx⟩);have Z:E4 (g8 [o]) env1 C (env1.putO o.dst v) I:=by exact⟨e5,λt U T=>(B (h:=C)).same t U T⟩
  have:=(E4.trans (A:=[]) ok.env t1 (E4.trans K.env Z G))
  exact this.mono z;rename_i S;have g:PB (env.putO o.dst (.tup [])) H:=⟨bw ok.env (Px λv V=>by cases V),ok.heap⟩
  obtain⟨f,i,L,E,F,G⟩:=bx m l os (j+1) _ H k r g h;refine⟨f,i,⟨Bt env,A6 H,F4.refl N _ _,iN S ?_⟩,E,F,(E4.trans ok.env B G).mono z⟩;have:(Bt env).putO o.dst (.tup [])=Bt (env.putO o.dst (.tup [])):=by rw[VQ];rfl
  grind;cases h
end
end Go.Ab
