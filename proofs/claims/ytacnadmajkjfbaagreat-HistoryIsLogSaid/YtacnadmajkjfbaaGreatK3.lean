/- A layer over the model in which values are trees: its laws and a typed interpreter, part 3. Texts of the folder wip, laid in few files with shorter names by a program (wip/tools/pack.py); nothing is assumed. -/
import Derived.Test.YtacnadmajkjfbaaGreatK2
import Derived.Laws.IdiomRangeMap
noncomputable section
set_option linter.unusedVariables false
set_option linter.unusedSimpArgs false
set_option linter.unusedSectionVars false
set_option linter.defProp false
set_option linter.unnecessarySimpa false
set_option linter.deprecated false
namespace Go.Ab
def S1(H:Am)(id ver:Nat)(t:Ty)(n:Nat):Prop:=
 id<H.length/\ ∀ro t' l n' ver',H[id]? =some (.buf ro t' l n' ver')->ver<=ver'/\(ver=ver'->t'=t/\n'=n)
def Ba.ok(H:Am):Ba->Prop
 | .own id ver t n=>S1 H id ver t n
 |_=>True
def lok(H:Am)(cs:List Ba):Prop:= ∀x∈cs,x.ok H
mutual
def TV.refs:TV->List Ba
 | .c x=>[x]
 | .g cs=>cs
 | .aptr .. =>[]
 | .bptr id ver t n _ _=>[.own id ver t n]
 | .vptr cs _=>cs
 | .tup vs=>TV.refsL vs
def TV.refsL:List TV->List Ba
 |[]=>[]
 |v::r=>v.refs++TV.refsL r
end
def TV.ok(H:Am)(v:TV):Prop:=lok H v.refs
def Dl.ok(H:Am):Dl->Prop
 | .live _ cs=>lok H cs
 | .buf _ _ l n _=>n=l.length
 | .dead=>True
 | .lp _ _ _ env _ _ _ _=> ∀p∈env,∀id ver t n,Ba.own id ver t n∉p.2.refs
 | .mp .. =>True
structure O0(env:BS)(H:Am):Prop where
 env: ∀p∈env,p.2.ok H
 heap: ∀e∈H,e.ok H
variable {a G Z:TypeId}{N n U:Nat}{b I:Am}{c L:Operand}{d:List Ba}{e T:TV}{P:Program}{t:Ty}{g W:BS}{i Q:List AV}{w:World}{j:Array Oper}{m:List TV}{p k:As}{o:Oper}{q:Option (Nat×Bool)}{s:IntKind}{h:Gh}{u:Env}{v:AV}{X:Nat->Prop}{z:Ba}{x y:Cx}{A:Nat→Prop}{B:Int}{C:Option TV}{D:Dl}{E:Bool}{F:Array (Nat×Operand)}{J:List (Int×AV)}{R:Type}{M:Act}{O:List Nat}{S:FuncId}{V:BinOp}{Y:Prop}
theorem IZ{H:List Ba}:lok b (d++H)↔lok b d/\lok b H:=by grind[lok]
theorem zD:lok b []:=λ_ h=>by cases h
def nz{v:TV}: ∀{l:List TV},v∈l-> ∀x∈v.refs,x∈TV.refsL l
 |w::r,a,x,hx=>by simp only[TV.refsL,Ar];rcases An.1 a with rfl|a;exact .inl hx;exact .inr (nz a x hx)
def jQ(h:(TV.tup m).ok b)(H:e∈m):e.ok b:=λx c=>h x (by simp only[TV.refs];exact nz H x c)
def Ph{H:Am}: ∀{vs:List TV},(∀v∈vs,v.ok H)->(TV.tup vs).ok H
 |[],_=>λx a=>by simp[TV.refs,TV.refsL]at a
 |v::r,h=>by have:=Ph (vs:=r) λw b=>h w (by simp[b]);intro x a;simp only[TV.refs,TV.refsL,Ar]at a;rcases a with a|a;exact h v (by simp) x a;exact this x a
theorem jG(h: ∀p∈g,p.2.ok b)(t:Nat):(g.get t).ok b:=by
 induction g with
 |nil=>intro x a;simp only[BS.get,Sf,TV.refs,A3]at a;subst a;trivial
 |cons p r H=>grind[BS.get]
theorem tX(v:Value):(wM v).ok b:=by
 cases v with
 |pointer p=>cases p<;>trivial
 |slice a l c=>
  cases a with
  |some _=>trivial
  |none=>
   match l,c with
   |0,0=>trivial
   |0,_+1=>trivial
   |_+1,_=>trivial
 |_=>trivial
def bZ:Sf.ok b:=λx a=>by simp only[Sf,TV.refs,A3]at a;subst a;trivial
theorem JR{H:Am}(h:z.ok H):(TV.c z).ok H:=λy a=>by grind[TV.refs]
theorem AAi(v:Value):(cvT v).ok b:=by
 cases v with
 |agg a=>
  simp only[cvT];cases h:a.toList.all (·.oneCell')with
  |false=>exact bZ
  |true=>intro x H;grind[TV.refs,tX]
 |_=>exact JR (tX _)
theorem aV{H:Am}(h: ∀p∈g,p.2.ok H)(x:Operand):(Ir g x).ok H:=by
 cases x with
 |tmp t=>exact jG h t
 |const v=>exact AAi v
 |global _=>exact bZ
 |func f=>exact JR trivial
theorem Gg(a b:List Ba):lvs (a++b)=lvs a++lvs b:=YI
theorem HM(x:Ba)(b:List Ba):lvs (x::b)=x.enc++lvs b:=I0
theorem Zh: ∀a:List Ba,(lvs a).length=xu a
 |[]=>rfl
 |x::r=>by rw[HM,Ag,x.enc_len,Zh r];rfl
def Nb: ∀{c:List Ba} {n:Nat} {a b:List Ba},UH c n=some (a,b)->c=a++b/\(lvs a).length=n
 |c,0,a,b,h=>by cases c<;>simp only[UH]at h<;>obtain⟨rfl,rfl⟩:=h<;>exact⟨rfl,rfl⟩
 |x::r,n+1,a,b,h=>by simp only[UH]at h;split at h;rename_i e;split at h;rename_i g i f;obtain⟨rfl,rfl⟩:=h;obtain⟨j,d⟩:=Nb f;rw[HM,Ag,d,x.enc_len];simp_all;cases h;cases h
mutual
theorem Ty.lvs_enc: ∀(t:Ty) (x:t.D),lvs (t.lvs x)=(t.enc x).cells
 | .bool,_=>rfl
 | .int _,_=>rfl
 | .str,_=>rfl
 | .list _,_=>rfl
 | .arr n t,a=>by simp only[Ty.lvs,lvs,I0,iQ,Dn,Ba.enc]
 | .prod ts,x=>by simp only[Ty.lvs,Ty.enc,AV.cells];exact ts.lvs_cells x
theorem QH.lvs_cells: ∀(a:QH) (x:a.D),Go.Ab.lvs (a.lvs x)=a.cells x
 | .one t,x=>by simp only[QH.lvs,QH.cells];exact t.lvs_enc x
 | .cons t a,x=>by simp only[QH.lvs,QH.cells];rw[Gg,t.lvs_enc,a.lvs_cells]
end
mutual
theorem Ty.lvs_ok{H:Am}: ∀(t:Ty) (x:t.D),lok H (t.lvs x)
 | .bool,_=>λy b=>by simp only[Ty.lvs,A3]at b;subst b;trivial
 | .int _,_=>λy b=>by simp only[Ty.lvs,A3]at b;subst b;trivial
 | .str,_=>λy b=>by simp only[Ty.lvs,A3]at b;subst b;trivial
 | .list _,_=>λy b=>by simp only[Ty.lvs,A3]at b;subst b;trivial
 | .arr n t,a=>λy b=>by simp only[Ty.lvs,A3]at b;subst b;trivial
 | .prod ts,x=>by simp only[Ty.lvs];exact ts.lvs_ok x
theorem QH.lvs_ok{H:Am}: ∀(a:QH) (x:a.D),lok H (a.lvs x)
 | .one t,x=>by simp only[QH.lvs];exact t.lvs_ok x
 | .cons t a,x=>by simp only[QH.lvs];exact IZ.2 ⟨t.lvs_ok _,a.lvs_ok _⟩
end
def LK(h:z.scalar=true):z.enc=[z.one]:=by
 cases z with
 |ar n t a=>cases h
 |_=>rfl
def Ba.scalar_cells(h:z.scalar=true):z.one.cells=[z.one]:=by
 cases z with
 |ar n t a=>cases h
 |raw v=>cases v<;>first|rfl|cases h
 |_=>rfl
theorem Pj(h:part P a d N=some e):
  (∃n,tI P a=some (true,n)/\N+n<=(lvs d).length/\e.enc= .agg (((lvs d).drop N).take n)\/tI P a=some (false,n)/\(lvs d)[N]? =some e.enc)/\ ∀H,lok H d->e.ok H:=by
 unfold part at h;split at h;rename_i t r l;obtain⟨rfl,j⟩:=Nb l;split at h;rename_i n i;split at h;rename_i b c g;obtain⟨rfl,k⟩:=Nb g;injection h with h;subst h;refine⟨⟨n,.inl ⟨i,?_,?_⟩⟩,λH f=>?_⟩;simp only[Gg,Ag];omega;simp only[TV.enc,Gg,AV.agg.injEq];rw[<-j,RG,<-k,Zo];exact(IZ.1 (IZ.1 f).2).1;cases h;rename_i n i;split at h;rename_i x r;split at h;rename_i m;injection h with h;subst h;refine⟨⟨n,.inr ⟨i,?_⟩⟩,λH f=>JR ((IZ.1 f).2 x (by simp))⟩;rw[Gg,HM,LK m,Cr (by omega)];simp[j,TV.enc];cases h;cases h;cases h;cases h
def eA(h:part P a d N=some e)
  (hr: ∀n,N+n<=(lvs d).length->Og p v n=some (((lvs d).drop N).take n)):bj P a p v=some e.enc:=by
 obtain⟨⟨n,c|c⟩,_⟩:=Pj h;obtain⟨i,g,t⟩:=c;simp only[bj,i,hr n g,Be,t];obtain⟨i,t⟩:=c;have k:N<(lvs d).length:=by rcases Ap N (lvs d).length with f|f;exact f;rw[Cs f]at t;cases t
 simp only[bj,i,hr 1 (by omega),AI];rw[List.head?_take,List.head?_drop,t];rfl
theorem j9(h:UG b N=some d): ∃ro,b[N]? =some (.live ro d):=by grind[UG]
theorem FA(H:Am)(id:Nat):(A6 H)[id]? =(H[id]?).map Dl.enc:=CL
theorem mE(h:UG b N=some d):(A6 b)[N]? =some (.live 0 (lvs d)):=by obtain⟨ro,H⟩:=j9 h;rw[FA,H];rfl
def zB(H: ∀e∈b,e.ok b)(h:UG b N=some d):lok b d:=by obtain⟨ro,c⟩:=j9 h;exact H _ (BJ c)
def rf{l:List t.D}(h:cV b N n t=some l): ∃ro a,b[N]? =some (.buf ro t l a n):=by unfold cV at h;split at h;rename_i ro i j a d e;split at h;rename_i g;have c:=DN g;subst c;split at h;rename_i f;have H:=f;have:=Ty.beq_eq i t H;subst this;injection h with h;refine⟨ro,a,?_⟩;rw[e,<-h];rfl;cases h;cases h;cases h
def gI{l:List t.D}(d: ∀e∈b,e.ok b)(hr:S1 b N U t n)(h:cV b N U t=some l):(A6 b)[N]? =some (.live n (t.E.cl l))/\l.length=n:=by obtain⟨ro,f,H⟩:=rf h;obtain⟨_,c⟩:=hr.2 _ _ _ _ _ H;obtain⟨_,rfl⟩:=c rfl;have:f=l.length:=d _ (BJ H);refine⟨?_,this.symm⟩;rw[FA,H];rfl
def rV{a:Qu (n+1) t.D}(h:vu d N n t=some a): ∃c b,d=c++(.ar n t a::b)/\(lvs c).length=N:=by unfold vu at h;split at h;rename_i c l m k b i;split at h;rename_i j;have:=Ty.beq_eq _ _ j;injection this with e f;subst e f;injection h with h;obtain⟨e,f⟩:=Nb i;refine⟨c,b,?_,f⟩;rw[e,<-h];rfl;cases h;cases h
theorem YN(n:Nat)(t:Ty)(a:Qu (n+1) t.D):(Ba.ar n t a).enc=Zv (n+1) t.E a:=rfl
section
variable {P:Program} {R:Type} {H:Am} {k:TV->Option R} {r:R}
theorem Tn(h:yA C k=some r): ∃v,C=some v/\k v=some r:=by unfold yA at h;grind
theorem ba(v:AV):(vc v).enc=v:=by cases v<;>rfl
theorem dg(v:AV):(vc v).ok H:=by cases v<;>exact JR trivial
theorem dX{o:Option AV}(h:okA o k=some r): ∃v,o=some v/\k (vc v)=some r:=by unfold okA at h;grind
theorem dv{o:Option R}(h:cond E none o=some r):E=false/\o=some r:=by grind
theorem kA(C: ∀t∈H,t.ok H)(D:e.ok H)(h:loadT P H a e k=some r): ∃u,bj P a (A6 H) e.enc=some u.enc/\k u=some r/\u.ok H:=by
 unfold loadT at h;split at h;rename_i id g;split at h;rename_i B q;obtain⟨u,f,o⟩:=Tn h;refine⟨u,eA f λn c=>?_,o,(Pj f).2 H (zB C q)⟩;grind[TV.enc,Ba.one,Og,mE];cases h;rename_i B d;obtain⟨u,f,o⟩:=Tn h;refine⟨u,eA f λn c=>?_,o,(Pj f).2 H D⟩;simp only[TV.enc,Og];grind;rename_i id p n b i g;split at h;rename_i B q;split at h;rename_i v G;obtain⟨t,z,h⟩:=Dq.1 h;obtain⟨u,f,o⟩:=Tn h;obtain⟨j,d,rfl,s⟩:=rV G;refine⟨u,eA f λm c=>?_,o,(Pj f).2 H (b.lvs_ok t)⟩;rw[b.lvs_enc,b.enc_len]at c;obtain⟨w,x⟩:=vq b.E (lvs j) (lvs d) z c;have F:lvs (j++(.ar n b v::d))=lvs j++Zv (n+1) b.E v++lvs d:=by rw[Gg,HM,YN,Ax]
 simp only[TV.enc,Og,mE q,F];have y:p+i.toNat*b.sz+g=(lvs j).length+i.toNat*b.E.sz+g:=by rw[s];rfl
 rw[y,if_pos ⟨trivial,w⟩,x,b.lvs_enc];rfl;cases h;cases h;rename_i id A b n i g;split at h;rename_i l q;obtain⟨t,z,h⟩:=Dq.1 h;obtain⟨u,f,o⟩:=Tn h;obtain⟨y,_⟩:=gI C (D (.own id A b n) (by simp[TV.refs])) q;refine⟨u,eA f λm c=>?_,o,(Pj f).2 H (b.lvs_ok t)⟩;rw[b.lvs_enc,b.enc_len]at c;obtain⟨w,x⟩:=AAb b.E z c;simp only[TV.enc,Og,y];rw[if_pos ⟨trivial,w⟩];show some (List.take m (List.drop (i.toNat*b.E.sz+g) (b.E.cl l)))=_;rw[x,b.lvs_enc];rfl;cases h;cases h
theorem rX{b:Int}(h:fT V s B b=some v):V≠ .shl/\V≠ .shr:=by constructor<;>rintro rfl<;>cases h
theorem rY(h:AAc P V a e T k=some r): ∃u,pj P V a e.enc T.enc=some u.enc/\k u=some r/\u.ok H:=by
 unfold AAc at h;split at h;rename_i n t o b;simp only[TV.enc,Ba.one,pj];split at h;obtain⟨c,h⟩:=dv h;have d: ¬b<0:=by simpa using c
 refine⟨_,?_,h,JR trivial⟩;grind[dc,TV.enc,Ba.one];obtain⟨c,h⟩:=dv h;have d: ¬b<0:=by simpa using c
 refine⟨_,?_,h,JR trivial⟩;grind[dc,TV.enc,Ba.one];split at h;rename_i i;obtain⟨c,h⟩:=dv h;have d: ¬b=0:=by simpa using c
 refine⟨_,?_,h,JR trivial⟩;grind[fT,TV.enc,Ba.one];cases h;split at h;rename_i i;obtain⟨c,h⟩:=dv h;have d: ¬b=0:=by simpa using c
 refine⟨_,?_,h,JR trivial⟩;grind[fT,TV.enc,Ba.one];cases h;grind[dX,dg,ba,rX];rename_i t b;simp only[TV.enc,Ba.one,pj];split at h;split at h;rename_i i;exact⟨_,by simp only[if_pos i,TV.enc,Ba.one],h,JR trivial⟩;cases h;split at h;rename_i i;exact⟨_,by simp only[if_pos i,TV.enc,Ba.one],h,JR trivial⟩;cases h;cases h;rename_i t b;simp only[TV.enc,Ba.one,pj];split at h;obtain⟨s,j,h⟩:=Dq.1 h;exact⟨_,by simp only[oO,TV.enc,Ba.one];exact AAx j,h,JR trivial⟩;grind[dX,ba,dg];rename_i l bs;split at h;rename_i m f;split at h;rename_i g;simp only[TV.enc,pj,f,if_pos g];split at h;exact⟨_,by simp only[TV.enc,Ba.one,eqT],h,JR trivial⟩;exact⟨_,by simp only[TV.enc,Ba.one,eqT],h,JR trivial⟩;cases h;cases h;cases h;cases h
def vU{a:UnOp}(h:unT a e k=some r): ∃u,unV a e.enc=some u.enc/\k u=some r/\u.ok H:=by unfold unT at h;split at h;obtain⟨e,b,h⟩:=dX h;exact⟨_,by rw[ba];exact b,h,dg e⟩;cases h
def ABe(l:List Int):(Ty.int .u8).E.cl l=l.map (oZ .u8).f:=by
 unfold SX.cl;induction l with
 |nil=>rfl
 |cons n l a=>simp only[BZ,I0,a];rfl
def ue:UL P p G a (.int s B)=UL P [] G a (.int s B):=by unfold UL;cases kd P a<;>rfl
def uf{s:List UInt8}:UL P p G a (.str s)=UL P [] G a (.str s):=by unfold UL;cases kd P a<;>rfl
def pp(g: ∀d∈H,d.ok H)(c:e.ok H)(h:wJ P H G a e k=some r): ∃u,UL P (A6 H) G a e.enc=some u.enc/\k u=some r/\u.ok H:=by
 unfold wJ at h;split at h;rename_i l;split at h;rename_i b;exact⟨_,xC l b.1 b.2,h,JR trivial⟩;cases h;rename_i id f n;split at h;rename_i b;split at h;rename_i l j;obtain⟨i,hn⟩:=gI g (c (.own id f (.int .u8) n) (by simp[TV.refs])) j;refine⟨_,?_,h,JR trivial⟩;simp only[TV.enc,Ba.one,UL,b.1,b.2,if_true,rowsOf,i];rw[if_pos ⟨trivial,rfl,by rw[(Ty.int .u8).E.clen,hn];show 0+n<=n*1;omega⟩];have:((Ty.int .u8).E.cl l).length=n:=by rw[(Ty.int .u8).E.clen,hn];exact Nat.mul_one n
 rw[iN,<-this,List.take_length,ABe];exact congrArg (Option.map AV.str) (pS l);cases h;cases h;obtain⟨e,c,h⟩:=dX h;exact⟨_,by rw[ba];exact ue.trans c,h,dg e⟩;obtain⟨e,c,h⟩:=dX h;exact⟨_,by rw[ba];exact uf.trans c,h,dg e⟩;cases h
end
section
variable {P:Program} {R:Type} {H:Am} {k:TV->Option R} {r:R}
theorem cy(h:UG H N=some d):Q8 (A6 H) N 0=true:=by simp[Q8,mE h]
def oX{l:List t.D}(b: ∀e∈H,e.ok H)(hr:S1 H N U t n)(h:cV H N U t=some l):Q8 (A6 H) N n=true:=by simp[Q8,(gI b hr h).1]
theorem iq(x: ∀s∈H,s.ok H)(g:e.ok H)(h:fZ P H N n e k=some r): ∃u,TH P (A6 H) N n e.enc=some u.enc/\k u=some r/\u.ok H:=by
 unfold fZ at h;split at h;rename_i B t f z;split at h;cases h;rename_i hn;have d:f≠0:=λs=>by simp_all
 unfold TH;simp only[z,if_neg d];split at h;rename_i id o;split at h;rename_i p c;exact⟨_,by simp only[TV.enc,Ba.one,shift,cy c,if_true],h,JR trivial⟩;cases h;rename_i p q;split at h;rename_i a b A;obtain⟨rfl,y⟩:=Nb A;refine⟨_,?_,h,(IZ.1 g).2⟩;simp only[TV.enc,shift];rw[if_pos (by simp only[Ag,Gg];omega),Gg,Ax,<-y,RG];cases h;rename_i id m f w i o;split at h;rename_i p c;refine⟨_,?_,h,λ_ h=>by cases h⟩;grind[TV.enc,shift,cy];cases h;rename_i id j w f i o;split at h;rename_i l c;refine⟨_,?_,h,g⟩;simp only[TV.enc,shift,oX x (g (.own id j w f) (by simp[TV.refs])) c,if_true,Zq];cases h;cases h;cases h
theorem pG(h:part P a d N=some e)(c: ∀t,N+t<=(lvs d).length->n+t<=i.length/\(i.drop n).take t=((lvs d).drop N).take t):mP P a i n=some e.enc:=by grind[Pj,mP,List.head?_take,List.head?_drop]
theorem oe(d:e.ok H)(h:sC P N n e k=some r): ∃u,lS P N n e.enc=some u.enc/\k u=some r/\u.ok H:=by unfold sC at h;split at h;rename_i s t f g a;obtain⟨u,c,b⟩:=Tn h;refine⟨u,?_,b,(Pj c).2 H d⟩;simp only[lS,a,TV.enc];grind[pG];cases h
theorem kz{a:Qu n R}{x:R}(h:Kt a B=some x):0<=B/\B<n:=by obtain⟨c,j,rfl,_⟩:=iE h;grind
theorem jI(s: ∀t∈H,t.ok H)(C:e.ok H)(h:ff P H a e T k=some r): ∃u,TL P (A6 H) a e.enc T.enc=some u.enc/\k u=some r/\u.ok H:=by
 unfold ff at h;split at h;rename_i L T;simp only[TV.enc,Ba.one,TL];split at h;rename_i len z sz p;simp only[p];split at h;rename_i id D;split at h;rename_i G m;split at h;rename_i F n b v g K;split at h;rename_i d;obtain⟨rfl,rfl⟩:=d;obtain⟨t,c,h⟩:=Dq.1 h;refine⟨_,?_,h,λ_ h=>by cases h⟩;rw[if_pos (kz c)];simp only[TV.enc,Ba.one,shift,cy m,if_true,Qy];cases h;cases h;cases h;rename_i n b v M g;split at h;rename_i d;obtain⟨rfl,rfl⟩:=d;obtain⟨t,c,h⟩:=Dq.1 h;refine⟨_,?_,h,b.lvs_ok t⟩;rw[if_pos (kz c)];obtain⟨_,o,q,_⟩:=vw b.E c [] [];simp only[CD,Dn,Bt,D6]at o q;have B:T.toNat*b.sz+b.sz<=(Zv (n+1) b.E v).length:=o;simp only[TV.enc,shift,HM,YN];rw[if_pos (by grind)];rw[b.lvs_enc,Ax,nF (by omega)];have y:(Zv (n+1) b.E v).drop (T.toNat*b.sz)=(b.enc t).cells++(Zv (n+1) b.E v).drop (T.toNat*b.sz+b.sz):=by rw[<-PZ];have I:((Zv (n+1) b.E v).drop (T.toNat*b.sz)).take b.sz=(b.enc t).cells:=q;grind[List.take_append_drop]
 rw[y,Ax];rfl;cases h;cases h;rename_i z sz p;simp only[p];split at h;rename_i b l;split at h;rename_i d;subst d;obtain⟨t,c,h⟩:=Dq.1 h;obtain⟨q1,q2⟩:=ACc (f:=b.enc) c;refine⟨_,?_,h,b.lvs_ok t⟩;simp only[TV.enc,Ba.one];rw[if_pos ⟨q1,trivial⟩,q2,b.lvs_enc,Dn];rfl;cases h;rename_i id j b n;split at h;rename_i l m;split at h;rename_i d;subst d;obtain⟨t,c,h⟩:=Dq.1 h;have hr:=C (.own id j b n) (by simp[TV.refs]);obtain⟨J,hn⟩:=gI s hr m;refine⟨.bptr id j b n T 0,?_,h,λx w=>by simp only[TV.refs,A3]at w;subst w;exact hr⟩;obtain⟨_,_,_,_,A,o,_,_⟩:=lM b.E c;simp only[TV.enc,Ba.one];rw[if_pos ⟨A,by omega,trivial,oX s hr m⟩,D6,Qy];cases h;cases h;cases h;cases h;cases h
theorem gQ{e:TypeId}{sz:Nat}{cs:List Ba}{i:Int}(b:lok H cs): ∀{m j:Nat},oQ P e sz cs i k m j=some r-> ∃u,(0<=i/\i<((j+m:Nat):Int))/\mP P e (lvs cs) (i.toNat*sz)=some u.enc/\k u=some r/\u.ok H
 |m+1,j,h=>by
  simp only[oQ]at h;cases a:decide (i=Int.ofNat j)with
  |true=>
   rw[a]at h;have f:i=(j:Int):=by grind
   obtain⟨u,d,c⟩:=Tn h;refine⟨u,⟨by omega,by omega⟩,?_,c,(Pj d).2 H b⟩;grind[pG]
  |false=>rw[a]at h;obtain⟨u,q1,q2⟩:=gQ b (m:=m) (j:=j+1) h;grind
theorem ov(A:e.ok H)(h:sH P a e T k=some r): ∃u,dV P a e.enc T.enc=some u.enc/\k u=some r/\u.ok H:=by
 unfold sH at h;split at h;rename_i B T;split at h;rename_i n c v;split at h;rename_i len x sz o;split at h;rename_i z;obtain⟨rfl,rfl⟩:=z;obtain⟨t,p,h⟩:=Dq.1 h;obtain⟨u,q,f⟩:=Tn h;refine⟨u,?_,f,(Pj q).2 H (c.lvs_ok t)⟩;simp only[TV.enc,Ba.one,dV,o];rw[if_pos (kz p)];refine pG q λm d=>?_;rw[c.lvs_enc,c.enc_len,D6]at d;obtain⟨j,l⟩:=vq c.E (off:=0) [] [] p (m:=m) (by rw[D6];exact d);simp at j l;have w:lvs [Ba.ar n c v]=Zv (n+1) c.E v:=by grind[YN,lvs]
 rw[w,c.lvs_enc,iN];exact⟨j,l⟩;cases h;cases h;rename_i g _;split at h;rename_i len x sz o;split at h;obtain⟨u,q1,q2,q3⟩:=gQ (cs:=g) (H:=H) A h;grind[TV.enc,Ba.one,dV];cases h;cases h;rename_i s;split at h;rename_i f;obtain⟨b,y,h⟩:=Dq.1 h;exact⟨_,by simp only[TV.enc];exact ABs y f,h,JR trivial⟩;cases h;cases h;cases h
theorem gH{d:Nat}(h:uY d C=some B)(a:0<=B):UR d (C.map TV.enc)=some B.toNat:=by unfold uY at h;grind[UR,TV.enc,Ba.one,mK]
theorem pN{i m:Option TV}(h:tB P a e C i m k=some r): ∃u,dd P (A6 H) a e.enc (C.map TV.enc) (i.map TV.enc) (m.map TV.enc)=some u.enc/\k u=some r/\u.ok H:=by unfold tB at h;split at h;cases h;split at h;rename_i s;split at h;rename_i l w g b;split at h;rename_i y;obtain⟨x,c,h⟩:=Dq.1 h;refine⟨_,?_,h,JR trivial⟩;unfold Rp at c;split at c;rename_i v;simp only[TV.enc,Ba.one,dd,gH (d:=0) g v.1,gH b (Int.le_trans v.1 v.2.1)];grind;cases c;cases h;cases h;rename_i z f;split at h;rename_i l w A sz g b q;split at h;rename_i y;obtain⟨x,c,h⟩:=Dq.1 h;refine⟨_,?_,h,JR trivial⟩;unfold Zb at c;split at c;rename_i v;have t:(f.map z.enc).length=f.length:=Dc _;have n:=gH (d:=0) g v.1;have o:=gH b (Int.le_trans v.1 v.2.1);have p:UR f.length none=some f.length:=rfl;simp only[TV.enc,Ba.one,dd,t,n,o,p,q];grind[List.map_take,List.map_drop];cases c;cases h;cases h;cases h
def sK(d: ∀t∈H,t.ok H)(g:e.ok H)(h:AAs P H a e k=some r): ∃u,mD P (A6 H) a e.enc=some u.enc/\k u=some r/\u.ok H:=by unfold AAs at h;split at h;rename_i s v;exact⟨_,by simp only[mD,v,TV.enc,Ba.one],h,JR trivial⟩;rename_i n t v;exact⟨_,by simp only[mD,v,TV.enc,Ba.one],h,JR trivial⟩;rename_i b l t v;exact⟨_,by simp only[mD,v,TV.enc,Ba.one,Dc],h,JR trivial⟩;rename_i t id c b n v;split at h;rename_i l f;refine⟨_,?_,h,JR trivial⟩;simp only[mD,v,TV.enc,Ba.one];cases h;rename_i t v;exact⟨_,by simp only[mD,v,TV.enc,Ba.one],h,JR trivial⟩;cases h
end
def Vy(h:e.words=some d):e.enc.solid=true/\e.enc.cells=lvs d/\ ∀H,e.ok H->lok H d:=by unfold TV.words at h;split at h;rename_i x;split at h;rename_i a;simp at a;injection h with h;subst h;refine⟨a.2,?_,λH b=>b⟩;rw[HM,LK a.1];exact Ba.scalar_cells a.1;cases h;injection h with h;subst h;exact⟨rfl,rfl,λH b=>b⟩;cases h
theorem eD{f c:List Ba}{e n:Nat}(h:vN d e f n=some c)(hn:(lvs f).length=n):lvs c=Tr (lvs d) e (lvs f)/\e+n<=(lvs d).length/\ ∀H,lok H d->lok H f->lok H c:=by unfold vN at h;split at h;rename_i a r i;obtain⟨rfl,l⟩:=Nb i;split at h;rename_i m b g;obtain⟨rfl,o⟩:=Nb g;refine⟨?_,by simp only[Gg,Ag];omega,λH j k=>?_⟩;grind[Tr,Gg];grind[IZ];cases h;cases h
mutual
theorem Ty.zlvs_ok{H:Am}: ∀t:Ty,lok H t.zlvs
 | .bool=>λy a=>by simp only[Ty.zlvs,A3]at a;subst a;trivial
 | .int _=>λy a=>by simp only[Ty.zlvs,A3]at a;subst a;trivial
 | .str=>λy a=>by simp only[Ty.zlvs,A3]at a;subst a;trivial
 | .list _=>λy a=>by simp only[Ty.zlvs,A3]at a;subst a;trivial
 | .arr n t=>λy a=>by simp only[Ty.zlvs,A3]at a;subst a;trivial
 | .prod b=>by simp only[Ty.zlvs];exact b.zlvs_ok
theorem QH.zlvs_ok{H:Am}: ∀a:QH,lok H a.zlvs
 | .one t=>by simp only[QH.zlvs];exact t.zlvs_ok
 | .cons t a=>by simp only[QH.zlvs];exact IZ.2 ⟨t.zlvs_ok,a.zlvs_ok⟩
end
def uw(v:AV):(na v).enc=[v]:=by cases v<;>rfl
theorem wl(v:AV):(na v).ok b:=by cases v<;>trivial
theorem jK: ∀z:List AV,lvs (z.map na)=z
 |[]=>rfl
 |v::r=>by rw[BZ,HM,jK r,uw];rfl
theorem uI(z:List AV):lok b (z.map na):=λx a=>by grind[wl]
theorem V1(h:mi P a=some d):Vz P a=some (lvs d)/\ ∀H,lok H d:=by unfold mi at h;split at h;rename_i z b;split at h;rename_i e t;split at h;rename_i c;injection h with h;subst h;exact⟨by rw[b,Zw _ _ c],λH=>e.zlvs_ok⟩;grind[jK,uI];grind[jK,uI];cases h
theorem lT{p:W2}: ∀{a:List (Nat×TV)} {c b:List Ba},qF p c a=some b->ju p (lvs c) (a.map λq=>(q.1,q.2.enc))=some (lvs b)/\ ∀H,lok H c->(∀q∈a,q.2.ok H)->lok H b
 |[],c,b,h=>by simp only[qF,Ai]at h;subst h;exact⟨rfl,λH h _=>h⟩
 |(i,v)::r,c,b,h=>by simp only[qF]at h;split at h;rename_i m size z t l;split at h;rename_i k;have e:=DN k;split at h;rename_i s d;obtain⟨x,y,o⟩:=Vy l;obtain⟨u,w,n⟩:=eD d (by rw[Zh,e]);obtain⟨q1,q2⟩:=lT h;refine⟨?_,λH g f=>q2 H (n H g (o H (f (i,v) (by simp)))) λq j=>f q (by simp[j])⟩;grind[ju,Zh];cases h;cases h;cases h
section
variable {P:Program} {R:Type} {env:BS} {H:Am} {k:TV->Option R} {r:R}
theorem pk{v:List (Nat×TV)}(h:rj P a v=some e):lH P a (v.map λq=>(q.1,q.2.enc))=some e.enc/\((∀q∈v,q.2.ok H)->e.ok H):=by unfold rj at h;split at h;rename_i z p t j;obtain⟨k,f⟩:=V1 t;rw[Zt]at h;obtain⟨g,c,rfl⟩:=h;obtain⟨i,b⟩:=lT c;refine⟨?_,λd=>b H (f H) d⟩;grind[lH,TV.enc];cases h
def jT: ∀{l:List TV} {m:List AV},mT l=some m->m=l.map TV.enc
 |[],m,h=>by simp only[mT,Ai]at h;subst h;rfl
 | .c x::r,m,h=>by simp only[mT]at h;split at h;rename_i b _ a;injection h with h;subst h;rw[BZ,<-jT a];rfl;cases h
 | .g _::_,m,h=>by simp[mT]at h
 | .aptr .. ::_,m,h=>by simp[mT]at h
 | .bptr .. ::_,m,h=>by simp[mT]at h
 | .vptr .. ::_,m,h=>by simp[mT]at h
 | .tup _::_,m,h=>by simp[mT]at h
def nl(h:mmT E e T k=some r): ∃u,mmV E [e.enc,T.enc]=some u.enc/\k u=some r/\u.ok H:=by unfold mmT at h;split at h;exact⟨_,by simp only[TV.enc,Ba.one,mmV],h,JR trivial⟩;cases h
def sR{z:TV}(h:AAt e T z k=some r): ∃u,mm3 e.enc T.enc z.enc=some u.enc/\k u=some r/\u.ok H:=by unfold AAt at h;split at h;exact⟨_,by simp only[TV.enc,Ba.one,mm3],h,JR trivial⟩;cases h
theorem ny{F:Op}(ok:O0 env H)(h:zT P env H F k=some r): ∃v,CQ P (Br env) (A6 H) F=some v.enc/\k v=some r/\v.ok H:=by
 have j: ∀x,(Ir env x).ok H:=aV ok.env;have g:=KG env;unfold zT at h;split at h;grind[CQ];grind[CQ];rename_i c a b;split at h;rename_i t K;have w:BA (Br env) c= .bool t:=by rw[g,K];rfl
 grind[CQ,Bool.false_eq_true];cases h;obtain⟨u,d,e⟩:=kA ok.heap (j _) h;grind[CQ];rename_i x;split at h;grind[BA,Br,CQ,cy,TV.enc,Ba.one,JR];grind[BA,Br,CQ,TV.enc,Ba.one,JR];grind[BA,Br,lvs,CQ,TV.enc];grind[BA,Br,CQ,cy,TV.enc];rename_i id D G n i B s;split at h;rename_i l A;have w:BA (Br env) x= .ptr id n (i.toNat*G.sz+B):=by rw[g,s];rfl
 have:=j x;rw[s]at this;exact⟨_,by simp only[CQ,w,oX ok.heap (this (.own id D G n) (by simp[TV.refs])) A,if_true,TV.enc],h,this⟩;cases h;cases h;simp_all[rY,CQ];obtain⟨u,d,e⟩:=vU (H:=H) h;exact⟨u,by simp only[CQ,g,d],e⟩;obtain⟨u,d,e⟩:=pp ok.heap (j _) h;exact⟨u,by simp only[CQ,g,d],e⟩;obtain⟨u,d,e⟩:=iq ok.heap (j _) h;exact⟨u,by simp only[CQ,g,d],e⟩;obtain⟨u,d,e⟩:=oe (j _) h;exact⟨u,by simp only[CQ,g,d],e⟩;obtain⟨u,d,e⟩:=jI ok.heap (j _) h;exact⟨u,by simp only[CQ,g,d],e⟩;obtain⟨u,d,e⟩:=ov (H:=H) (j _) h;exact⟨u,by simp only[CQ,g,d],e⟩;rename_i t x Q O R;obtain⟨u,d,e⟩:=pN (H:=H) h;have q: ∀o:Option Operand,o.map (BA (Br env))=(o.map (Ir env)).map TV.enc:=by
  intro o;cases o with
  |none=>rfl
  |some y=>simp only[Be,g]
 exact⟨u,by simp only[CQ,g,q,d],e⟩;rename_i x i;split at h;rename_i N s;split at h;rename_i v z;have w:BA (Br env) x= .tup (N.map TV.enc):=by rw[g,s];simp only[TV.enc,lQ]
 have E:=j x;rw[s]at E;exact⟨v,by simp only[CQ,w,CL,z,Be],h,jQ E (BJ z)⟩;cases h;cases h;rename_i f a b;split at h;rename_i l m A L;refine⟨_,?_,h,JR trivial⟩;have q: ∀o:List Operand,o.map (BA (Br env))=(o.map (Ir env)).map TV.enc:=by intro o;rw[Ni];exact Lu λy _=>g y
 simp only[CQ,q,<-jT A,<-jT L,TV.enc,Ba.one];cases h;rename_i t C;obtain⟨v,z,h⟩:=Tn h;obtain⟨I,J⟩:=pk (H:=H) z;refine⟨v,?_,h,J λq M=>?_⟩;simp only[CQ];rw[<-I,Ni];congr 1;exact Lu λp _=>by simp only[Function.comp,g]
 obtain⟨p,_,rfl⟩:=Bl.1 M;exact j _;obtain⟨u,d,e⟩:=sK ok.heap (j _) h;exact⟨u,by simp only[CQ,g,d],e⟩;obtain⟨u,d,e⟩:=nl (H:=H) h;exact⟨u,by simp only[CQ,g,d],e⟩;obtain⟨u,d,e⟩:=nl (H:=H) h;exact⟨u,by simp only[CQ,g,d],e⟩;obtain⟨u,d,e⟩:=sR (H:=H) h;exact⟨u,by simp only[CQ,g,d],e⟩;cases h
end
def Conv(x y:Cx)(v v':AV):Prop:= ∀c,Bf x v c->Bf y v' c
def Rn(x y:Cx)(H H2:As):Prop:=
 H2.length=H.length/\ ∀(j:Nat) (e':EU),H2[j]? =some e'->e'= .dead\/
  (∃g cs cs',H[j]? =some (.live g cs)/\e'= .live g cs'/\cs'.length=cs.length/\ ∀(i:Nat) (v':AV),cs'[i]? =some v'-> ∃v,cs[i]? =some v/\Conv x y v v')\/
  (H[j]? =some e'/\ ∀g cs,e'≠ .live g cs)
theorem Rn.refl(x:Cx)(H:As):Rn x x H H:=by
 refine⟨rfl,λj a d=>?_⟩;cases a with
 |live g c=>exact .inr (.inl ⟨g,c,c,d,rfl,rfl,λi v b=>⟨v,b,λ_ r=>r⟩⟩)
 |_=>grind
theorem Rn.own{H d:As}{h:Gh}(hr:Rn x y H d): ∀B,owned h d B->owned h H B:=by rintro B ⟨j,f,i,c,a⟩;rcases hr.2 j f i with b|⟨g,k,e,b,_⟩|⟨b,_⟩;grind;exact⟨j,_,b,by simp,a⟩;exact⟨j,_,b,c,a⟩
def Rn.later{h:Gh}{H a:As}{w:World}{x y:Cx}(hr:Rn x y H a):(cx X h H w).Later (cx X h a w):={size:=Ak _,keep:=λ_ _ _ _=>rfl,own:=λB _ b=>b.imp _root_.id (hr.own B),n:=by simp[cx,hr.1],gen:=λ_ _=>Ak _,same:=λ_ _ _=>⟨rfl,rfl⟩}
theorem Iq.rel{X:Nat->Prop}(s:Iq X h p w)(hr:Rn (cx X h p w) (cx X h k w) p k):Iq X h k w:=by
 have y:=hr.own (h:=h);have M:(cx X h p w).Later (cx X h k w):=hr.later;have back: ∀{j:Nat} {e:EU},k[j]? =some e->e≠ .dead-> ∃N,p[j]? =some N/\N≠ .dead:=by intro j e l ad;rcases hr.2 j e l with a|⟨g,z,C,a,_⟩|⟨a,_⟩;grind;grind;grind
 refine⟨λB n=>⟨(s.out B n).1,λho=>(s.out B n).2 (y B ho)⟩,λj Q C l=>?_,λj L l=>?_,λi j e e' B a c J K O D=>?_,s.bldKeep λj e l n=>?_⟩;rcases hr.2 j _ l with a|⟨g,z,o,a,c,O,D⟩|⟨_,a⟩;cases a;injection c with R S;subst R S;obtain⟨I,W⟩:=s.live j Q z a;refine⟨I,?_⟩;rcases W with⟨H,h0⟩|⟨B,A,T,P,f,H,V,q,Z,G,b⟩;refine .inl ⟨H,?_⟩;grind;refine .inr ⟨B,A,T,P,f,H,V,q,by omega,G,λi v' Y=>?_⟩;obtain⟨v,hv,U⟩:=D i v' Y;obtain⟨p1,p2,p3⟩:=b i v hv;exact⟨p1,p2,U _ p3⟩;grind;rcases hr.2 j _ l with a|⟨g,z,o,_,c,_⟩|⟨a,_⟩;cases a;cases c;obtain⟨I,B,r,q1,q2,q3,q4,q5,q6,q7,q8,q9⟩:=s.lp j L a;exact⟨I,B,r,q1,q2,q3,q4,q5,q6,q7,q8,λt v m=>⟨(q9 t v m).1,(q9 t v m).2.later M⟩⟩;obtain⟨d,E,F⟩:=back a J;obtain⟨d',u,x⟩:=back c K;exact s.inj i j _ _ B E u F x O D;refine⟨?_,rfl,rfl,rfl,λ_ _ _ _ _=>rfl⟩;rcases hr.2 j _ l with a|⟨g,z,o,_,c,_⟩|⟨a,_⟩;subst a;cases n;subst c;cases n;exact a
theorem Rn.onto(hr:Rn (cx X h p w) (cx X h p w) p k):Rn (cx X h p w) (cx X h k w) p k:=by have e:(cx X h p w).Later (cx X h k w):=hr.later;refine⟨hr.1,λj H a=>?_⟩;rcases hr.2 j H a with d|⟨g,f,b,d,l,m,n⟩|d;grind;refine .inr (.inl ⟨g,f,b,d,l,m,λi q o=>?_⟩);obtain⟨v,q1,q2⟩:=n i q o;exact⟨v,q1,λc r=>(q2 c r).later e⟩;grind
def TW{env2:Env}(f:k.length=p.length)(hr: ∀X h w,Iq X h p w→Rn (cx X h p w) (cx X h k w) p k∧ ∀t c,(t,c)∈env2→ ∃v,(t,v)∈u∧Conv (cx X h p w) (cx X h k w) v c):
  F3 N p.length u p env2 k:=by
 refine⟨by omega,λX h a w s=>?_⟩;obtain⟨q1,q2⟩:=hr X h w s.sim;refine⟨h,⟨s.sim.rel q1,λt c m=>?_,s.size⟩,λ_ _=>⟨rfl,rfl,rfl⟩,q1.own⟩;obtain⟨v,d,e⟩:=q2 t c m;exact⟨(s.env t v d).1,e _ (s.env t v d).2⟩
def Rn.ext{X:Nat->Prop}{c:Gh}{H a b:As}{d:World}(hr:Rn x y H b)(e:HT c a d h H w):HT c a d h b w where
 os:=e.os
 tape:=e.tape
 output:=e.output
 size:=e.size
 keep:=e.keep
 n:=by rw[hr.1];exact e.n
 gen:=e.gen
 same:=e.same
 fresh B hB:=e.fresh B (hr.own B hB)
 loops:=e.loops
def Ip.after{N:Nat}{H:As}{v f:AV}{H1 b:As}(h:Ip P N o u H (DW v H1))
  (hr: ∀X h w,Iq X h H1 w->Rn (cx X h H1 w) (cx X h b w) H1 b/\Conv (cx X h H1 w) (cx X h b w) v f):Ip P N o u H (DW f b):=by
 intro r X g a w s Q;apply TQ (h r X g a w s Q);rintro n l ⟨c,p,d,m,i,⟨rfl,rfl⟩,j,e,k⟩;obtain⟨q1,q2⟩:=hr X d l e;exact⟨c,_,d,_,i,⟨rfl,rfl⟩,q2 _ j,e.rel q1,Rn.ext (X:=X) q1 k⟩
def Ip.before{N:Nat}{env2:Env}{H H2:As}{K:AV->As->Prop}(b:F3 N H.length u H env2 H2)(h:Ip P N o env2 H2 K):Ip P N o u H K:=by intro r X g a w s Q;obtain⟨f,q,j,l⟩:=b.2 X g a w s;apply TQ (h r X f a w q Q);rintro t x ⟨c,v,e,d,i,k,n,m,p⟩;exact⟨c,v,e,d,i,k,n,m,(F3.ext rfl b.1 j l (HT.refl g H w)).trans p⟩
def Es.before{args args2:List AV}{H H2:As}{K:AV→As→Prop}(hn:args2.length=args.length)
  (hr: ∀X h w,Iq X h H w->Rn (cx X h H w) (cx X h H2 w) H H2/\ ∀(j:Nat) (b:AV),args2[j]? =some b-> ∃v,args[j]? =some v/\Conv (cx X h H w) (cx X h H2 w) v b)
  (h:Es P S args2 H2 K):Es P S args H K:=by
 intro X g w a s n k;obtain⟨q1,q2⟩:=hr X g w s;refine(h X g w a (s.rel q1) (by omega) λj b c m l=>?_).mono ?_;obtain⟨v,o,d⟩:=q2 j b m;exact d _ (k j v c o l);rintro e t ⟨c,v,i,f,rfl,q,r,p,x⟩;exact⟨c,v,i,f,rfl,q,r,p,(Rn.ext (X:=X) q1 (HT.refl g H w)).trans x⟩
def UQ(v v':AV):Prop:= ∀(x:Cx) (c:Value),Bf x v c->Bf x v' c
def UQ.refl(v:AV):UQ v v:=λ_ _ h=>h
def UQ.nil{sz:Nat}(h:0<sz):UQ .nils (.vs sz []):=λ_ _ r=>r.nil_vs h
def DQ(cs cs':List AV):Prop:=cs'.length=cs.length/\ ∀(i:Nat) (v':AV),cs'[i]? =some v'-> ∃v,cs[i]? =some v/\UQ v v'
theorem DQ.refl(a:List AV):DQ a a:=⟨rfl,λ_ v h=>⟨v,h,.refl v⟩⟩
theorem DQ.append{b f:List AV}(c:DQ i Q)(g:DQ b f):DQ (i++b) (Q++f):=by refine⟨by simp[c.1,g.1],λa j h=>?_⟩;rcases Ap a Q.length with d|d;rw[B6 d]at h;obtain⟨v,q1,q2⟩:=c.2 a j h;grind;rw[Cr d]at h;obtain⟨v,q1,q2⟩:=g.2 _ j h;exact⟨v,by rw[Cr (by rw[<-c.1];exact d),<-c.1];exact q1,q2⟩
theorem DQ.one{b:AV}(h:UQ v b):DQ [v] [b]:=⟨rfl,λi u a=>by
 match i,a with
 |0,a=>grind
 |i+1,a=>simp at a⟩
def DQ.agg{b a:List AV}(h:DQ b a):UQ (.agg b) (.agg a):=by
 intro x c r;cases r with
 |agg i e hr=>refine .agg (by rw[i,h.1]) e λj k d g f=>?_;obtain⟨v,q1,q2⟩:=h.2 j k g;exact q2 _ _ (hr j v d q1 f)
mutual
def Ty.mk:(t:Ty)->List Ba->Option (t.D×List Ba)
 | .bool,.bl b::r=>some (b,r)
 | .int k,.it k' n::r=>if k=k' then some (n,r)else none
 | .str,.st s::r=>some (s,r)
 | .list t,.ls t' l::r=>if h:(Ty.list t').beq (Ty.list t)=true then some (Ty.cast h l,r)else none
 | .list _,.nil::r=>some ([],r)
 | .arr n t,.ar n' t' a::r=>if h:(Ty.arr n' t').beq (Ty.arr n t)=true then some (Ty.cast h a,r)else none
 | .prod ts,ls=>ts.mk ls
 |_,_=>none
def QH.mk:(ts:QH)->List Ba->Option (ts.D×List Ba)
 | .one t,ls=>t.mk ls
 | .cons t ts,ls=>
  match t.mk ls with
  |some (x,r)=>match ts.mk r with|some (y,r')=>some ((x,y),r')|none=>none
  |none=>none
end
mutual
theorem Ty.mk_spec: ∀(t:Ty) (b:List Ba) (x:t.D) (r:List Ba),t.mk b=some (x,r)-> ∃a,b=a++r/\DQ (lvs a) (t.enc x).cells
 | .bool,b,x,r,h=>by
  cases b with
  |nil=>simp[Ty.mk]at h
  |cons y b=>
   cases y<;>simp only[Ty.mk]at h<;>try (cases h;done)
   simp only[Ai,EV]at h;obtain⟨rfl,rfl⟩:=h;exact⟨[_],rfl,DQ.refl _⟩
 | .int k,b,x,r,h=>by
  cases b with
  |nil=>simp[Ty.mk]at h
  |cons y b=>
   cases y<;>simp only[Ty.mk]at h<;>try (cases h;done)
   split at h;rename_i f;subst f;simp only[Ai,EV]at h;obtain⟨rfl,rfl⟩:=h;exact⟨[_],rfl,DQ.refl _⟩;cases h
 | .str,b,x,r,h=>by
  cases b with
  |nil=>simp[Ty.mk]at h
  |cons y b=>
   cases y<;>simp only[Ty.mk]at h<;>try (cases h;done)
   simp only[Ai,EV]at h;obtain⟨rfl,rfl⟩:=h;exact⟨[_],rfl,DQ.refl _⟩
 | .list t,b,x,r,h=>by
  cases b with
  |nil=>simp[Ty.mk]at h
  |cons y b=>
   cases y<;>simp only[Ty.mk]at h<;>try (cases h;done)
   split at h;rename_i c;simp only[Ai,EV]at h;obtain⟨rfl,rfl⟩:=h;refine⟨[_],rfl,?_⟩;have d:((Ty.list t).enc (Ty.cast c ‹_›))=_:=Y5 c _;rw[d];exact DQ.refl _;cases h;simp only[Ai,EV]at h;obtain⟨rfl,rfl⟩:=h;exact⟨[_],rfl,DQ.one (UQ.nil t.sz_pos)⟩
 | .arr n t,b,x,r,h=>by
  cases b with
  |nil=>simp[Ty.mk]at h
  |cons y b=>
   cases y<;>simp only[Ty.mk]at h<;>try (cases h;done)
   split at h;rename_i c;simp only[Ai,EV]at h;obtain⟨rfl,rfl⟩:=h;refine⟨[_],rfl,?_⟩;have d:((Ty.arr n t).enc (Ty.cast c ‹_›))=_:=Y5 c _;rw[d];have e: ∀y:Ba,lvs [y]=y.enc:=λy=>by rw[HM];simp[lvs]
   rw[e];exact DQ.refl _;cases h
 | .prod ts,b,x,r,h=>ts.mk_spec b x r (by simpa only[Ty.mk]using h)
theorem QH.mk_spec: ∀(d:QH) (c:List Ba) (x:d.D) (r:List Ba),d.mk c=some (x,r)-> ∃a,c=a++r/\DQ (lvs a) (d.cells x)
 | .one t,c,x,r,h=>t.mk_spec c x r (by simpa only[QH.mk]using h)
 | .cons t d,c,x,r,h=>by simp only[QH.mk]at h;split at h;rename_i y e f;split at h;rename_i z k g;simp only[Ai,EV]at h;obtain⟨rfl,rfl⟩:=h;obtain⟨a,rfl,i⟩:=t.mk_spec c y e f;obtain⟨b,rfl,j⟩:=d.mk_spec e z k g;exact⟨a++b,by rw[Ax],by rw[Gg];exact i.append j⟩;cases h;cases h
end
def Ty.isAgg:Ty->Bool
 | .arr .. =>true
 | .prod _=>true
 |_=>false
def Ty.all(t:Ty)(ls:List Ba):Option t.D:=
 match t.mk ls with
 |some (x,[])=>some x
 |_=>none
theorem FZ{x:t.D}(h:t.all d=some x):DQ (Go.Ab.lvs d) (t.enc x).cells:=by unfold Ty.all at h;split at h;rename_i y c;obtain⟨a,rfl,b⟩:=t.mk_spec d y [] c;grind;cases h
def Ty.data(t:Ty)(v:TV):Option t.D:=
 match v with
 | .c x=>match t.isAgg|| !x.scalar with|true=>none|false=>t.all [x]
 | .g cs=>match t.isAgg with|true=>t.all cs|false=>none
 |_=>none
def Ty.scalar_cells(h:t.isAgg=false)(x:t.D):(t.enc x).cells=[t.enc x]:=by cases t<;>first|rfl|cases h
def Ty.agg_enc(h:t.isAgg=true)(x:t.D):t.enc x= .agg (t.enc x).cells:=by cases t<;>first|rfl|cases h
def LM{v:TV}{x:t.D}(h:t.data v=some x):UQ v.enc (t.enc x):=by unfold Ty.data at h;split at h;rename_i y;split at h;cases h;rename_i a;simp at a;have:=FZ h;rw[t.scalar_cells a.1,HM,LK a.2]at this;obtain⟨u,b,c⟩:=this.2 0 _ rfl;simp at b;subst b;exact c;rename_i d;split at h;rename_i a;have:=(FZ h).agg;rw[<-t.agg_enc a]at this;exact this;cases h;cases h
def Ty.tv(t:Ty)(x:t.D):TV:=
 match t,x with
 | .bool,b=>.c (.bl b)
 | .int k,n=>.c (.it k n)
 | .str,s=>.c (.st s)
 | .list t,l=>.c (.ls t l)
 | .arr n t,a=>.g [.ar n t a]
 | .prod ts,x=>.g (ts.lvs x)
def Ty.tv_enc(t:Ty)(x:t.D):(t.tv x).enc=t.enc x:=by
 cases t with
 |arr n t=>
  have a: ∀y:Ba,Go.Ab.lvs [y]=y.enc:=λy=>by rw[HM];simp[Go.Ab.lvs]
  simp only[Ty.tv,TV.enc,a];rfl
 |prod b=>simp only[Ty.tv,TV.enc,b.lvs_cells];rfl
 |_=>rfl
def Ty.tv_ok(t:Ty)(x:t.D):(t.tv x).ok b:=by
 cases t with
 |prod a=>exact a.lvs_ok x
 |_=>exact JR trivial
def Dl.ro:Dl->Bool
 | .dead=>false
 | .live b _=>b
 | .buf b _ _ _ _=>b
 | .lp b _ _ _ _ _ _ _=>b
 | .mp b _ _ _=>b
def Dl.isLp:Dl->Bool
 | .lp .. =>true
 |_=>false
def vY(H H':Am):Prop:= ∀(id:Nat),id<H.length-> ∀ro F n env ps a b s,H'[id]? =some (.lp ro F n env ps a b s)-> ∃ro0 s0,H[id]? =some (.lp ro0 F n env ps a b s0)
def vY.refl(H:Am):vY H H:=λ_ _ _ _ _ _ _ _ _ _ h=>⟨_,_,h⟩
def Dl.lock:Dl->Dl
 | .dead=>.dead
 | .live _ cs=>.live true cs
 | .buf _ t l n ver=>.buf true t l n ver
 | .lp _ F n env ps a b s=>.lp true F n env ps a b s
 | .mp _ k t es=>.mp true k t es
theorem mF(e:Dl):e.lock.enc=e.enc:=by cases e<;>rfl
structure B4(H H':Am):Prop where
 len:H.length<=H'.length
 refs: ∀id ver t n,S1 H id ver t n->S1 H' id ver t n
 ro: ∀(id:Nat) (e:Dl),H[id]? =some e->e.ro=true->H'[id]? =some e
 nb: ∀id,id<H.length->(∀t l n ver,H[id]? ≠some (.buf false t l n ver))-> ∀t l n ver,H'[id]? ≠some (.buf false t l n ver)
 lp:vY H H'
theorem B4.refl(H:Am):B4 H H:=⟨Ak _,λ_ _ _ _ h=>h,λ_ _ h _=>h,λ_ _ h=>h,.refl H⟩
def B4.trans{a b c:Am}(h:B4 a b)(k:B4 b c):B4 a c:=⟨Dp h.len k.len,λid d t n q=>k.refs id d t n (h.refs id d t n q),λid e q r=>k.ro id e (h.ro id e q r) r,λid q r=>k.nb id (DB q h.len) (h.nb id q r),λid q _ _ _ _ _ _ _ _ r=>by obtain⟨g,i,f⟩:=k.lp id (DB q h.len) _ _ _ _ _ _ _ _ r;exact h.lp id q _ _ _ _ _ _ _ _ f⟩
def B4.leaf(h:B4 I b)(k:z.ok I):z.ok b:=by
 cases z with
 |own id a t n=>exact h.refs id a t n k
 |_=>trivial
def B4.lok(h:B4 b I)(k:lok b d):lok I d:=λx c=>h.leaf (k x c)
def B4.tv(h:B4 b I)(k:e.ok b):e.ok I:=h.lok k
def B4.ent(h:B4 b I)(k:D.ok b):D.ok I:=by
 cases D with
 |live H d=>exact h.lok k
 |buf H t l n c=>exact k
 |dead=>trivial
 |lp=>exact k
 |mp=>exact k
def B4.env{H a:Am}(h:B4 H a){env:BS}(k: ∀p∈env,p.2.ok H): ∀p∈env,p.2.ok a:=λp b=>h.tv (k p b)
theorem B4.push(H:Am)(e:Dl):B4 H (H++[e]):=by refine⟨by simp,λid g t n h=>⟨by have:=h.1;simp;omega,λro f l d a b=>?_⟩,λid i b hr=>?_,λid c h=>by grind,λid c _ _ _ _ _ _ _ _ h=>by grind⟩;rw[B6 h.1]at b;exact h.2 ro f l d a b;grind
def B4.set{H:Am}{id:Nat}{r:Dl}(o:H[id]? =some D)(hr:D.ro=false)
  (y: ∀ro t l n k,r= .buf ro t l n k-> ∃d v p f,D= .buf d t v p f/\(f<k\/(f=k/\p=n)))
  (B: ∀ro F n env z a b s,r= .lp ro F n env z a b s-> ∃d w,D= .lp d F n env z a b w:=by intro _ _ _ _ _ _ _ _ h;cases h):B4 H (H.set id r):=by
 have m:id<H.length:=by rcases Ap id H.length with u|u;exact u;rw[Cs u]at o;cases o
 refine⟨by simp,λj k t n h=>⟨by simpa using h.1,λro I l G A g=>?_⟩,λj E g x=>?_,λj g h t l n k i=>?_,λj g _ _ _ _ _ _ _ _ i=>?_⟩;by_cases c:j=id;subst c;rw[G8 m]at g;injection g with g;obtain⟨d,v,p,f,q1,q2⟩:=y _ _ _ _ _ g;subst q1;obtain⟨C,e⟩:=h.2 _ _ _ _ _ o;rcases q2 with q2|⟨rfl,rfl⟩;exact⟨by omega,λD=>by omega⟩;exact⟨C,e⟩;rw[D3 (λD=>c D.symm)]at g;exact h.2 _ _ _ _ _ g;have c:j≠id:=by rintro rfl;rw[o]at g;injection g with g;subst g;rw[hr]at x;cases x
 rw[D3 (λD=>c D.symm)];exact g;by_cases c:j=id;subst c;rw[G8 m]at i;injection i with i;obtain⟨d,v,p,f,q1,_⟩:=y _ _ _ _ _ i;subst q1;have:d=false:=hr;subst this;exact h _ _ _ _ o;rw[D3 (λD=>c D.symm)]at i;exact h _ _ _ _ i;by_cases c:j=id;subst c;rw[G8 m]at i;injection i with i;obtain⟨d,w,q⟩:=B _ _ _ _ _ _ _ _ i;exact⟨d,w,by rw[o,q]⟩;rw[D3 (λD=>c D.symm)]at i;exact⟨_,_,i⟩
theorem OS{H:Am}(h: ∀x∈H,x.ok H)(b:D.ok (H++[D])): ∀x∈H++[D],x.ok (H++[D]):=by intro x a;rcases Ar.1 a with a|a;exact(B4.push H D).ent (h x a);grind
def SO{H:Am}{id:Nat}(d:B4 H (H.set id D))(h: ∀x∈H,x.ok H)(c:D.ok (H.set id D)): ∀x∈H.set id D,x.ok (H.set id D):=by intro x b;rcases Nl b with b|rfl;exact d.ent (h x b);exact c
def Frame(F:List Nat)(H H':Am):Prop:= ∀j,j<H.length->j∉F->H'[j]? =H[j]?
def Frame.refl(F:List Nat)(H:Am):Frame F H H:=λ_ _ _=>rfl
def Frame.push(F:List Nat)(H:Am)(e:Dl):Frame F H (H++[e]):=λ_ a _=>B6 a
theorem Frame.set{F:List Nat}{H:Am}{id:Nat}(h:id∈F):Frame F H (H.set id D):=λj _ hn=>D3 λq:id=j=>hn (by grind)
def yy:TV->List Nat
 | .c (.raw a)=>jH a
 | .c (.own id _ _ _)=>[id]
 | .aptr id .. =>[id]
 | .bptr id .. =>[id]
 |_=>[]
theorem yz(v:TV):jH v.enc=yy v:=by
 cases v with
 |c x=>
  cases x with
  |_=>rfl
 |_=>rfl
def Pd(H:Am)(e:Dl):A6 (H++[e])=A6 H++[e.enc]:=by simp[A6]
theorem Mv(H:Am)(id:Nat)(e:Dl):A6 (H.set id e)=(A6 H).set id e.enc:=by simp[A6]
theorem CR(H:Am):(A6 H).length=H.length:=Dc _
section
variable {R:Type}
def storeT(P:Program)(H:Am)(t:TypeId)(p v:TV)(k:TV->Am->Option R):Option R:=
 match v.words,tI P t with
 |some ws,some (_,n)=>
  match Nat.beq (xu ws) n with
  |false=>none
  |true=>
   match p with
   | .c (.raw (.ptr id 0 off))=>
    match H[id]? with
    |some (.live false cs)=>match vN cs off ws n with|some cs'=>k Sf (H.set id (.live false cs'))|none=>none
    |_=>none
   | .aptr id base m te i off=>
    match H[id]? with
    |some (.live false cs)=>
     match UH cs base with
     |some (pre,.ar m' te' a::post)=>
      if h:(Ty.arr m' te').beq (Ty.arr m te)=true then
       (Kt (n:=m+1) (Ty.cast h a) i).bind λe=>
        match vN (te.lvs e) off ws n with
        |some ls=>match te.all ls with|some e'=>k Sf (H.set id (.live false (pre++(.ar m te (fR (n:=m+1) (Ty.cast h a) i e')::post))))|none=>none
        |none=>none
      else none
     |_=>none
    |_=>none
   | .bptr id ver te _ i off=>
    match H[id]? with
    |some (.buf false te' l n' ver')=>
     match Nat.beq ver ver' with
     |true=>
      if h:(Ty.list te').beq (Ty.list te)=true then
       (ix (α:=te.D) (Ty.cast h l) i).bind λe=>
        match vN (te.lvs e) off ws n with
        |some ls=>match te.all ls with|some e'=>k Sf (H.set id (.buf false te (BR (α:=te.D) (Ty.cast h l) i e') n' ver'))|none=>none
        |none=>none
      else none
     |false=>none
    |_=>none
   |_=>none
 |_,_=>none
theorem rA{b d:List AV}(h:N+d.length<=Q.length):Tr (i++Q++b) (i.length+N) d=i++Tr Q N d++b:=by
 unfold Tr;have e:(i++Q++b).take (i.length+N)=i++Q.take N:=by rw[Ax,fG,Cb (by omega),VD,fH (by omega)]
 have f:(i++Q++b).drop (i.length+N+d.length)=Q.drop (N+d.length)++b:=by grind[List.drop_drop,List.drop_left]
 grind
theorem Rn.set_less{H m n:As}{f cs':List AV}(k:N<H.length)(s:m=H.set N (.live U f))(t:n=H.set N (.live U cs'))(o:DQ f cs')(d:x.Later y):Rn x y m n:=by
 subst s t;refine⟨by simp,λj p a=>?_⟩;by_cases b:j=N;subst b;rw[G8 k]at a;injection a with a;subst a;refine .inr (.inl ⟨U,f,cs',by grind,rfl,o.1,λi l h=>?_⟩);obtain⟨v,q1,q2⟩:=o.2 i l h;exact⟨v,q1,λc r=>q2 _ _ (r.later d)⟩;rw[D3 (λe=>b e.symm)]at a;cases p with
 |live q c0=>exact .inr (.inl ⟨q,c0,c0,by grind,rfl,rfl,λi l h=>⟨l,h,λc r=>r.later d⟩⟩)
 |_=>grind
theorem bL(l:k.length=p.length)(i: ∀(j:Nat) (e:EU),k[j]? =some e->e≠ .dead-> ∃a,p[j]? =some a/\a≠ .dead):(cx X h p w).Later (cx X h k w):={size:=Ak _,keep:=λ_ _ _ _=>rfl,gen:=λ_ _=>Ak _,same:=λ_ _ _=>⟨rfl,rfl⟩,n:=by simp[cx,l],own:=λB _ m=>m.imp _root_.id (λ⟨j,e,H,d,c⟩=>by obtain⟨a,f,g⟩:=i j e H d;exact⟨j,a,f,g,c⟩)}
theorem Ip.set_less{N:Nat}{b cs':List AV}(d:n<p.length)(h:Ip P N o u p (DW v (p.set n (.live U b))))(f:DQ b cs'):Ip P N o u p (DW v (p.set n (.live U cs'))):=by
 refine Ip.after h λX e w _=>?_;have a:(cx X e (p.set n (.live U b)) w).Later (cx X e (p.set n (.live U cs')) w):=by grind[bL]
 exact⟨Rn.set_less d rfl rfl f a,λc r=>r.later a⟩
theorem Gu{l:List R}{x:R}(h:l[N]? =some x):N<l.length:=by grind
variable {P:Program} {N:Nat} {o:Oper} {env:BS} {H:Am} {k:TV->Am->Option R} {r:R}
def iC(P:Program)(N:Nat)(o:Oper)(env:BS)(H:Am)(F:List Nat)(k:TV->Am->Option R)(r:R):Prop:=
 ∃v H',Ip P N o (Br env) (A6 H) (DW v.enc (A6 H'))/\k v H'=some r/\v.ok H'/\(∀e∈H',e.ok H')/\B4 H H'/\Frame F H H'
theorem pO(ok:O0 env H)(ho:o.op= .store a c L)(h:storeT P H a (Ir env c) (Ir env L) k=some r):iC P N o env H (yy (Ir env c)) k r:=by
 have W:=KG env;have a2:(Ir env L).ok H:=aV ok.env L;have ap:(Ir env c).ok H:=aV ok.env c;unfold storeT at h;split at h;rename_i ws b n hw ht;obtain⟨w1,Z,w3⟩:=Vy hw;split at h;cases h;rename_i hn;have f:(lvs ws).length=n:=by grind[Zh,Nat.eq_of_beq_eq_true]
 have S:tI P a=some (b,(Ir env L).enc.cells.length):=by grind
 split at h;rename_i id d G;split at h;rename_i cs u;split at h;rename_i M hs;obtain⟨s1,s2,s3⟩:=eD hs f;have C:(A6 H)[id]? =some (.live 0 (lvs cs)):=by rw[FA,u];rfl
 have j:B4 H (H.set id (.live false M)):=B4.set u rfl λ_ _ _ _ _ h=>by cases h
 refine⟨Sf,_,Ip.store ho (id:=id) (g:=0) (off:=d) (v:=(Ir env L).enc) (by rw[W,G];rfl) (W L) w1 C S (by rw[Z,f];exact s2) ⟨rfl,?_⟩,h,bZ,SO j ok.heap (j.lok (s3 H (ok.heap _ (BJ u)) (w3 H a2))),j,Frame.set (by rw[G];exact A3.2 rfl)⟩;rw[Mv,Z,<-s1];rfl;cases h;cases h;rename_i id A m te i d G;split at h;rename_i cs u;split at h;rename_i w X y x p hs;split at h;rename_i hb;have U:=Ty.beq_eq _ _ hb;injection U with hm T;subst hm T;obtain⟨e,hg,h⟩:=Dq.1 h;split at h;rename_i ls R;split at h;rename_i O B;obtain⟨ad,J⟩:=Nb hs;obtain⟨s1,s2,_⟩:=eD R f;have s:=FZ B;have q:(Ty.cast hb x:Qu (X+1) y.D)=x:=rfl;rw[q]at hg h;obtain⟨h0,I,rfl,rfl⟩:=iE hg;obtain⟨t,c2,q1,q2,q3⟩:=lF y.E x I;have C:(A6 H)[id]? =some (.live 0 (lvs w++t++(y.enc (x I)).cells++(c2++lvs p))):=by rw[FA,u,ad];show some (EU.live 0 (lvs (w++(.ar X y x::p))))=_;rw[Gg,HM,YN,q1];simp only[Ax];rfl
 have j:B4 H (H.set id (.live false (w++(.ar X y (fR (n:=X+1) x (I.val:Int) O)::p)))):=B4.set u rfl λ_ _ _ _ _ h=>by cases h
 have al:lok H cs:=ok.heap _ (BJ u);rw[ad]at al;obtain⟨o1,o2⟩:=IZ.1 al;refine⟨Sf,_,?_,h,bZ,SO j ok.heap (j.lok (IZ.2 ⟨o1,λz hz=>?_⟩)),j,Frame.set (by rw[G];exact A3.2 rfl)⟩;have F:d+(lvs ws).length<=(y.enc (x I)).cells.length:=by rw[f,<-y.lvs_enc];exact s2
 have st:=Ip.store (P:=P) (N:=N) (K:=DW .any ((A6 H).set id (.live 0 (Tr (lvs w++t++(y.enc (x I)).cells++(c2++lvs p)) (A+(I.val:Int).toNat*y.sz+d) (Ir env L).enc.cells)))) ho (id:=id) (g:=0)
  (off:=A+(I.val:Int).toNat*y.sz+d) (v:=(Ir env L).enc) (by rw[W,G];rfl) (W L) w1 C S (by rw[Z,f];simp only[Ag,q2,J];have:y.E.sz=y.sz:=rfl;rw[f]at F;simp only[DD,this];omega) ⟨rfl,rfl⟩
 have ea:A+(I.val:Int).toNat*y.sz+d=(lvs w++t).length+d:=by rw[Ag,J,q2,DD];rfl
 rw[Z,ea,rA F]at st;have Q:=Ip.set_less (cs':=lvs (w++(.ar X y (fR (n:=X+1) x (I.val:Int) O)::p))) (by rw[CR];exact Gu u) st (by rw[Gg,HM,YN,q3 O];simp only[Ax];refine(DQ.refl _).append ((DQ.refl _).append (DQ.append ?_ (DQ.refl _)));rw[<-y.lvs_enc,<-s1];exact s);rw[Mv];exact Q;rcases An.1 hz with rfl|hz;trivial;exact o2 z (by simp[hz]);cases h;cases h;cases h;cases h;cases h;rename_i id V te nn i d G;split at h;rename_i y l Y a3 u;split at h;rename_i hv;have a1:=DN hv;subst a1;split at h;rename_i hb;have U:=Ty.beq_eq _ _ hb;injection U with T;subst T;obtain⟨e,hg,h⟩:=Dq.1 h;split at h;rename_i ls R;split at h;rename_i O B;obtain⟨s1,s2,_⟩:=eD R f;have s:=FZ B;have q:(Ty.cast hb l:List y.D)=l:=rfl;rw[q]at hg h;obtain⟨t,c2,q1,q2,q3,q4,_,q5⟩:=lM y.E hg;have hr:S1 H id V y nn:=by rw[G]at ap;exact ap (.own id V y nn) (by simp[TV.refs])
 obtain⟨_,a0⟩:=hr.2 _ _ _ _ _ u;obtain⟨_,rfl⟩:=a0 rfl;have ax:Y=l.length:=ok.heap _ (BJ u);have C:(A6 H)[id]? =some (.live Y (t++(y.enc e).cells++c2)):=by rw[FA,u];show some (EU.live Y (y.E.cl l))=_;rw[q1];rfl
 have j:B4 H (H.set id (.buf false y (BR l i O) Y V)):=B4.set u rfl λ_ _ _ _ _ h=>by cases h;exact⟨_,_,_,_,rfl,.inr ⟨rfl,rfl⟩⟩
 refine⟨Sf,_,?_,h,bZ,SO j ok.heap ((PU ax.symm).symm),j,Frame.set (by rw[G];exact A3.2 rfl)⟩;have F:d+(lvs ws).length<=(y.enc e).cells.length:=by rw[f,<-y.lvs_enc];exact s2
 have st:=Ip.store (P:=P) (N:=N) (K:=DW .any ((A6 H).set id (.live Y (Tr (t++(y.enc e).cells++c2) (i.toNat*y.sz+d) (Ir env L).enc.cells)))) ho (id:=id) (g:=Y)
  (off:=i.toNat*y.sz+d) (v:=(Ir env L).enc) (by rw[W,G];rfl) (W L) w1 C S (by rw[Z,f];simp only[Ag,q2];have:y.E.sz=y.sz:=rfl;rw[f]at F;rw[this];omega) ⟨rfl,rfl⟩
 have ea:i.toNat*y.sz+d=t.length+d:=by rw[q2];rfl
 rw[Z,ea,rA F]at st;have Q:=Ip.set_less (cs':=y.E.cl (BR l i O)) (by rw[CR];exact Gu u) st (by unfold BR;rw[q5 O];refine DQ.append (DQ.append (DQ.refl _) ?_) (DQ.refl _);rw[<-y.lvs_enc,<-s1];exact s);rw[Mv];exact Q;cases h;cases h;cases h;cases h;cases h;cases h;cases h
end
section
variable {R:Type}
def rU(P:Program)(H:Am)(t:TypeId)(k:TV->Am->Option R):Option R:=
 match mi P t with
 |some z=>k (.c (.raw (.ptr H.length 0 0))) (H++[.live false z])
 |none=>none
def yP(H:Am)(v:TV)(k:TV->Am->Option R):Option R:=
 match v.words with
 |some ws=>k (.c (.raw (.ptr H.length 0 0))) (H++[.live false ws])
 |none=>none
def eY(t:Ty):List TV->Option (List t.D)
 |[]=>some []
 |v::r=>match t.data v,eY t r with|some x,some xs=>some (x::xs)|_,_=>none
def ym(P:Program)(t:TypeId):Option Ty:=
 match eI P t with
 |some (none,e,sz)=>
  match tG P 1000 e with
  |some te=>if sz=te.sz/\QG P e=true then some te else none
  |none=>none
 |_=>none
def bR(len:Nat)(te:Ty)(parts:Array (Nat×Operand))(vs:List TV):Bool:=
 decide (parts.toList.map (·.1)=List.range len)&&(vs.all λv=>match v.words with|some ws=>Nat.beq (xu ws) te.sz|none=>false)&&Nat.ble len 4096&&Nat.ble te.sz 4096
def Wb(P:Program)(env:BS)(H:Am)(t:TypeId)(len:Nat)(parts:Array (Nat×Operand))(k:TV->Am->Option R):Option R:=
 match ym P t with
 |some te=>
  match bR len te parts (parts.toList.map λp=>Ir env p.2)with
  |true=>match eY te (parts.toList.map λp=>Ir env p.2)with|some xs=>k (.c (.own H.length 0 te xs.length)) (H++[.buf false te xs xs.length 0])|none=>none
  |false=>none
 |none=>none
def jg(P:Program)(env:BS)(t:TypeId)(len:Nat)(parts:Array (Nat×Operand))(k:TV->Option R):Option R:=
 match ym P t with
 |some te=>
  match bR len te parts (parts.toList.map λp=>Ir env p.2)with
  |true=>match eY te (parts.toList.map λp=>Ir env p.2)with|some xs=>k (.c (.ls te xs))|none=>none
  |false=>none
 |none=>none
def bM(P:Program)(H:Am)(t:TypeId)(x y:TV)(k:TV->Am->Option R):Option R:=
 match eI P t,x,y with
 |some (none,e,_),.c (.it _ l),.c (.it _ c)=>
  match ym P t,mi P e with
  |some te,some z=>match te.all z with|some zd=>(mk zd l c).bind λr=>k (.c (.own H.length 0 te r.length)) (H++[.buf false te r r.length 0])|none=>none
  |_,_=>none
 |_,_,_=>none
def mf(P:Program)(H:Am)(src dst:TypeId)(x:TV)(k:TV->Am->Option R):Option R:=
 match P.underlying src,P.underlying dst,x with
 |some _,some (.slice e),.c (.st s)=>
  match P.underlying e with
  |some (.int .u8)=>k (.c (.own H.length 0 (.int .u8) (Qt s).length)) (H++[.buf false (.int .u8) (Qt s) (Qt s).length 0])
  |_=>none
 |_,_,_=>none
def xV(H:Am)(te:Ty)(v:TV):Option (List te.D):=
 match v with
 | .c (.ls te' l)=>if h:(Ty.list te').beq (Ty.list te)=true then some (Ty.cast h l)else none
 | .c (.own id ver te' _)=>if h:(Ty.list te').beq (Ty.list te)=true then(match cV H id ver te' with|some l=>some (Ty.cast (t:=.list te') (t':=.list te) h l)|none=>none)else none
 | .c .nil=>some []
 |_=>none
def kT(P:Program)(H:Am)(t:TypeId)(s x:TV)(k:TV->Am->Option R):Option R:=
 match ym P t with
 |some te=>
  match xV H te x with
  |some xs=>
   match s with
   | .c .nil=>(app [] xs).bind λr=>k (.c (.own H.length 0 te r.length)) (H++[.buf false te r r.length 0])
   | .c (.own id ver te' _)=>
    match H[id]? with
    |some (.buf false t2 l _ ver')=>
     match Nat.beq ver ver' with
     |true=>
      if h:(Ty.list t2).beq (Ty.list te)=true/\(Ty.list te').beq (Ty.list te)=true then
       (app (α:=te.D) (Ty.cast h.1 l) xs).bind λr=>k (.c (.own id (ver+1) te r.length)) (H.set id (.buf false te r r.length (ver+1)))
      else none
     |false=>none
    |_=>none
   |_=>none
  |none=>none
 |none=>none
variable {P:Program} {N:Nat} {o:Oper} {env:BS} {H:Am} {k:TV->Am->Option R} {r:R}
theorem mL{H:Am}{l:List t.D}:(TV.c (.own H.length N t l.length)).ok (H++[.buf E t l l.length N]):=by refine JR ⟨by simp,λd h f g b e=>?_⟩;grind
def kY(H:Am)(b:Ty)(n a:Nat):(TV.c (.own H.length a b n)).enc= .sl (A6 H).length n b.sz 0 n:=by rw[CR];rfl
def oN(ok:O0 env H)(b:o.op= .alloc a)(h:rU P H a k=some r):iC P N o env H [] k r:=by
 unfold rU at h;split at h;rename_i z d;obtain⟨e,f⟩:=V1 d;refine⟨_,_,?_,h,JR trivial,OS ok.heap (f _),B4.push _ _,Frame.push _ _ _⟩;have t:(TV.c (.raw (.ptr H.length 0 0))).enc= .ptr (A6 H).length 0 0:=by rw[CR];rfl
 rw[t,Pd];exact Ip.alloc b e ⟨rfl,rfl⟩;cases h
def re(ok:O0 env H)(b:o.op= .box a c)(h:yP H (Ir env c) k=some r):iC P N o env H [] k r:=by
 unfold yP at h;split at h;rename_i i d;obtain⟨e,f,g⟩:=Vy d;refine⟨_,_,?_,h,JR trivial,OS ok.heap ((B4.push _ _).lok (g H (aV ok.env c))),B4.push _ _,Frame.push _ _ _⟩;have t:(TV.c (.raw (.ptr H.length 0 0))).enc= .ptr (A6 H).length 0 0:=by rw[CR];rfl
 rw[t,Pd];exact Ip.box b (KG env c) e ⟨rfl,by rw[f];rfl⟩;cases h
def fY{t:Ty}: ∀{b:List TV} {a:List t.D},eY t b=some a->DQ (b.map TV.enc) (a.map t.enc)
 |[],a,h=>by simp only[eY,Ai]at h;subst h;exact DQ.refl _
 |v::r,a,h=>by simp only[eY]at h;split at h;rename_i x e c d;injection h with h;subst h;have:=fY d;exact(DQ.one (LM c)).append this;cases h
def cz{t:Ty}: ∀{e:List TV} {b:List t.D},eY t e=some b->DQ ((e.map TV.enc).flatMap AV.cells) (t.E.cl b)
 |[],b,h=>by simp only[eY,Ai]at h;subst h;exact DQ.refl _
 |v::r,b,h=>by simp only[eY]at h;split at h;rename_i x k a g;injection h with h;subst h;have i:=cz g;refine DQ.append ?_ i;unfold Ty.data at a;split at a;rename_i y;split at a;cases a;rename_i d;simp at d;have c:=FZ a;rw[HM,LK d.2,<-Ba.scalar_cells d.2]at c;have f:lvs ([]:List Ba)=[]:=rfl;rw[f,Dn]at c;exact c;rename_i j;split at a;exact FZ a;cases a;cases a;cases h
theorem c7(h:ym P a=some t): ∃e,eI P a=some (none,e,t.sz)/\QG P e=true:=by grind[ym]
theorem mQ(h:ym P a=some t)(c:bR N t F (F.toList.map λp=>Ir env p.2)=true):
  Qo P (Br env) a N F=some (t.sz,(F.toList.map λp=>Ir env p.2).map TV.enc):=by
 obtain⟨e,k,l⟩:=c7 h;unfold bR at c;simp only[BO,decide_eq_true_eq]at c;obtain⟨⟨⟨f,g⟩,i⟩,j⟩:=c;have d:(F.toList.map λp=>BA (Br env) p.2)=(F.toList.map λp=>Ir env p.2).map TV.enc:=by grind[List.map_congr_left,KG]
 unfold Qo;simp only[k,d];refine if_pos ⟨t.sz_pos,l,f,?_,Nn i,Nn j⟩;rw[Fx];intro v n;obtain⟨u,m,rfl⟩:=Bl.1 n;have:=Fx.1 g u m;split at this<;>simp_all[Vy,Zh]
theorem ui{b:List t.D}(h:eY t m=some b):b.length=m.length:=by have:=(fY h).1;grind
theorem Rn.push_less{H:As}(n:DQ i Q)(d:x.Later y):Rn x y (H++[.live N i]) (H++[.live N Q]):=by
 refine⟨by simp,λj o e=>?_⟩;rcases Ap j H.length with b|b;rw[B6 b]at e;cases o with
 |live p c0=>exact .inr (.inl ⟨p,c0,c0,by grind,rfl,rfl,λg m h=>⟨m,h,λc r=>r.later d⟩⟩)
 |_=>grind
 have k:=Gu e;simp at k;have l:j=H.length:=by omega
 subst l;simp at e;subst e;refine .inr (.inl ⟨N,i,Q,by simp,rfl,n.1,λg m h=>?_⟩);obtain⟨v,q1,q2⟩:=n.2 g m h;exact⟨v,q1,λc r=>q2 _ _ (r.later d)⟩
theorem Ip.push_less(h:Ip P N o u p (DW v (p++[.live n i])))(E:DQ i Q):Ip P N o u p (DW v (p++[.live n Q])):=by
 refine Ip.after h λX f w _=>?_;have b:(cx X f (p++[.live n i]) w).Later (cx X f (p++[.live n Q]) w):=by refine bL (by simp) λj e l k=>?_;grind
 exact⟨Rn.push_less E b,λc r=>r.later b⟩
def gJ(ok:O0 env H)(f:o.op= .buildSlice a n F)(h:Wb P env H a n F k=some r):iC P N o env H [] k r:=by unfold Wb at h;split at h;rename_i i d;split at h;rename_i g;split at h;rename_i j c;have e:=mQ d g;have b:=ui c;refine⟨_,_,?_,h,mL,OS ok.heap rfl,B4.push _ _,Frame.push _ _ _⟩;rw[kY,Pd];have:=RT (N:=N) (H:=A6 H) (K:=DW _ _) f e ⟨rfl,rfl⟩;rw[Dc,<-b]at this;exact Ip.push_less this (cz c);cases h;cases h;cases h
theorem zo{a:Ty}{vs:List AV}{l:List a.D}(h:DQ vs (l.map a.enc))(I:DQ (vs.flatMap AV.cells) (a.E.cl l))(z: ∀v∈vs,v.cells.length=a.sz):UQ (.vs a.sz vs) (.vs a.sz (l.map a.enc)):=by
 intro x c L;cases L with
 |vs f t o w C p=>
  have hn:(l.map a.enc).length=vs.length:=h.1;rw[<-hn];have key: ∀(j:Nat) (e:AV) (i:Nat) (v:AV),(l.map a.enc)[j]? =some e->e.cells[i]? =some v-> ∃b k,vs[j]? =some b/\b.cells[i]? =some k/\UQ k v:=by
   intro j e i v d m;obtain⟨b,q1,_⟩:=h.2 j e d;have g: ∀u∈l.map a.enc,u.cells.length=a.sz:=λu J=>by obtain⟨y,_,rfl⟩:=Bl.1 J;exact a.enc_len y
   have A:=gZ g j e i v d m;obtain⟨k,r,s⟩:=I.2 _ v A;have H:i<a.sz:=by grind
   have F:=z b (BJ q1);have G:b.cells[i]? =some (b.cells[i]'(by omega)):=Az (by omega);have M:=gZ z j b i _ q1 G;grind
  refine Bf.vs f (by grind) o (λj e d=>?_) (λn=>?_) λj e i v d m=>?_;obtain⟨y,_,rfl⟩:=Bl.1 (BJ d);exact a.enc_len y;obtain⟨B,q,q1,q2,q3,q4⟩:=C (λe=>n (EJ (by grind)));refine⟨B,q,q1,q2,q3,λj e i v d m=>?_⟩;obtain⟨b,k,r,s,_⟩:=key j e i v d m;grind;obtain⟨b,k,r,s,K⟩:=key j e i v d m;exact K _ _ (p j b i k r s)
def jL(ok:O0 env H)(s:o.op= .makeSlice a c L)(h:bM P H a (Ir env c) (Ir env L) k=some r):iC P N o env H [] k r:=by
 have i:=KG env;unfold bM at h;split at h;rename_i e sz Q l O y j v w;split at h;rename_i b z d A;split at h;rename_i t f;obtain⟨I,q,h⟩:=Dq.1 h;obtain⟨M,m,u⟩:=c7 d;rw[j]at m;obtain⟨rfl,rfl⟩:=m;obtain⟨J,R⟩:=V1 A;have x:=FZ f;obtain⟨⟨C,D,F⟩,p,G⟩:=ACd b.E t q;refine⟨_,_,?_,h,mL,OS ok.heap rfl,B4.push _ _,Frame.push _ _ _⟩;rw[kY,Pd];have g:(lvs z).length=b.sz:=by rw[<-x.1,b.enc_len]
 have:=Ip.makeSlice (N:=N) (H:=A6 H) (K:=DW _ _) s j b.sz_pos u J g (by rw[i,v];rfl) (by rw[i,w];rfl) C D F ⟨rfl,rfl⟩;rw[p]at this;apply Ip.push_less this;rw[<-G,p];induction I.length with
 |zero=>exact DQ.refl _
 |succ n B=>exact DQ.append x B
 cases h;cases h;cases h
def mg(ok:O0 env H)(j:o.op= .convert G a c)(h:mf P H G a (Ir env c) k=some r):iC P N o env H [] k r:=by have f:=KG env;unfold mf at h;split at h;rename_i u e s l g m;split at h;rename_i i;refine⟨_,_,?_,h,mL,OS ok.heap rfl,B4.push _ _,Frame.push _ _ _⟩;rw[kY,Pd];obtain⟨b,d⟩:=ABt s;have:=iy (N:=N) (H:=A6 H) (K:=DW _ _) j l g i (by rw[f,m];rfl) ⟨rfl,rfl⟩;rw[d,b]at this;exact this;cases h;cases h
theorem sq{f:List t.D}(k: ∀d∈H,d.ok H)(p:e.ok H)(h:xV H t e=some f):Mn (A6 H) t.sz e.enc=some (f.length,t.E.cl f):=by unfold xV at h;split at h;rename_i a l;split at h;rename_i g;have c:=Ty.beq_eq _ _ g;injection c with b;subst b;injection h with h;have j:=h;subst j;simp only[TV.enc,Ba.one,Mn,Dc];rfl;cases h;rename_i id i a n;split at h;rename_i g;have c:=Ty.beq_eq _ _ g;injection c with b;subst b;split at h;rename_i l m;injection h with h;have j:l=f:=h;obtain⟨q,r⟩:=gI k (p (.own id i a n) (by simp[TV.refs])) m;have s:=a.E.clen l;have o:a.E.sz=a.sz:=rfl;grind[TV.enc,Ba.one,Mn];cases h;cases h;injection h with h;subst h;rfl;cases h
theorem mj(ok:O0 env H)(R:o.op= .call {callee:=.builtin .append,args:= #[c,L],argTypes:= #[a,G]})(Y:a=G)(h:kT P H a (Ir env c) (Ir env L) k=some r):iC P N o env H (yy (Ir env c)) k r:=by
 subst Y;have x:=KG env;unfold kT at h;split at h;rename_i te C;obtain⟨e,Q,S⟩:=c7 C;split at h;rename_i w I;have v:=sq ok.heap (aV ok.env L) I;rw[<-x]at v;split at h;rename_i b;obtain⟨l,u,X⟩:=Dq.1 h;obtain⟨W,j⟩:=gF u;rw[CD]at j;subst j;refine⟨_,_,?_,X,mL,OS ok.heap rfl,B4.push _ _,Frame.push _ _ _⟩;rw[kY,Pd];have:=Y3 (N:=N) (H:=A6 H) (K:=DW _ _) R Q te.sz_pos S (by rw[x,b];rfl) v (by grind) ⟨rfl,rfl⟩;exact this;rename_i id g al n b;split at h;rename_i d l J T t;split at h;rename_i Z;have M:=DN Z;subst M;split at h;rename_i y;have F:=Ty.beq_eq _ _ y.1;injection F with p;have s:=Ty.beq_eq _ _ y.2;injection s with q;subst q;subst p;obtain⟨l2,u,h⟩:=Dq.1 h;have f:(Ty.cast y.1 l:List d.D)=l:=rfl;rw[f]at u;obtain⟨W,rfl⟩:=gF u;have hr:S1 H id g d n:=by have:=aV ok.env c;rw[b]at this;exact this (.own id g d n) (by simp[TV.refs])
 obtain⟨_,A⟩:=hr.2 _ _ _ _ _ t;obtain⟨_,rfl⟩:=A rfl;have z:J=l.length:=ok.heap _ (BJ t);have i:(A6 H)[id]? =some (.live J (d.E.cl l)):=by rw[FA,t];rfl
 have m:B4 H (H.set id (.buf false d (l++w) (l++w).length (g+1))):=B4.set t rfl λ_ _ _ _ _ h=>by cases h;exact⟨_,_,_,_,rfl,.inl (Nat.lt_succ_self _)⟩
 refine⟨_,_,?_,h,JR ⟨by grind,λad G l' n2 U hg=>?_⟩,SO m ok.heap rfl,m,Frame.set (by rw[b];exact A3.2 rfl)⟩;have O:=d.E.clen l;have B:d.E.sz=d.sz:=rfl;rw[B]at O;have:=QF (N:=N) (H:=A6 H) (g':=J+w.length) (K:=DW _ _) R Q d.sz_pos S (by rw[x,b];rfl) i (by rw[O,z]) v (by grind) (by rcases Qz w.length with V|V;grind;exact .inl (by omega)) ⟨rfl,rfl⟩;grind[Mv,List.length_append,SX.cl,TV.enc,Ba.one,Dl.enc];grind;cases h;cases h;cases h;cases h;cases h;cases h
end
def Mb(id ver:Nat)(t:Ty)(l:List t.D):Ba->Ba
 | .own id' ver' t' n=>match Nat.beq id id'&&Nat.beq ver ver' with|true=>.ls t l|false=>.own id' ver' t' n
 |x=>x
mutual
def gf(id ver:Nat)(t:Ty)(l:List t.D):TV->TV
 | .c x=>.c (Mb id ver t l x)
 | .g cs=>.g (cs.map (Mb id ver t l))
 | .tup vs=>.tup (aZ id ver t l vs)
 | .aptr a b n te i o=>.aptr a b n te i o
 | .bptr a v te n i o=>.bptr a v te n i o
 | .vptr cs post=>.vptr cs post
def aZ(id ver:Nat)(t:Ty)(l:List t.D):List TV->List TV
 |[]=>[]
 |v::r=>gf id ver t l v::aZ id ver t l r
end
def PD(id ver:Nat)(t:Ty)(l:List t.D):Dl->Dl
 | .live false cs=>.live false (cs.map (Mb id ver t l))
 |e=>e
def frz(id:Nat)(env:BS)(H:Am):Option (BS×Am):=
 match H[id]? with
 |some (.buf false t l _ ver)=>some (env.map λp=>(p.1,gf id ver t l p.2),(H.map (PD id ver t l)).set id .dead)
 |_=>none
def RD(x y:Cx)(a b:List AV):Prop:=b.length=a.length/\ ∀(i:Nat) (v':AV),b[i]? =some v'-> ∃v,a[i]? =some v/\Conv x y v v'
theorem RD.append{b f:List AV}(c:RD x y i Q)(g:RD x y b f):RD x y (i++b) (Q++f):=by refine⟨by simp[c.1,g.1],λa j h=>?_⟩;rcases Ap a Q.length with d|d;rw[B6 d]at h;obtain⟨v,q1,q2⟩:=c.2 a j h;grind;rw[Cr d]at h;obtain⟨v,q1,q2⟩:=g.2 _ j h;exact⟨v,by rw[Cr (by rw[<-c.1];exact d),<-c.1];exact q1,q2⟩
def RD.later{x y:Cx}(l:x.Later y)(a:List AV):RD x y a a:=⟨rfl,λ_ v h=>⟨v,h,λ_ r=>r.later l⟩⟩
theorem RD.one{b:AV}(h:Conv x y v b):RD x y [v] [b]:=⟨rfl,λi u a=>by
 match i,a with
 |0,a=>grind
 |i+1,a=>simp at a⟩
def RD.agg{x y:Cx}{b a:List AV}(h:RD x y b a):Conv x y (.agg b) (.agg a):=by
 intro c r;cases r with
 |agg i e hr=>refine .agg (by rw[i,h.1]) e λj k d g f=>?_;obtain⟨v,q1,q2⟩:=h.2 j k g;exact q2 _ (hr j v d q1 f)
def RD.tup{x y:Cx}{b a:List AV}(h:RD x y b a):Conv x y (.tup b) (.tup a):=by
 intro c r;cases r with
 |tup g hr=>refine .tup (by rw[g,h.1]) λj i d f e=>?_;obtain⟨v,q1,q2⟩:=h.2 j i f;exact q2 _ (hr j v d q1 e)
section
variable {x y:Cx} {H:Am} {id n ver:Nat} {t:Ty} {l:List t.D} (lat:x.Later y) (hid:H[id]? =some (.buf false t l n ver)) (hc:Conv x y (.sl id n t.sz 0 n) (.vs t.sz (l.map t.enc)))
include lat hid hc
theorem gb(e:z.ok H):RD x y z.enc (Mb id ver t l z).enc/\Conv x y z.one (Mb id ver t l z).one:=by
 have same: ∀w:Ba,RD x y w.enc w.enc/\Conv x y w.one w.one:=λw=>⟨.later lat _,λ_ r=>r.later lat⟩
 cases z with
 |own f b h g=>simp only[Mb];split;rename_i a;simp only[BO]at a;have c:=DN a.1;have d:=DN a.2;subst c d;obtain⟨_,q⟩:=e.2 _ _ _ _ _ hid;obtain⟨rfl,rfl⟩:=q rfl;exact⟨.one hc,hc⟩;grind
 |_=>exact same _
def jB: ∀{a:List Ba},lok H a->RD x y (lvs a) (lvs (a.map (Mb id ver t l)))
 |[],_=>.later lat _
 |z::r,h=>by rw[BZ,HM,HM];exact(gb lat hid hc (h z (by simp))).1.append (jB λw b=>h w (by simp[b]))
mutual
theorem lg: ∀{v:TV},v.ok H->Conv x y v.enc (gf id ver t l v).enc
 | .c z,h=>(gb lat hid hc (h z (by simp[TV.refs]))).2
 | .g cs,h=>(jB lat hid hc h).agg
 | .tup vs,h=>RD.tup (jx (vs:=vs) h)
 | .aptr ..,_=>λ_ r=>r.later lat
 | .bptr ..,_=>λ_ r=>r.later lat
 | .vptr ..,_=>λ_ r=>r.later lat
theorem jx: ∀{vs:List TV},(TV.tup vs).ok H->RD x y (TV.encL vs) (TV.encL (aZ id ver t l vs))
 |[],_=>.later lat _
 |v::r,h=>by simp only[TV.encL,aZ];have a:v.ok H:=jQ h (by simp);have b:(TV.tup r).ok H:=Ph λw c=>jQ h (by simp[c]);exact(RD.one (lg a)).append (jx b)
end
end
def lf{l:List t.D}(c:B4 I b)(d:z.ok I):(Mb N n t l z).ok b:=by
 cases z with
 |own f e h g=>simp only[Mb];split;trivial;exact c.leaf d
 |_=>exact c.leaf d
def th{l:List t.D}(H:B4 I b)(h:lok I d):lok b (d.map (Mb N n t l)):=λz f=>by obtain⟨w,e,rfl⟩:=Bl.1 f;exact lf H (h w e)
mutual
theorem qG{H d:Am}{id b:Nat}{t:Ty}{l:List t.D}(a:B4 H d): ∀{v:TV},v.ok H->(gf id b t l v).ok d
 | .c z,h=>JR (lf a (h z (by simp[TV.refs])))
 | .g cs,h=>th a h
 | .tup vs,h=>nU a h
 | .aptr ..,h=>a.lok h
 | .bptr ..,h=>a.lok h
 | .vptr ..,h=>a.lok h
theorem nU{H c:Am}{id b:Nat}{t:Ty}{l:List t.D}(d:B4 H c): ∀{e:List TV},(TV.tup e).ok H->(TV.tup (aZ id b t l e)).ok c
 |[],_=>λz i=>by simp[aZ,TV.refs,TV.refsL]at i
 |v::r,h=>by have f:v.ok H:=jQ h (by simp);have g:(TV.tup r).ok H:=Ph λw a=>jQ h (by simp[a]);refine Ph λw a=>?_;simp only[aZ]at a;rcases An.1 a with rfl|a;exact qG d f;exact jQ (nU d g) a
end
theorem wZ{l:List t.D}(f:b[N]? =some (.buf false t l n U)):B4 b ((b.map (PD N U t l)).set N .dead):=by
 have s:=Gu f;refine⟨by simp,λj y x v h=>⟨by simpa using h.1,λro K E F u c=>?_⟩,λj e c hr=>?_,λj m h x l2 v y a=>?_,λj m _ _ _ _ _ _ _ _ a=>?_⟩;by_cases d:j=N;grind;rw[D3 (λe=>d e.symm),CL]at c;cases a:b[j]? with
 |none=>grind
 |some e=>
  rw[a]at c;simp only[Be,Ai]at c;cases e with
  |live H k=>cases H<;>simp[PD]at c
  |dead=>cases c
  |lp=>cases c
  |mp=>cases c
  |buf H q o p r=>simp only[PD]at c;exact h.2 _ _ _ _ _ (by rw[a,c])
 have d:j≠N:=by rintro rfl;rw[f]at c;injection c with c;subst c;cases hr
 rw[D3 (λe=>d e.symm),CL,c];cases e with
 |live H k=>cases H with|true=>rfl|false=>cases hr
 |dead=>cases hr
 |buf H q o p r=>rfl
 |lp=>rfl
 |mp=>rfl
 by_cases d:j=N;grind;rw[D3 (λe=>d e.symm),CL]at a;cases g:b[j]? with
 |none=>rw[g]at a;cases a
 |some e=>
  rw[g]at a;simp only[Be,Ai]at a;cases e with
  |live H k=>cases H<;>simp[PD]at a
  |dead=>cases a
  |lp=>cases a
  |mp=>cases a
  |buf H q o p r=>grind[PD]
 by_cases d:j=N;grind[List.getElem?_set_self];rw[D3 (λe=>d e.symm),CL]at a;cases g:b[j]? with
 |none=>rw[g]at a;cases a
 |some e=>
  rw[g]at a;simp only[Be,Ai]at a;cases e with
  |live H k=>cases H<;>simp[PD]at a
  |dead=>cases a
  |buf H q o p r=>cases a
  |mp=>cases a
  |lp w z G C I A B J=>injection a with _ q2 q3 q4 q5 q6 q7 _;subst q2 q3 q4 q5 q6 q7;exact⟨_,_,rfl⟩
theorem AAn{id:Nat}{env env2:BS}{H K:Am}(ok:O0 env H)(h:frz id env H=some (env2,K)):O0 env2 K/\B4 H K/\ ∀N,F3 N (A6 H).length (Br env) (A6 H) (Br env2) (A6 K):=by
 unfold frz at h;split at h;rename_i t l n i d;simp only[Ai,EV]at h;obtain⟨rfl,rfl⟩:=h;have G:=Gu d;have A:=wZ d;have hn:n=l.length:=ok.heap _ (BJ d);refine⟨⟨λp M=>?_,λe R=>?_⟩,A,λN=>?_⟩;obtain⟨q,z,rfl⟩:=Bl.1 M;exact qG A (ok.env q z);rcases Nl R with R|rfl;obtain⟨k,S,rfl⟩:=Bl.1 R;have F:=ok.heap k S;cases k with
 |live b D=>
  cases b with
  |true=>exact A.lok F
  |false=>exact th A F
 |dead=>trivial
 |buf b Q P T U=>exact F
 |lp=>exact F
 |mp=>exact F
 trivial;have u:(A6 H)[id]? =some (.live n (t.E.cl l)):=by rw[FA,d];rfl
 refine TW (by simp[A6]) λX g w s=>?_;have C: ∀j,(A6 ((H.map (PD id i t l)).set id .dead))[j]? =if j=id then some .dead else(H[j]?).map λe=>(PD id i t l e).enc:=by intro j;rw[FA];by_cases v:j=id;subst v;rw[if_pos rfl,G8 (by simpa using G)];rfl;grind
 have back: ∀(j:Nat) (e:EU),(A6 ((H.map (PD id i t l)).set id .dead))[j]? =some e->e≠ .dead->j≠id/\ ∃k,(A6 H)[j]? =some k/\k≠ .dead:=by
  intro j e a f;rw[C]at a;split at a;injection a with a;exact(f a.symm).elim;rename_i v;refine⟨v,?_⟩;cases z:H[j]? with
  |none=>rw[z]at a;cases a
  |some k=>
   refine⟨k.enc,by rw[FA,z];rfl,λL=>f ?_⟩;rw[z]at a;simp only[Be,Ai]at a;cases k with
   |live b D=>simp[Dl.enc]at L
   |dead=>exact a.symm
   |buf b Q P T U=>simp[Dl.enc]at L
   |lp=>simp[Dl.enc]at L
   |mp=>simp[Dl.enc]at L
 have y:(cx X g (A6 H) w).Later (cx X g (A6 ((H.map (PD id i t l)).set id .dead)) w):=bL (by simp[A6]) λj e a f=>(back j e a f).2;have hO: ∀B,g.io id=some B-> ¬(cx X g (A6 ((H.map (PD id i t l)).set id .dead)) w).O B:=by rintro B I (hX|⟨j,e,a,f,J⟩);exact(s.out B hX).2 ⟨id,_,u,by simp,I⟩;obtain⟨v,k,Y,Z⟩:=back j e a f;exact v (s.inj j id _ _ B Y u Z (by simp) J I)
 have o:Conv (cx X g (A6 H) w) (cx X g (A6 ((H.map (PD id i t l)).set id .dead)) w) (.sl id n t.sz 0 n) (.vs t.sz (l.map t.enc)):=λc r=>kQ s u (AAw t.E l) (by rw[hn];exact Dc _) y rfl hO r;refine⟨⟨by simp[A6],λj e' a=>?_⟩,λtt v' m=>?_⟩;rw[C]at a;split at a;injection a with a;exact .inl a.symm;cases z:H[j]? with
 |none=>rw[z]at a;cases a
 |some k=>
  rw[z]at a;simp only[Be,Ai]at a;have x:(A6 H)[j]? =some k.enc:=by rw[FA,z];rfl
  cases k with
  |live b D=>
   refine .inr (.inl ?_);cases b with
   |true=>simp only[PD,Dl.enc]at a;exact⟨0,lvs D,lvs D,x,a.symm,rfl,(RD.later y _).2⟩
   |false=>simp only[PD,Dl.enc]at a;obtain⟨V,W⟩:=jB y d o (ok.heap _ (BJ z));exact⟨0,lvs D,_,x,a.symm,V,W⟩
  |dead=>exact .inl a.symm
  |buf b Q P T U=>simp only[PD,Dl.enc]at a;exact .inr (.inl ⟨T,Q.E.cl P,Q.E.cl P,x,a.symm,rfl,(RD.later y _).2⟩)
  |lp=>subst a;exact .inr (.inr ⟨x,λ_ _ h=>by cases h⟩)
  |mp=>subst a;exact .inr (.inr ⟨x,λ_ _ h=>by cases h⟩)
 simp only[Br,Ni,Bl]at m;obtain⟨p,M,e⟩:=m;simp only[Function.comp,EV]at e;obtain⟨rfl,rfl⟩:=e;exact⟨p.2.enc,Bl.2 ⟨p,M,rfl⟩,lg y d o (ok.env p M)⟩;cases h
@[reducible] def DL:List Ty->Type
 |[]=>Unit
 |[t]=>t.D
 |t::u::r=>t.D×DL (u::r)
def uu:(ts:List Ty)->List TV->Option (DL ts)
 |[],[]=>some ()
 |[t],[v]=>t.data v
 |t::u::r,v::vs=>
  match t.data v,uu (u::r) vs with
  |some x,some y=>some (x,y)
  |_,_=>none
 |_,_=>none
def pR:(ts:List Ty)->DL ts->List TV
 |[],_=>[]
 |[t],x=>[t.tv x]
 |t::u::r,x=>t.tv x.1::pR (u::r) x.2
def fS:(ts:List Ty)->DL ts->List AV
 |[],_=>[]
 |[t],x=>[t.enc x]
 |t::u::r,x=>t.enc x.1::fS (u::r) x.2
def one:List TV->TV
 |[v]=>v
 |vs=>.tup vs
def jR:List AV->AV
 |[v]=>v
 |vs=>.tup vs
def LB(bt:Ty):(rs:List Ty)->DL (rs++[bt])->DL rs×bt.D
 |[],y=>((),y)
 |[_],y=>(y.1,y.2)
 |_::u::r,y=>((y.1,(LB bt (u::r) y.2).1),(LB bt (u::r) y.2).2)
inductive SW where
 |c2 (f:FuncId) (te:Ty) (ds rs:List Ty) (post:List AV) (g:List te.D->DL ds->Option (DL (rs++[.list te])))
 |cl (f:FuncId) (t:Ty)
 |c0 (f:FuncId) (ds rs:List Ty) (g:DL ds->Option (DL rs))
 |c1 (f:FuncId) (pos:Nat) (bt:Ty) (ds rs:List Ty) (g:bt.D->DL ds->Option (DL (rs++[bt])))
def SW.f:SW->FuncId
 | .c0 f .. =>f
 | .c1 f .. =>f
 | .c2 f .. =>f
 | .cl f _=>f
def fnB:AV->AV->Bool
 | .fn (.func F) [] [],.fn (.func G) [] []=>Nat.beq F G
 |_,_=>false
def AAl{w:AV}(h:fnB v w=true):v=w:=by unfold fnB at h;split at h<;>simp_all
def nu:List TV->List AV->Bool
 |[],[]=>true
 | .c (.raw v)::r,w::s=>fnB v w&&nu r s
 |_,_=>false
def qo: ∀{l:List TV} {p:List AV},nu l p=true->l.map TV.enc=p
 |[],[],_=>rfl
 |[],_::_,h=>by simp[nu]at h
 |v::r,[],h=>by cases v<;>simp[nu]at h
 |v::r,w::s,h=>by unfold nu at h;split at h;rename_i e;cases e;rename_i c d;injection c with a1 a2;injection d with a b;subst a1 a2 a b;simp only[BO]at h;rw[BZ,qo h.2];exact congrArg (· ::_) (AAl h.1);cases h
def S0:Nat->AV->List AV->List AV
 |0,v,l=>v::l
 |n+1,v,x::l=>x::S0 n v l
 |_+1,v,[]=>[v]
def SW.Ok(P:Program):SW->Prop
 | .c2 f te ds rs post g=> ∀l x y,g l x=some y->(LB (.list te) rs y).2.length=l.length-> ∀H id,H[id]? =some (.live l.length (te.E.cl l))->
  Es P f (.sl id l.length te.sz 0 l.length::(fS ds x++post)) H (DW (jR (fS rs (LB (.list te) rs y).1)) (H.set id (.live l.length (te.E.cl (LB (.list te) rs y).2))))
 | .cl f t=> ∀(l:List t.D) (H:Am),(∀e∈H,e.ok H)->(l=[]->Es P f [.vs t.sz []] (A6 H) (DW (.vs t.sz []) (A6 (H++[.dead]))))/\
  ∀r,l≠ []->app [] l=some r->Es P f [.vs t.sz (l.map t.enc)] (A6 H) (DW (.sl H.length r.length t.sz 0 r.length) (A6 (H++[.buf false t r r.length 0])))
 | .c0 f ds rs g=> ∀x y,g x=some y-> ∀H,Es P f (fS ds x) H (DW (jR (fS rs y)) H)
 | .c1 f pos bt ds rs g=> ∀b x y,g b x=some y-> ∀H id,H[id]? =some (.live 0 (bt.enc b).cells)->Es P f (S0 pos (.ptr id 0 0) (fS ds x)) H (DW (jR (fS rs (LB bt rs y).1)) (H.set id (.live 0 (bt.enc (LB bt rs y).2).cells)))
section
variable {R:Type}
def tR(c:SW)(vs:List TV)(H:Am)(k:TV->Am->Option R):Option R:=
 match c with
 | .c0 _ ds rs g=>match uu ds vs with|some x=>(g x).bind λy=>k (one (pR rs y)) H|none=>none
 | .c1 _ pos bt ds rs g=>
  match vs[pos]? with
  |some (.c (.raw (.ptr id 0 0)))=>
   match H[id]? with
   |some (.live false cs)=>
    match bt.all cs,uu ds (vs.take pos++vs.drop (pos+1))with
    |some b,some x=>(g b x).bind λy=>k (one (pR rs (LB bt rs y).1)) (H.set id (.live false (bt.lvs (LB bt rs y).2)))
    |_,_=>none
   |_=>none
  |_=>none
 | .c2 _ te ds rs post g=>
  match vs with
  | .c (.own id ver _ _)::r=>
   match H[id]? with
   |some (.buf false t l n' ver')=>
    match Nat.beq ver ver' with
    |true=>
     if h:(Ty.list t).beq (Ty.list te)=true then
      match uu ds (r.take ds.length),nu (r.drop ds.length) post with
      |some x,true=>(g (Ty.cast h l) x).bind λy=>
       cond (Nat.beq (LB (.list te) rs y).2.length n') (k (one (pR rs (LB (.list te) rs y).1)) (H.set id (.buf false te (LB (.list te) rs y).2 n' ver'))) none
      |_,_=>none
     else none
    |false=>none
   |_=>none
  |_=>none
 | .cl _ t=>
  match vs with
  |[.c (.ls te l)]=>
   if h:(Ty.list te).beq (Ty.list t)=true then
    cond (decide (((l.length:Nat):Int)=0)) (k (.c (.ls t [])) (H++[.dead])) ((app (α:=t.D) [] (Ty.cast h l)).bind λr=>k (.c (.own H.length 0 t r.length)) (H++[.buf false t r r.length 0]))
   else none
  |[.c .nil]=>k (.c (.ls t [])) (H++[.dead])
  |_=>none
def Wx: ∀(a:List Ty) (x:DL a),(pR a x).map TV.enc=fS a x
 |[],_=>rfl
 |[t],x=>by simp only[pR,fS,BZ,HV,t.tv_enc]
 |t::u::r,x=>by simp only[pR,fS,BZ,t.tv_enc,Wx (u::r)]
theorem fx{H:Am}: ∀(b:List Ty) (x:DL b),∀v∈pR b x,v.ok H
 |[],_,v,a=>by simp[pR]at a
 |[t],x,v,a=>by simp only[pR,A3]at a;subst a;exact t.tv_ok x
 |t::u::r,x,v,a=>by simp only[pR,An]at a;rcases a with rfl|a;exact t.tv_ok _;exact fx (u::r) x.2 v a
def kX(a:List TV):(one a).enc=jR (a.map TV.enc):=by
 match a with
 |[]=>rfl
 |[v]=>rfl
 |v::w::r=>simp only[one,jR,TV.enc,lQ,BZ]
def pB(h: ∀v∈m,v.ok b):(one m).ok b:=by
 match m,h with
 |[],h=>exact Ph h
 |[v],h=>exact h v (by simp)
 |v::w::r,h=>exact Ph h
def Vs: ∀{a:List Ty} {b:List TV} {x:DL a},uu a b=some x->DQ (b.map TV.enc) (fS a x)
 |[],[],x,h=>DQ.refl _
 |[t],[v],x,h=>DQ.one (LM h)
 |t::u::r,v::b,x,h=>by simp only[uu]at h;split at h;rename_i y z c d;injection h with h;subst h;exact(DQ.one (LM c)).append (Vs d);cases h
 |[],_::_,x,h=>by simp[uu]at h
 |[t],[],x,h=>by simp[uu]at h
 |[t],_::_::_,x,h=>by simp[uu]at h
 |_::_::_,[],x,h=>by simp[uu]at h
theorem lq: ∀{n:Nat} {a:List AV} {v:AV} {b:List AV},a[n]? =some v->DQ (a.take n++a.drop (n+1)) b->DQ a (S0 n v b)
 |0,u::a,v,b,h,hl=>by simp at h;subst h;exact(DQ.one (UQ.refl u)).append hl
 |n+1,u::a,v,b,h,hl=>by
  cases b with
  |nil=>have:=hl.1;simp at this
  |cons d b=>
   have c:UQ u d:=by obtain⟨w,q1,q2⟩:=hl.2 0 d rfl;grind
   have e:DQ (a.take n++a.drop (n+1)) b:=⟨by have:=hl.1;simpa using this,λi g f=>hl.2 (i+1) g f⟩
   exact(DQ.one c).append (lq h e)
def ya(c:SW)(vs:List TV):List Nat:=
 match c with
 | .c0 .. =>[]
 | .c1 _ pos .. =>match vs[pos]? with|some v=>yy v|none=>[]
 | .c2 .. =>match vs[0]? with|some v=>yy v|none=>[]
 | .cl .. =>[]
def ACW(c:SW)(vs:List TV):List TV:=
 match c with
 | .c2 .. =>vs.drop 1
 |_=>vs
def pm{c:SW}(hc:c.Ok P){k:TV→Am→Option R}{r:R}(hv: ∀v∈m,v.ok b)(K: ∀e∈b,e.ok b)(h:tR c m b k=some r):
  ∃v O,Es P c.f (m.map TV.enc) (A6 b) (DW v.enc (A6 O))/\k v O=some r/\v.ok O/\(∀e∈O,e.ok O)/\B4 b O/\Frame (ya c m) b O:=by
 unfold tR at h;split at h;rename_i f S A g;split at h;rename_i x hx;obtain⟨y,hy,h⟩:=Dq.1 h;refine⟨_,b,?_,h,pB (fx A y),K,B4.refl b,Frame.refl _ _⟩;rw[kX,Wx];have hl:=Vs hx;refine Es.before (args2:=fS S x) (H2:=A6 b) hl.1 (λX g0 w s=>⟨⟨rfl,λj e' p=>?_⟩,λj Z p=>?_⟩) (hc x y hy _);cases e' with
 |dead=>exact .inl rfl
 |live g1 L=>exact .inr (.inl ⟨g1,L,L,p,rfl,rfl,λi v hi=>⟨v,hi,λ_ r=>r⟩⟩)
 |_=>exact .inr (.inr ⟨p,by simp⟩)
 obtain⟨v,q1,q2⟩:=hl.2 j Z p;exact⟨v,q1,λd W=>q2 _ _ W⟩;cases h;rename_i f pos J S A g;split at h;rename_i id hp;split at h;rename_i cs o;split at h;rename_i H x hb hx;obtain⟨y,hy,h⟩:=Dq.1 h;have G:B4 b (b.set id (.live false (J.lvs (LB J A y).2))):=B4.set o rfl λ_ _ _ _ _ h=>by cases h
 refine⟨_,_,?_,h,pB (fx A _),SO G K (J.lvs_ok _),G,Frame.set (by simp only[ya,hp];exact A3.2 rfl)⟩;rw[kX,Wx,Mv];have C:id<(A6 b).length:=by rw[CR];exact Gu o
 have hl:=Vs hx;have ar:=FZ hb;have a:DQ (m.map TV.enc) (S0 pos (.ptr id 0 0) (fS S x)):=by refine lq ?_ (by rw[<-List.map_take,<-List.map_drop,<-Nh];exact hl);rw[CL,hp];rfl
 have D:=hc H x y hy ((A6 b).set id (.live 0 (J.enc H).cells)) id (by rw[G8 C]);rw[VC]at D;have e1:(Dl.live false (J.lvs (LB J A y).2)).enc= .live 0 (J.enc (LB J A y).2).cells:=by simp only[Dl.enc,J.lvs_enc]
 rw[e1];refine Es.before a.1 (λX g0 w s=>?_) D;have ad:A6 b=(A6 b).set id (.live 0 (lvs cs)):=by
  have:(A6 b)[id]? =some (.live 0 (lvs cs)):=by rw[FA,o];rfl
  apply Mp;intro j;by_cases F:j=id;subst F;rw[G8 C,this];rw[D3 (λe=>F e.symm)]
 have ap:(cx X g0 (A6 b) w).Later (cx X g0 ((A6 b).set id (.live 0 (J.enc H).cells)) w):=by refine bL (by simp) λj e p ax=>?_;by_cases F:j=id;subst F;exact⟨.live 0 (lvs cs),by rw[FA,o];rfl,by simp⟩;rw[D3 (λe=>F e.symm)]at p;exact⟨e,p,ax⟩
 refine⟨Rn.set_less C ad rfl ar ap,λj Z p=>?_⟩;obtain⟨v,q1,q2⟩:=a.2 j Z p;exact⟨v,q1,λd W=>q2 _ _ (W.later ap)⟩;cases h;cases h;cases h;rename_i f Y S A N g;split at h;rename_i id B t0 n0 r0;split at h;rename_i t l V a0 o;split at h;rename_i hb;have al:=DN hb;subst al;split at h;rename_i I;have n:=Ty.beq_eq _ _ I;injection n with n;subst n;split at h;rename_i x hx hp;obtain⟨y,hy,h⟩:=Dq.1 h;have z:(Ty.cast I l:List t.D)=l:=rfl;rw[z]at hy;have hn:V=l.length:=K _ (BJ o);have hr:S1 b id B t0 n0:=hv _ JK (.own id B t0 n0) (by simp[TV.refs]);obtain⟨_,q⟩:=hr.2 _ _ _ _ _ o;obtain⟨rfl,rfl⟩:=q rfl;cases T:Nat.beq (LB (.list t) A y).2.length V with
 |false=>rw[T]at h;cases h
 |true=>
  rw[T]at h;have M:(LB (.list t) A y).2.length=V:=DN T;have G:B4 b (b.set id (.buf false t (LB (.list t) A y).2 V B)):=B4.set o rfl λ_ _ _ _ _ e=>by cases e;exact⟨_,_,_,_,rfl,.inr ⟨rfl,rfl⟩⟩
  refine⟨_,_,?_,h,pB (fx A _),SO G K M.symm,G,Frame.set (by simp[ya,yy])⟩;rw[kX,Wx,Mv];have hl:=Vs hx;have U:=qo hp;have a:DQ ((TV.c (.own id B t V)::r0).map TV.enc) (.sl id l.length t.sz 0 l.length::(fS S x++N)):=by
   rw[BZ,<-F9 S.length r0,Nh,U];have e1:(TV.c (.own id B t V)).enc= .sl id l.length t.sz 0 l.length:=by rw[<-hn];rfl
   rw[e1];rw[<-lC];rw[<-lC (l:=fS S x++N)];exact(DQ.refl _).append (hl.append (DQ.refl _))
  have D:=hc l x y hy (by rw[M,hn]) (A6 b) id (by rw[FA,o,<-hn];rfl);have e2:(Dl.buf false t (LB (.list t) A y).2 V B).enc= .live l.length (t.E.cl (LB (.list t) A y).2):=by rw[<-hn];rfl
  rw[e2];refine Es.before a.1 (λX g0 w s=>⟨⟨rfl,λj e' p=>?_⟩,λj Z p=>?_⟩) D;cases e' with
  |dead=>exact .inl rfl
  |live g1 L=>exact .inr (.inl ⟨g1,L,L,p,rfl,rfl,λi v hi=>⟨v,hi,λ_ r=>r⟩⟩)
  |_=>exact .inr (.inr ⟨p,by simp⟩)
  obtain⟨v,q1,q2⟩:=a.2 j Z p;exact⟨v,q1,λd W=>q2 _ _ W⟩
 cases h;cases h;cases h;cases h;cases h;rename_i f t;have same: ∀{args u:List AV} {Q:AV->As->Prop},DQ args u->Es P f u (A6 b) Q->Es P f args (A6 b) Q:=λa D=>by
  refine Es.before a.1 (λX g0 w s=>⟨⟨rfl,λj e' p=>?_⟩,λj Z p=>?_⟩) D;cases e' with
  |dead=>exact .inl rfl
  |live g1 L=>exact .inr (.inl ⟨g1,L,L,p,rfl,rfl,λi v hi=>⟨v,hi,λ_ r=>r⟩⟩)
  |_=>exact .inr (.inr ⟨p,by simp⟩)
  obtain⟨v,q1,q2⟩:=a.2 j Z p;exact⟨v,q1,λd W=>q2 _ _ W⟩
 split at h;rename_i Y l;split at h;rename_i I;have n:=Ty.beq_eq _ _ I;injection n with n;subst n;have z:(Ty.cast I l:List Y.D)=l:=rfl;rw[z]at h;cases hz:decide (((l.length:Nat):Int)=0)with
 |true=>
  rw[hz]at h;have h0:l=[]:=by
   have:((l.length:Nat):Int)=0:=by simpa using hz
   exact EJ (by omega)
  subst h0;refine⟨TV.c (Ba.ls Y []),b++[Dl.dead],?_,h,JR trivial,OS K trivial,B4.push _ _,Frame.push _ _ _⟩;exact(hc [] b K).1 rfl
 |false=>
  rw[hz]at h;have h0:l≠ []:=by rintro rfl;simp at hz
  obtain⟨r,hr,h⟩:=Dq.1 h;have e:Dl.ok (b++[.buf false Y r r.length 0]) (.buf false Y r r.length 0):=rfl;have q:=(hc l b K).2 r h0 hr;refine⟨TV.c (Ba.own b.length 0 Y r.length),b++[Dl.buf false Y r r.length 0],?_,h,mL,OS K e,B4.push _ _,Frame.push _ _ _⟩;exact q
 cases h;refine⟨TV.c (Ba.ls t []),b++[Dl.dead],?_,h,JR trivial,OS K trivial,B4.push _ _,Frame.push _ _ _⟩;exact same (DQ.one (UQ.nil t.sz_pos)) ((hc [] b K).1 rfl);cases h
end
section
variable {P:Program} {N:Nat} {o:Oper} {env:Env} {H:As} {K:AV->As->Prop}
def lW{sz:Nat}{rows:List AV}(n:o.op= .binOp .eql a c (.const (.slice none 0 0)) G)(E:P.underlying a=some (.slice Z))(F:BA env c= .vs sz rows)
  (C: ∀b,(rows≠ []->b=false)->K (.bool b) H):Ip P N o env H K:=by
 apply Cu (by rw[n];rfl);intro X h I w s Q;have l:=DO s.env c;rw[F]at l;generalize i:I.eval c=zz at l;cases l with
 | @vs sz rows t cap f m D p z J=>
  have k:=run_underlying E w;have g:(execOp I.eval o).run P w= .ok (.value (.bool t.isNone)) w:=by
   unfold execOp;rw[n];have r:I.eval (.const (.slice none 0 0))= .slice none 0 0:=rfl;have u:(eqGuard .eql a c (.const (.slice none 0 0)) (.slice t rows.length cap) (.slice none 0 0)).run P w= .ok () w:=by unfold eqGuard;simp
   have v:(Op.equal a (.slice t rows.length cap) (.slice none 0 0)).run P w= .ok t.isNone w:=by
    have y: ∃d,Op.maxDepth=d+1:=⟨9999,rfl⟩
    obtain⟨d,A⟩:=y;unfold Op.equal;rw[A];cases t<;>simp[Op.equalIn,k]
   simp only[i,r,Sem.run_bind,u,Result.andThen_ok,binOp,v,Sem.run_pure]
  unfold Oper.wp;rw[g,Oper.upon_value];refine⟨_,_,h,H,rfl,C t.isNone (λj=>?_),.bool _,s.sim,HT.refl _ _ _⟩;obtain⟨B,e,q,_⟩:=z j;rw[q];rfl
def Ip.clear{x:Operand}{id g l n sz:Nat}(ho:o.op= .call {callee:=.builtin .clear,args:= #[x],argTypes:= #[a]})(hd:o.dst=none)(he:eI P a=some (none,G,sz))(b0:QG P G=true)(hz:Vz P G=some Q)(W:Q.length=sz)
  (hx:BA env x= .sl id g sz l n) (E:H[id]? =some (EU.live g i)) (a5:l+n*sz<=i.length) (hk:K (.tup []) (H.set id (.live g (Tr i l (List.replicate n Q).flatten)))):Ip P N o env H K:=by
 apply Cu (by rw[ho];rfl);intro X h e w s t;obtain⟨b2,b,hi⟩:=PC he;obtain⟨M,zv,v,b5,bb,b3⟩:=Rm b0;have a3:=eF hi v;obtain⟨i',y,a1,a9,a7⟩:=Zi (cx X h H w) hz;have:i'=M:=by rw[v]at a1;exact(Ch a1).symm
 subst this;have:y=zv:=by rw[bb]at a9;exact(Ch a9).symm
 subst this;have A:y.cells.size=sz:=by rw[b3,a3]
 have rx:=DO s.env x;rw[hx]at rx;have R:=run_underlying b2 w;have S:(List.replicate n Q).flatten.length=n*sz:=by simp[W]
 obtain⟨ax,ap⟩:=s.sim.live id g i E;have b1: ∃ad cap,e.eval x= .slice ad n cap/\(n≠0-> ∃B,h.io id=some B/\ad=some ⟨B,l,none⟩):=by
  generalize e.eval x=c at rx;cases rx with
  |sl h1 h2 h3 hc=>rcases hc ax with⟨_,q2,_,q4⟩|⟨B,cap,q1,_,_,q4⟩;exact⟨none,0,by rw[q4,q2],λbN=>(bN q2).elim⟩;exact⟨_,cap,q4,λ_=>⟨B,q1,rfl⟩⟩
 obtain⟨ad,cap,Z,bd⟩:=b1;have a2:id<H.length:=by rcases Ap id H.length with h2|h2;exact h2;rw[Cs h2]at E;cases E
 by_cases hn:n=0;subst hn;have F:(execOp e.eval o).run P w= .ok (.value (.tuple #[])) w:=by unfold execOp;rw[ho];simp only[resolve,invoke,builtin,Sem.run_bind,Sem.run_pure,Result.andThen_ok,O2,BZ,HV,Z,Builtin.clear_];simp[R];cases ad<;>simp
 unfold Oper.wp;rw[F,Oper.upon_value];have e1:H.set id (.live g (Tr i l (List.replicate 0 Q).flatten))=H:=by
  have:Tr i l (List.replicate 0 Q).flatten=i:=by simp[Tr]
  rw[this];apply Mp;intro j;by_cases a4:j=id;subst a4;rw[G8 a2,E];rw[D3 λG=>a4 G.symm]
 rw[e1]at hk;exact⟨_,_,h,H,rfl,hk,.tup rfl λ_ _ _ h=>by (cases h),s.sim,HT.refl _ _ _⟩;obtain⟨B,J,rfl⟩:=bd hn;rcases ap with⟨a6,_⟩|⟨B',Y,T,fz,f,O,hb,al,b4,ar,I⟩;rw[show(cx X h H w).io id=h.io id from rfl,J]at a6;cases a6;rw[show(cx X h H w).io id=h.io id from rfl,J]at O;injection O with e0;subst e0;have V:(Builtin.zeroCells y.cells n).size=n*sz:=by rw[V0,A]
 have z: ∀j,j<n*sz-> ∃d u,(Builtin.zeroCells y.cells n)[j]? =some d/\(List.replicate n Q).flatten[j]? =some u/\d.oneCell'=true/\Bf (cx X h H w) u d:=by
  intro j r;have a8:0<sz:=by rcases Qz sz with q|q;subst q;simp at r;exact q
  have hm:j%sz<y.cells.size:=by rw[A];exact Nat.mod_lt _ a8
  have D:y.cells[j%sz]? =some (y.cells[j%sz]'hm):=PA hm;have a0: ∀(m j:Nat),j<m*sz->(List.replicate m Q).flatten[j]? =Q[j%sz]? :=by
   intro m;induction m with
   |zero=>intro j r;omega
   |succ m ih=>intro j r;rw[fF,iR];rcases Ap j sz with bz|bl;rw[B6 (by omega),S8 bz];rw[Cr (by omega),W,ih (j-sz) (by rw[Ge]at r;omega),<-Nat.mod_eq_sub_mod bl]
  have a':Q[j%sz]? =some (Q[j%sz]'(by rw[W];exact Nat.mod_lt _ a8)):=Az _;have U:(Builtin.zeroCells y.cells n)[j]? =some (y.cells[j%sz]'hm):=by
   unfold Builtin.zeroCells;rw[YM,Array.getElem?_range,if_pos (by rw[A];exact r)];have bG:j%y.cells.size<y.cells.size:=by rw[A];rw[A]at hm;exact hm
   rw[Be,getElem!_pos y.cells _ bG];simp only[A]
  cases a7 with
  |agg q1 q2 q3=>exact⟨_,_,U,by rw[a0 n j r,a'],q2 _ _ D,q3 _ _ _ a' D⟩
 obtain⟨w',L,p1,p2,p3,p4,p5,p6,p7,p8,p9⟩:=SV (P:=P) (off:=l) (Builtin.zeroCells y.cells n).toList 0 Y w hb (by simp[V];omega) ar (λd hd=>by
  obtain⟨j,r⟩:=Eu hd;have bt:j<n*sz:=by rw[<-V];have:=(TB.1 r).1;simpa using this
  obtain⟨d',u,q1,_,q3,_⟩:=z j bt;rw[PX]at r;rw[r]at q1;injection q1 with q1;rw[q1];exact q3)
 have F:(execOp e.eval o).run P w= .ok (.value (.tuple #[])) w':=by
  unfold execOp;rw[ho];simp only[resolve,invoke,builtin,Sem.run_bind,Sem.run_pure,Result.andThen_ok,O2,BZ,HV,Z,Builtin.clear_];have b6: ∀(α:Type) (p q:α),(match n with|0=>p|_+1=>q)=q:=by
   intro α p q;cases n with
   |zero=>exact(hn rfl).elim
   |succ m=>rfl
  obtain⟨m,rfl⟩: ∃m,n=m+1:=⟨n-1,by omega⟩
  simp[R,zeroValue,typeInfo,v,bb];rw[p1];rfl
 have hh:cT (cx X h H w) (Tr i l (List.replicate n Q).flatten) L fz:=by
  refine⟨λj=>if l<=j/\j<l+n*sz then(Builtin.zeroCells y.cells n).getD (j-l) undef else f j,by rw[db (by rw[S];exact a5)];omega,by rw[p3];exact ar,λj u r=>?_⟩;rw[mY (by rw[S];exact a5),S]at r;rw[p4];simp only[Qy,DM,V,PX];split at r;rename_i C;rw[if_pos C,if_pos C];obtain⟨d,u',q1,q2,q3,q4⟩:=z (j-l) (by omega);rw[q2]at r;injection r with r;subst r;have G:(Builtin.zeroCells y.cells n).getD (j-l) undef=d:=by rw[O9,q1];rfl
  rw[G];exact⟨q1,q3,q4⟩;rename_i C;rw[if_neg C,if_neg C];exact I j u r
 obtain⟨q1,q2⟩:=s.sim.upd (g':=g) (B:=B) (arr:=L) (T:=T) (fz:=fz) (w':=w') E (Ak _) (λ_=>⟨J,by rw[p3];exact al.symm⟩) (.inl J) p2 (λk _ hk=>p5 k hk) p6 p7 p8 (by rw[p9];exact Ak _) hh;unfold Oper.wp;rw[F,Oper.upon_value];exact⟨_,_,_,_,rfl,hk,.tup rfl λ_ _ _ h=>by (cases h),q1,q2⟩
def kP(k:o.op= .call {callee:=.builtin .clear,args:= #[c],argTypes:= #[a]})(m:P.underlying a=some (.slice G))
  (t:BA env c= .vs n []) (l:K (.tup []) H):Ip P N o env H K:=by
 apply Cu (by rw[k];rfl);intro X h x w s Q;have j:=DO s.env c;rw[t]at j;have d:=run_underlying m w;have i: ∃f cap,x.eval c= .slice f 0 cap:=by
  generalize x.eval c=e at j;cases j with
  |vs=>exact⟨_,_,rfl⟩
 obtain⟨f,cap,g⟩:=i;have b:(execOp x.eval o).run P w= .ok (.value (.tuple #[])) w:=by unfold execOp;rw[k];simp only[resolve,invoke,builtin,Sem.run_bind,Sem.run_pure,Result.andThen_ok,O2,BZ,HV,g,Builtin.clear_];simp[d];cases f<;>simp
 unfold Oper.wp;rw[b,Oper.upon_value];exact⟨_,_,h,H,rfl,l,.tup rfl λ_ _ _ h=>by (cases h),s.sim,HT.refl _ _ _⟩
end
def Tu(P:Program)(N:Nat)(ops:Array Oper):List Oper->Env->As->(Env->As->Prop)->Prop
 |[],env,H,Q=> ∃env1 H1,F3 N H.length env H env1 H1/\Q env1 H1
 |o::rest,env,H,Q=> ∃env1 H1,F3 N H.length env H env1 H1/\
  U6 ops o.guard env1 (Ip P N o env1 H1 λv H'=>Tu P N ops rest (env1.putO o.dst v) H' Q) (Tu P N ops rest (env1.putO o.dst (.tup [])) H1 Q)
def Tu.weak{N:Nat}{Q:Env->As->Prop}{env1:Env}{H e:As}(w:F3 N H.length u H env1 e): ∀{os:List Oper},Tu P N j os env1 e Q->Tu P N j os u H Q
 |[],h=>by obtain⟨c,b,d,q⟩:=h;exact⟨c,b,w.trans (d.of_le w.1),q⟩
 |o::os,h=>by obtain⟨c,b,d,q⟩:=h;exact⟨c,b,w.trans (d.of_le w.1),q⟩
theorem lX{r:Option Nat}{C:Exit→Act→World→Prop}{Q:Env→As→Prop}:
  ∀(l:List Nat) (os:List Oper),l.map (j[·]?)=os.map some-> ∀(env:Env) (H:As) (h:Gh) (a:Act) (w:World),Nt N os=true->Tu P N j os env H Q->St A h N env H a w->(∀f n y u q,Q f n->St A y N f n u q->HT h H w y n q->u.defers=a.defers->C .normal u q)->wpOpsIn (FR r) 0 P j C l a w:=by
 intro l;induction l with
 |nil=>
  intro os d env H h a w _ hr s z;have:os=[]:=by simp_all
  subst this;obtain⟨env1,X,b,hr⟩:=hr;obtain⟨x,e,E,d⟩:=b.2 A h a w s;exact z env1 X x a w hr e (F3.ext rfl b.1 E d (HT.refl h H w)) rfl
 |cons i l L=>
  intro os d env H h a w T hr s z;match os,d with
  |o::os,d=>
   simp at d;obtain⟨O,m⟩:=d;simp only[wpOpsIn,O];have g: ∀t,o.dst=some t->t<a.tmps.size:=by intro t Y;simp only[Nt]at T;rw[s.size];grind
   have p:Nt N os=true:=by simp_all[Nt]
   obtain⟨env1,X,b,hr⟩:=hr;obtain⟨x,e,E,d⟩:=b.2 A h a w s;have M:=F3.ext rfl b.1 E d (HT.refl h H w);rcases qK e.env hr with⟨J,R⟩|⟨J,S⟩;rw[if_pos J];refine Oper.wpIn_mono ?_ (R r A x a w e C);rintro u q ⟨c,v,y,n,rfl,k,W,V,K⟩;have U:=K.later A;apply L os m _ n y _ q p k ⟨V,Nc.putO (e.env.later U) g W,(Zf _ _ _).trans e.size⟩;intro env2 B m a2 G q2 F I D;exact z env2 B m a2 G q2 F (M.trans (K.trans I)) (D.trans (by cases o.dst<;>rfl));rw[if_neg (by grind)];refine⟨λ_ _=>trivial,L os m _ X x _ w p S ⟨e.sim,Nc.putO e.env g (.tup rfl λ_ _ _ h=>by cases h),(Zf _ _ _).trans e.size⟩ ?_⟩;intro env2 B m a2 G q2 F I D;exact z env2 B m a2 G q2 F (M.trans I) (D.trans (by cases o.dst<;>rfl))
theorem FX{N:Nat}{H:As}{Q:Exit->Env->As->Prop}{id:Nat}{b:Array Oper}(i:Nt N b.toList=true)(h:Tu P N b b.toList u H (Q .normal)):Lr P N (.region id b false) u H Q:=by intro r X g a w s _;refine wpIn_region (lX (List.range b.size) b.toList ?_ u H g a w i h s ?_);apply Mp;grind;intro c d f l m q j k e;exact⟨f,c,d,q,j,k,.same e⟩
open Go.MapKept (IsKey)
def EU.isM:EU->Bool
 | .mp _ _=>true
 | .it _ _=>true
 |_=>false
theorem iv{e:EU}(h:e.isM=true):e.isB=true:=by cases e<;>simp_all[EU.isM,EU.isB]
def Se{α:Type}(n:Int)(v:α):List (Int×α)->List (Int×α)
 |[]=>[(n,v)]
 |p::r=>bif p.1==n then(n,v)::r else p::Se n v r
def PV{α:Type}(n:Int):List (Int×α)->Option α
 |[]=>none
 |p::r=>bif p.1==n then some p.2 else PV n r
def qe{a c:Type}(f:a->c)(n:Int)(v:a): ∀b:List (Int×a),(Se n v b).map (λp=>(p.1,f p.2))=Se n (f v) (b.map λp=>(p.1,f p.2))
 |[]=>rfl
 |p::r=>by simp only[Se,BZ];cases p.1==n<;>simp[qe f n v r]
def qb{b c:Type}(f:b->c)(n:Int): ∀a:List (Int×b),PV n (a.map λp=>(p.1,f p.2))=(PV n a).map f
 |[]=>rfl
 |p::r=>by simp only[PV,BZ];cases p.1==n<;>simp[qb f n r]
section
variable {X:Nat->Prop} {h:Gh} {H:As} {w:World}
theorem Iq.of_extM{a:Gh}{d:World}(s:Iq X h H w)(F:HT h H w a p d)
  (key: ∀(id:Nat) (e:EU),p[id]? =some e->e≠ .dead->(H[id]? =some e/\a.gen id=h.gen id/\a.io id=h.io id/\a.cap id=h.cap id/\ ∀B,h.io id=some B->d.heap[B]? =w.heap[B]?)\/(e.isM=true/\xv a p d id e))
  (inj: ∀(id b:Nat) (e k:EU) (B:Nat),p[id]? =some e->p[b]? =some k->e≠ .dead->k≠ .dead->a.io id=some B->a.io b=some B->id=b):Iq X a p d:=by
 refine s.of_ext' F (λid e n E=>?_) (λid T G j l n f hr=>?_) inj;grind[iv];obtain⟨B,c,v,m,y,z,A,D,C⟩:=s.bld id _ f rfl;rcases key id _ n (by simp)with⟨_,r,t,I,u⟩|⟨e,_⟩;rcases key j _ hr (by simp)with⟨i,J,x,K,L⟩|⟨e,_⟩;refine⟨B,c,v,t.trans m,(u B m).trans y,z,r.trans A,D,λ_=>?_⟩;obtain⟨q1,q2⟩:=C i;refine⟨⟨q1.1,?_⟩,q2.trans x.symm⟩;rcases q1.2 with q|⟨g,cap,o,M,rfl,N,O,P⟩;grind;grind[Value.ownBlock];cases e;cases e
theorem Iq.push_m(s:Iq X h H w)(o:Obj)(cap:Nat)(E:EU)(u:E.isM=true)
  (t:xv (h.at_ H.length (some w.heap.size) 0 cap) (H++[E]) {w with heap:=w.heap.push o} H.length E):
  Iq X (h.at_ H.length (some w.heap.size) 0 cap) (H++[E]) {w with heap:=w.heap.push o}:=by
 refine s.of_extM (HT.push o cap E) (λid e d g=>?_) λid q e r B m n b c k l=>?_;rcases IP d with⟨a,d⟩|⟨rfl,rfl⟩;refine .inl ⟨d,by simp[Gh.at_,BQ a],by simp[Gh.at_,BQ a],by simp[Gh.at_,BQ a],λB f=>?_⟩;have:=s.io_at d g f;grind;grind;rcases IP m with⟨l1,i⟩|⟨rfl,_⟩<;>rcases IP n with⟨l2,j⟩|⟨rfl,_⟩;exact s.inj _ _ _ _ B i j b c (by simpa[Gh.at_,BQ l1]using k) (by simpa[Gh.at_,BQ l2]using l);have p:=s.io_at i b (by simpa[Gh.at_,BQ l1]using k);grind[Gh.at_];have p:=s.io_at j c (by simpa[Gh.at_,BQ l2]using l);grind[Gh.at_];rfl
def Iq.setM(s:Iq X h H w){E E':EU}{o o':Obj}{w':World}(g:H[N]? =some E)(J:E.isM=true)(v:E'.isM=true)(m:h.io N=some n)(K:w.heap[n]? =some o)(A: ∀r,o≠ .loop r)
  (G:w'.heap=w.heap.setIfInBounds n o') (C:w'.os=w.os) (B:w'.tape=w.tape) (M:w'.output=w.output) (x:xv h (H.set N E') w' N E'):
  Iq X h (H.set N E') w'/\HT h H w h (H.set N E') w':=by
 have d:N<H.length:=by rcases Ap N H.length with f|f;exact f;rw[Cs f]at g;cases g
 have b:E≠ .dead:=by rintro rfl;cases J
 have O: ∀k,k≠n->w'.heap[k]? =w.heap[k]? :=λk h=>by rw[G];simp[Ne.symm h]
 have own: ∀k,owned h (H.set N E') k->owned h H k:=by rintro k ⟨i,e,j,c,f⟩;rcases Io d j with⟨y,a⟩|⟨rfl,_⟩;exact⟨i,e,a,c,f⟩;exact⟨i,E,g,b,f⟩
 have I:HT h H w h (H.set N E') w':=by refine⟨C,B,M,by rw[G];simp,λk _ hn=>O k λe=>hn ⟨N,E,g,b,by rw[e];exact m⟩,by simp,λ_ _=>Ak _,λ_ _ _=>⟨rfl,rfl⟩,λk O=>.inl (own k O),λk r hr=>⟨r,?_⟩⟩;refine(O k λe=>?_).trans hr;subst e;rw[K]at hr;injection hr with hr;exact A r hr
 refine⟨s.of_extM I (λi e j c=>?_) (λi D e F k j f p q t u=>?_),I⟩;rcases Io d j with⟨y,a⟩|⟨rfl,rfl⟩;refine .inl ⟨a,rfl,rfl,rfl,λk z=>O k λe=>?_⟩;subst e;exact y (s.inj i N _ _ k a g c b z m);exact .inr ⟨v,x⟩;rcases Io d j with⟨y,a⟩|⟨rfl,rfl⟩<;>rcases Io d f with⟨L,l⟩|⟨rfl,rfl⟩;exact s.inj i D e F k a l p q t u;exact s.inj i D e E k a g p b t u;exact s.inj i D E F k g l b q t u;rfl
end
def fb{k:IntKind}{n:Int}: ∀(l:List MapEntry) (a:List (Int×AV)) (i:Nat),l.length=a.length→(∀(j:Nat) (p:Int×AV),a[j]? =some p→ ∃e:MapEntry,l[j]? =some e∧e.key= .int k p.1)→
  (Instr.findNow (.int k) (.int k n) l i=some none/\PV n a=none/\ ∀v,Se n v a=a++[(n,v)])\/∃j e p,Instr.findNow (.int k) (.int k n) l i=some (some (i+j,e.val))/\l[j]? =some e/\a[j]? =some p/\e.key= .int k n/\PV n a=some p.2/\ ∀v,Se n v a=a.set j (n,v)
 |[],[],_,_,_=>.inl ⟨rfl,rfl,λ_=>rfl⟩
 |[],_::_,_,hl,_=>by simp at hl
 |_::_,[],_,hl,_=>by simp at hl
 |e::l,p::a,i,hl,h=>by
  obtain⟨z,o,r⟩:=h 0 p rfl;simp only[YL,Ai]at o;subst o;have m:Instr.sameNow (.int k) (.int k n) e.key=some (n==p.1):=by rw[r];simp[Instr.sameNow]
  by_cases hn:p.1=n;refine .inr ⟨0,e,p,?_,rfl,rfl,by rw[r,hn],?_,λv=>?_⟩;simp[Instr.findNow,m,hn];simp[PV,hn];simp[Se,hn];have c:(n==p.1)=false:=by simp;exact λe=>hn e.symm
  have b:(p.1==n)=false:=by simpa using hn
  rcases fb (k:=k) (n:=n) l a (i+1) (by simpa using hl) (λj q x=>by simpa using h (j+1) q (by simpa using x))with⟨d,f,g⟩|⟨j,s,y,d,f,g,t,u,w⟩;exact .inl ⟨by simp[Instr.findNow,m,c,d],by simp[PV,b,f],λv=>by simp[Se,b,g]⟩;exact .inr ⟨j+1,s,y,by simp[Instr.findNow,m,c,d];omega,by simpa using f,by simpa using g,t,by simp[PV,b,u],λv=>by simp[Se,b,w]⟩
section
variable {P:Program} {N:Nat} {o:Oper} {env:Env} {H:As} {K:AV->As->Prop}
def Ip.makeMap(k:IntKind)(c:o.op= .makeMap a none)(e:K (.mp H.length) (H++[.mp k []])):Ip P N o env H K:=by
 apply Cu (by rw[c];rfl);intro X h t w s Q;have b:(execOp t.eval o).run P w= .ok (.value (.map (some w.heap.size))) {w with heap:=w.heap.push (.map #[] 0)}:=by unfold execOp;rw[c];rfl
 unfold Oper.wp;rw[b,Oper.upon_value];refine⟨_,_,_,_,rfl,e,?_,s.sim.push_m (.map #[] 0) 0 (.mp k []) rfl ⟨w.heap.size, #[],by simp[Gh.at_],by simp[Gh.at_],by simp,rfl,λj p d=>by simp at d⟩,HT.push _ _ _⟩;exact .mp (by simp[cx]) rfl λ_=>⟨w.heap.size,by simp[cx,Gh.at_],rfl⟩
def w8(x:St A h N env H M w)(u:BA env c= .mp n)(r:H[n]? =some (.mp s J)):
  ∃(B:Nat) (b:Array MapEntry),M.eval c= .map (some B)/\h.io n=some B/\h.gen n=0/\w.heap[B]? =some (.map b b.size)/\b.size=J.length/\∀(j:Nat) (p:Int×AV),J[j]? =some p-> ∃e:MapEntry,b[j]? =some e/\e.born=j/\e.key= .int s p.1/\ ∀c,Bf c p.2 e.val:=by
 have g:=DO x.env c;rw[u]at g;obtain⟨B,b,i,l,m,X,o⟩:=x.sim.bld n _ r rfl;generalize M.eval c=a at g;cases g with
 |mp t y q=>obtain⟨v,d,rfl⟩:=q l;rw[show(cx A h H w).io n=h.io n from rfl,i]at d;injection d with d;subst d;exact⟨B,b,rfl,i,l,m,X,o⟩
def wg(x:St X h N env H M w)(d:BA env c= .int s B):M.eval c= .int s B:=by have b:=DO x.env c;rw[d]at b;generalize M.eval c=a at b;cases b;rfl
theorem Ip.mapUpdate{t U et:TypeId}{m I A:Operand}{id:Nat}{k:IntKind}{es:List (Int×AV)}{n:Int}{v:AV}(S:o.op= .mapUpdate t m I A)(hm:BA env m= .mp id)(G:BA env I= .int k n)
  (hp: ∀(x:Cx) (c:Value),Bf x (BA env A) c-> ∀y,Bf y v c) (T:P.underlying t=some (.map U et)) (l:P.underlying U=some (.int k)) (E:H[id]? =some (.mp k es)) (R:K .any (H.set id (.mp k (Se n v es)))):Ip P N o env H K:=by
 apply Cu (by rw[S];rfl);intro X h a w s Q;obtain⟨B,b,q1,q2,q3,q4,q5,q6⟩:=w8 s hm E;have V:=wg s G;have W:=hp _ _ (DO s.env A);generalize u:a.eval A=c at W;have al:id<H.length:=by grind
 have f:IsKey (.int k) (.int k n):=rfl;have q:B<w.heap.size:=(gE.1 q4).1;have z:execOp a.eval o=(do Instr.mapUpdate t (a.eval m) (a.eval I) (a.eval A);pure .skip):=by unfold execOp;rw[S]
 rcases fb (n:=n) (k:=k) b.toList es 0 (by grind) (λj p d=>by obtain⟨e,Z,_,C,_⟩:=q6 j p d;exact⟨e,by grind,C⟩)with⟨D,M,O⟩|⟨j,Y,p0,D,M,O,h4,h5,h6⟩;have g:(execOp a.eval o).run P w= .ok .skip {w with heap:=w.heap.setIfInBounds B (.map (b.push {key:=.int k n,val:=c,born:=b.size}) (b.size+1))}:=by rw[z,q1,V,u];simp[Instr.mapUpdate,run_underlying T,MapKept.run_getObj_map q4,MapKept.run_checkKey l f,MapKept.run_findKey l D,MapKept.run_setObj_map _ q4]
 unfold Oper.wp;rw[g,Oper.upon_skip];obtain⟨J,L⟩:=s.sim.setM (E':=.mp k (Se n v es)) (o':=.map (b.push {key:=.int k n,val:=c,born:=b.size}) (b.size+1))
  (w':={w with heap:=w.heap.setIfInBounds B (.map (b.push {key:=.int k n,val:=c,born:=b.size}) (b.size+1))}) E rfl rfl q2 q4 (λr e=>by cases e) rfl rfl rfl rfl (by refine⟨B,b.push {key:=.int k n,val:=c,born:=b.size},q2,q3,by simp[q],by grind,λj p d=>?_⟩;rw[O]at d;rcases O7 j es.length with ax|rfl|ad;grind;rw[Cr (Ak _),IU]at d;simp only[YL,Ai]at d;subst d;exact⟨{key:=.int k n,val:=c,born:=b.size},by grind,q5,rfl,W⟩;rw[Cs (by simp;omega)]at d;cases d)
 exact⟨_,_,_,_,rfl,R,.any _,J,L⟩;have d:b[j]? =some Y:=by simpa using M
 have ar:j<b.size:=(gE.1 d).1;have g:(execOp a.eval o).run P w= .ok .skip {w with heap:=w.heap.setIfInBounds B (.map (b.modify j λe=>{e with key:=.int k n,val:=c}) b.size)}:=by rw[z,q1,V,u];simp[Instr.mapUpdate,run_underlying T,MapKept.run_getObj_map q4,MapKept.run_checkKey l f,MapKept.run_findKey l D,d,h4,MapKept.run_keyThatStays f,MapKept.run_setObj_map _ q4]
 unfold Oper.wp;rw[g,Oper.upon_skip];obtain⟨J,L⟩:=s.sim.setM (E':=.mp k (Se n v es)) (o':=.map (b.modify j λe=>{e with key:=.int k n,val:=c}) b.size)
  (w':={w with heap:=w.heap.setIfInBounds B (.map (b.modify j λe=>{e with key:=.int k n,val:=c}) b.size)}) E rfl rfl q2 q4 (λr e=>by cases e) rfl rfl rfl rfl (by refine⟨B,b.modify j λe=>{e with key:=.int k n,val:=c},q2,q3,by simp[q],by grind,λi p F=>?_⟩;rw[h6,Uv]at F;split at F;grind;rename_i ap;obtain⟨e,Z,C⟩:=q6 i p F;exact⟨e,by grind,C⟩)
 exact⟨_,_,_,_,rfl,R,.any _,J,L⟩
def uR(P:Program)(t:TypeId):Option (List AV):=
 match (P.info? t).bind (·.zero)with
 |some (.agg cs)=>if cs.toList.all (·.oneCell')then some (cs.toList.map jr)else none
 |_=>none
theorem vW(h:uR P a=some i)(w:World): ∃v,(zeroValue a).run P w= .ok v w/\ ∀x,Bf x (.agg i) v:=by unfold uR at h;split at h;rename_i b t;split at h;rename_i c;obtain⟨z,d,t⟩:=Dq.1 t;refine⟨.agg b,by simp[zeroValue,typeInfo,d,t],λx=>?_⟩;have:=py x (.agg b);grind[uh];cases h;cases h
theorem Ip.lookup{id:Nat}{k:IntKind}{es:List (Int×AV)}{n:Int}{z:List AV}(R:o.op= .lookup a c L true)(hm:BA env c= .mp id)(F:BA env L= .int k n)
  (S:P.underlying a=some (.map G Z)) (f:P.underlying G=some (.int k)) (hz:uR P Z=some z) (he:H[id]? =some (.mp k es))
  (hk:K (.tup [(PV n es).getD (.agg z),.bool (PV n es).isSome]) H):Ip P N o env H K:=by
 apply Cu (by rw[R];rfl);intro X h U w s Q;obtain⟨B,l,q1,q2,q3,q4,q5,q6⟩:=w8 s hm he;have W:=wg s F;have g:IsKey (.int k) (.int k n):=rfl;have x:execOp U.eval o=(do pure (.value (<-Instr.lookup a (U.eval c) (U.eval L) true))):=by unfold execOp;rw[R]
 have r: ∀(m:Value) (v:AV) (b:Bool),(execOp U.eval o).run P w= .ok (.value (.tuple #[m,.bool b])) w→Bf (cx X h H w) v m→K (.tup [v,.bool b]) H→
   Oper.wp P o U w (λY I=> ∃m v D A,Y=U.put o.dst m/\K v A/\Bf (cx X D A I) v m/\Iq X D A I/\HT h H w D A I) Q:=by
  intro m v b y T hK;unfold Oper.wp;rw[y,Oper.upon_value];refine⟨_,_,h,H,rfl,hK,.tup (by simp) λj u d i O=>?_,s.sim,HT.refl _ _ _⟩;rcases j with _|_|j;grind;simp at i O;subst i O;exact .bool b;grind
 rcases fb (n:=n) (k:=k) l.toList es 0 (by grind) (λj p i=>by obtain⟨e,q,_,C,_⟩:=q6 j p i;exact⟨e,by grind,C⟩)with⟨E,t,M⟩|⟨j,J,V,E,t,M,h4,h5,h6⟩;obtain⟨v,T,hr⟩:=vW hz w;refine r v (.agg z) false ?_ (hr _) (by grind);rw[x,q1,W];simp[Instr.lookup,run_underlying S,MapKept.run_getObj_map q4,MapKept.run_checkKey f g,MapKept.run_findKey f E,T];obtain⟨e',q,_,_,C⟩:=q6 j V M;have i:l[j]? =some J:=by grind
 rw[i]at q;injection q with q;subst q;refine r J.val V.2 true ?_ (C _) (by grind);rw[x,q1,W];simp[Instr.lookup,run_underlying S,MapKept.run_getObj_map q4,MapKept.run_checkKey f g,MapKept.run_findKey f E]
theorem Ip.range{id:Nat}{k:IntKind}{es:List (Int×AV)}(d:o.op= .range a c)(j:BA env c= .mp id)(l:P.underlying a=some (.map G Z))(g:H[id]? =some (.mp k es))
  (i:K (.itp H.length id) (H++[.it es.length []])):Ip P N o env H K:=by
 apply Cu (by rw[d];rfl);intro X h n w s Q;obtain⟨B,e,q1,q2,q3,q4,q5,q6⟩:=w8 s j g;have t:id<H.length:=by grind
 have b:(execOp n.eval o).run P w= .ok (.value (.pointer (some ⟨w.heap.size,0,none⟩))) {w with heap:=w.heap.push (.mapIter (some B) es.length #[] es.length)}:=by unfold execOp;rw[d];simp only[q1];simp[Instr.range,run_underlying l,MapKept.run_getObj_map q4,newObj,q5];rfl
 unfold Oper.wp;rw[b,Oper.upon_value];refine⟨_,_,_,_,rfl,i,?_,s.sim.push_m (.mapIter (some B) es.length #[] es.length) B (.it es.length []) rfl ⟨w.heap.size,by simp[Gh.at_],by simp[Gh.at_],by simp[Gh.at_]⟩,HT.push _ _ _⟩;exact .itp (by simp[cx]) (by simp[cx];omega) rfl λ_=>⟨w.heap.size,by simp[cx,Gh.at_],rfl,λ_=>by simp[cx,Gh.at_,BQ t,q2]⟩
def z6{m:Nat}(k:St A h N env H M w)(F:BA env c= .itp U m)(D:H[U]? =some (.it n O))(C:H[m]? =some (.mp s J)):
  ∃(B f:Nat) (b:Array MapEntry),M.eval c= .pointer (some ⟨B,0,none⟩)/\h.io U=some B/\h.gen U=0/\w.heap[B]? =some (.mapIter (some f) n O.toArray n)/\h.cap U=f/\w.heap[f]? =some (.map b b.size)/\b.size=J.length/\∀(j:Nat) (p:Int×AV),J[j]? =some p-> ∃e:MapEntry,b[j]? =some e/\e.born=j/\e.key= .int s p.1/\ ∀c,Bf c p.2 e.val:=by
 have l:=DO k.env c;rw[F]at l;obtain⟨B,o,q,r⟩:=k.sim.bld U _ D rfl;obtain⟨f,b,t,u,v,y,z⟩:=k.sim.bld m _ C rfl;generalize M.eval c=a at l;cases l with
 |itp E x I X=>obtain⟨G,g,rfl,d⟩:=X q;rw[show(cx A h H w).io U=h.io U from rfl,o]at g;injection g with g;subst g;have d:=d u;rw[show(cx A h H w).io m=h.io m from rfl,t]at d;injection d with d;have d:f=h.cap U:=d;subst d;exact⟨B,_,b,rfl,o,q,r,rfl,v,y,z⟩
theorem Ip.next{x:Operand}{id m:Nat}{k:IntKind}{es:List (Int×AV)}{seen:List Nat}(ho:o.op= .next x false)(hx:BA env x= .itp id m)(f:H[id]? =some (.it es.length seen))(he:H[m]? =some (.mp k es))
  (z:(∀j,j<es.length->j∈seen)->K (.tup [.bool false]) H)
  (C: ∀(j:Nat) (p:Int×AV),es[j]? =some p->j∉seen->K (.tup [.bool true,.int k p.1,p.2]) (H.set id (.it es.length (seen++[j])))):Ip P N o env H K:=by
 apply Cu (by rw[ho];rfl);intro X h a w s Q;obtain⟨B,v,c,q1,q2,q3,q4,qc,q5,q6,q7⟩:=z6 s hx f he;have ar:execOp a.eval o=(do pure (.value (<-Instr.next (a.eval x) false o.type))):=by unfold execOp;rw[ho]
 have y: ∀(j:Nat) (e:MapEntry),c[j]? =some e->e.born=j/\j<es.length:=by
  intro j e q;have I:j<es.length:=by grind[Array.getElem?_eq_some_iff]
  obtain⟨e',E,T,_⟩:=q7 j _ (Az I);rw[q]at E;injection E with E;subst E;exact⟨T,I⟩
 have t: ∀e∈c.toList,e.born<es.length:=λe A=>by grind[List.getElem?_of_mem]
 have M:w.heap[B]? =some (.mapIter (some v) es.length seen.toArray es.length):=q4;generalize V:Array.filter (λe:MapEntry=>!seen.toArray.contains e.born) c=L;have G: ∀e∈L.toList,e∈c.toList/\e.born∉seen:=λe A=>by rw[<-V]at A;simpa using A
 have E:L.filter (λx=>decide (x.born<es.length))=L:=Array.filter_eq_self.2 (λx hx=>by simpa using t x (G x (by simpa using hx)).1);have T:L.filter (λx=>decide (x.born>=es.length))= #[]:=by grind[Array.filter_eq_empty_iff]
 have D:(Instr.next (.pointer (some ⟨B,0,none⟩)) false o.type).run P w=((do
   let b:=(if L.isEmpty then #[none]else #[])++L.map some;match b[<-choose (.mapNext b.size)]? with
   |some (some e)=>
    setObj B (.mapIter (some v) es.length (seen.toArray.push e.born) c.size)
    pure (.tuple #[.bool true,e.key,e.val])
   |some none=>pure (.tuple #[.bool false])
   |none=>stuck "Next: no such candidate"):Sem Value).run P w:=by
  simp only[Instr.next,getObj,Sem.run_bind,Sem.run,M,q5,Result.andThen,next_test_false seen.toArray c es.length es.length t (Ak _),Iz,if_false,V,E,T,Array.append_empty];rfl
 by_cases h0:L.size=0;have W:L= #[]:=Array.eq_empty_of_size_eq_zero h0;subst W;have g:(execOp a.eval o).run P w= .ok (.value (.tuple #[.bool false])) w:=by simp_all[Sem.run_bind,Sem.run,Question.forced]
 unfold Oper.wp;rw[g,Oper.upon_value];refine⟨_,_,h,H,rfl,z λj q=>?_,.tup (by simp) λi u d f n=>?_,s.sim,HT.refl _ _ _⟩;obtain⟨e,O,R,_⟩:=q7 j _ (Az q);rcases Classical.em (j∈seen)with U|U;exact U;have:e∈(Array.filter (λe:MapEntry=>!seen.toArray.contains e.born) c).toList:=by have A:e∈c:=nC O;simp[A,R,U]
 rw[V]at this;simp at this;rcases i with _|i;simp at f n;subst f n;exact .bool false;simp at f;have a0:L.isEmpty=false:=by simp[Array.isEmpty,h0]
 obtain⟨i,l,ax,Y,Z,ad,al,ap⟩: ∃(i:Nat) (l:World),i<L.size/\l.heap=w.heap/\l.os=w.os/\l.output=w.output/\l.tape=w.tape/\(choose (Question.mapNext L.size)).run P w= .ok i l:=by by_cases hf:L.size<=1;exact⟨0,w,by omega,rfl,rfl,rfl,rfl,by simp[choose,Sem.run,Question.forced,hf]⟩;exact⟨_,w.drew,Nat.mod_lt _ (by omega),rfl,rfl,rfl,rfl,by simp only[choose,Sem.run,Question.forced,decide_eq_true_eq,hf,if_false,Question.cut];rfl⟩
 have A:L[i]∈L.toList:=by simp
 obtain⟨m1,m2⟩:=G _ A;obtain⟨j,q⟩:=Eu m1;have q:c[j]? =some L[i]:=by simpa using q
 obtain⟨O,R⟩:=y j _ q;obtain⟨e,S,c2,c3,c4⟩:=q7 j _ (Az R);rw[q]at S;injection S with S;subst S;have F:B<w.heap.size:=(gE.1 q4).1;have g:(execOp a.eval o).run P w= .ok (.value (.tuple #[.bool true,.int k es[j].1,L[i].val])) {l with heap:=w.heap.setIfInBounds B (.mapIter (some v) es.length (seen++[j]).toArray es.length)}:=by
  rw[ar,q1,Sem.run_bind,D];simp only[a0,Iz,if_false,Array.empty_append,Array.size_map,Sem.run_bind,ap,Result.andThen_ok,YM,PA ax,Be];have J:(setObj B (.mapIter (some v) es.length (seen.toArray.push L[i].born) c.size)).run P l= .ok () {l with heap:=w.heap.setIfInBounds B (.mapIter (some v) es.length (seen++[j]).toArray es.length)}:=by simp[setObj,Sem.run,Y,M,O,q6]
  simp only[J,Result.andThen_ok,Sem.run_pure,c3]
 unfold Oper.wp;rw[g,Oper.upon_value];obtain⟨s1,s2⟩:=s.sim.setM (E':=.it es.length (seen++[j])) (o':=.mapIter (some v) es.length (seen++[j]).toArray es.length) (w':={l with heap:=w.heap.setIfInBounds B (.mapIter (some v) es.length (seen++[j]).toArray es.length)}) f rfl rfl q2 q4 (λr e=>by cases e) rfl Z al ad
  ⟨B,q2,q3,by simp[F,qc]⟩
 refine⟨_,_,_,_,rfl,C j _ (Az R) (by rw[<-O];exact m2),.tup (by simp) λi u d f n=>?_,s1,s2⟩;rcases i with _|_|_|i;simp at f n;subst f n;exact .bool true;simp at f n;subst f n;exact .int _ _;simp at f n;subst f n;exact c4 _;simp at f
theorem Ip.entry{x:Operand}{id m j:Nat}{k:IntKind}{es:List (Int×AV)}{seen:List Nat}{p:Int×AV}(l:o.op= .entry x)(A:BA env x= .itp id m)(f:H[id]? =some (.it es.length (seen++[j])))(r:H[m]? =some (.mp k es))
  (v:es[j]? =some p) (y:K (.tup [.int k p.1,p.2]) H):Ip P N o env H K:=by
 apply Cu (by rw[l];rfl);intro X h a w s Q;obtain⟨B,C,b,q1,q2,q3,q4,J,q5,q6,q7⟩:=z6 s A f r;obtain⟨e,D,n,q,E⟩:=q7 j p v;have t:b.find? (λx=>x.born==j)=some e:=by
  rw[<-Array.find?_toList,<-n];refine find_born e b.toList ?_ (by grind);have I:b.toList.map (·.born)=List.range b.size:=by refine Mp λi=>?_;rw[CL,PX];rcases Ap i b.size with z|z;obtain⟨e,F,G,_⟩:=q7 i _ (Az (by omega:i<es.length));grind;grind
  grind
 have c:(execOp a.eval o).run P w= .ok (.value (.tuple #[.int k p.1,e.val])) w:=by unfold execOp;rw[l];simp only[q1];simp[Instr.entry,getObj,Sem.run,q4,q5,q6,t,q]
 unfold Oper.wp;rw[c,Oper.upon_value];refine⟨_,_,h,H,rfl,y,.tup (by simp) λi u d f g=>?_,s.sim,HT.refl _ _ _⟩;rcases i with _|_|i;simp at f g;subst f g;exact .int _ _;grind;grind
end
mutual
def Ty.flat:Ty->Bool
 | .list _=>false
 | .arr _ t=>t.flat
 | .prod ts=>ts.flat
 |_=>true
def QH.flat:QH->Bool
 | .one t=>t.flat
 | .cons t ts=>t.flat&&ts.flat
end
def Plain(v:AV):Prop:= ∀(x:Cx) (c:Value),Bf x v c-> ∀y,Bf y v c
theorem Plain.agg{a:List AV}(h: ∀v∈a,Plain v):Plain (.agg a):=λx c r y=>by
 cases r with
 |agg e f i=>exact .agg e f λj v d b g=>h v (BJ b) x d (i j v d b g) y
mutual
theorem Ty.plain_cells: ∀(t:Ty),t.flat=true-> ∀x:t.D,∀v∈(t.enc x).cells,Plain v
 | .bool,_,b,v,d=>by simp only[Ty.enc,AV.cells,A3]at d;subst d;exact λ_ c r y=>by cases r;exact .bool _
 | .int k,_,n,v,d=>by simp only[Ty.enc,AV.cells,A3]at d;subst d;exact λ_ c r y=>by cases r;exact .int _ _
 | .str,_,s,v,d=>by
  simp only[Ty.enc,AV.cells,A3]at d;subst d;exact λ_ c r y=>by
   cases r with
   |str t e=>exact .str t e
 | .list t,h,_,_,_=>by cases h
 | .arr n t,h,a,v,d=>by simp only[Ty.enc,AV.cells,HX]at d;obtain⟨i,_,d⟩:=d;exact t.plain_cells h _ v d
 | .prod ts,h,x,v,d=>ts.plain_cells h x v d
theorem QH.plain_cells: ∀(b:QH),b.flat=true-> ∀x:b.D,∀v∈b.cells x,Plain v
 | .one t,h,x,v,a=>t.plain_cells h x v a
 | .cons t b,h,x,v,a=>by simp only[QH.flat,BO]at h;simp only[QH.cells,Ar]at a;rcases a with a|a;exact t.plain_cells h.1 _ v a;exact b.plain_cells h.2 _ v a
end
theorem Ty.plain(t:Ty)(h:t.flat=true)(x:t.D):Plain (t.enc x):=by have a:=t.plain_cells h x;cases t<;>grind[Plain.agg,Ty.enc,AV.cells]
section
variable {R:Type}
def mH(P:Program)(H:Am)(t:TypeId)(k:TV->Am->Option R):Option R:=
 match P.underlying t with
 |some (.map kt et)=>
  match P.underlying kt,tG P 1000 et with
  |some (.int kk),some ty=>k (.c (.raw (.mp H.length))) (H++[.mp false kk ty []])
  |_,_=>none
 |_=>none
def fi(P:Program)(H:Am)(t:TypeId)(m kx v:TV)(k:TV->Am->Option R):Option R:=
 match P.underlying t with
 |some (.map kt _)=>
  match m,kx with
  | .c (.raw (.mp id)),.c (.it kk n)=>
   match P.underlying kt,H[id]? with
   |some (.int k1),some (.mp false k2 ty es)=>
    if k1=kk/\k2=kk then
     match ty.flat with
     |true=>match ty.data v with|some x=>k Sf (H.set id (.mp false k2 ty (Se n x es)))|none=>none
     |false=>none
    else none
   |_,_=>none
  |_,_=>none
 |_=>none
def o6(P:Program)(H:Am)(t:TypeId)(m kx:TV)(k:TV->Am->Option R):Option R:=
 match P.underlying t with
 |some (.map kt et)=>
  match m,kx with
  | .c (.raw (.mp id)),.c (.it kk n)=>
   match P.underlying kt,H[id]?,uR P et with
   |some (.int k1),some (.mp _ k2 ty es),some z=>
    if k1=kk/\k2=kk then
     match ty.isAgg&&AV.beqL z (ty.enc ty.zero).cells with
     |true=>k (.tup [ty.tv ((PV n es).getD ty.zero),.c (.bl (PV n es).isSome)]) H
     |false=>none
    else none
   |_,_,_=>none
  |_,_=>none
 |_=>none
variable {P:Program} {N:Nat} {o:Oper} {env:BS} {H:Am} {k:TV->Am->Option R} {r:R}
theorem mI(ok:O0 env H)(b:o.op= .makeMap a none)(h:mH P H a k=some r): ∀F,iC P N o env H F k r:=by intro F;unfold mH at h;split at h;split at h;rename_i t d _ _;have c:B4 H (H++[.mp false t d []]):=B4.push H _;refine⟨_,_,Ip.makeMap t b ⟨?_,?_⟩,h,JR trivial,OS ok.heap trivial,c,Frame.push F H _⟩;show AV.mp (A6 H).length=AV.mp H.length;rw[CR];rw[Pd];rfl;cases h;cases h
def jM{w:Operand}(ok:O0 env H)(F:o.op= .mapUpdate a c L w)(h:fi P H a (Ir env c) (Ir env L) (Ir env w) k=some r):iC P N o env H (List.range H.length) k r:=by
 have b:=KG env;unfold fi at h;split at h;rename_i t J G;split at h;rename_i id K n E D;split at h;rename_i k1 q m d g i;split at h;rename_i f;obtain⟨A,B⟩:=f;subst A B;split at h;rename_i e;split at h;rename_i x I;have u:B4 H (H.set id (.mp false q m (Se n x d))):=B4.set i rfl λ_ _ _ _ _ h=>by cases h
 refine⟨Sf,_,Ip.mapUpdate (id:=id) (k:=q) (n:=n) (v:=m.enc x) (es:=d.map λp=>(p.1,m.enc p.2)) F (by rw[b,E];rfl) (by rw[b,D];rfl) (λy s l z=>?_) G g (by rw[FA,i];rfl) ⟨rfl,?_⟩,h,bZ,SO u ok.heap trivial,u,λj C hn=>(hn (IT.2 C)).elim⟩;rw[b]at l;exact m.plain e x y s (LM I y s l) z;rw[Mv,<-qe];rfl;cases h;cases h;cases h;cases h;cases h;cases h
theorem m6(ok:O0 env H)(y:o.op= .lookup a c L true)(h:o6 P H a (Ir env c) (Ir env L) k=some r): ∀F,iC P N o env H F k r:=by
 intro F;have g:=KG env;unfold o6 at h;split at h;rename_i G D A;split at h;rename_i id E n w u;split at h;rename_i k1 ro C j b z e s B;split at h;rename_i d;obtain⟨l,q⟩:=d;subst l q;split at h;rename_i m;simp at m;have f:=Zw _ _ m.2;refine⟨_,H,Ip.lookup (id:=id) (k:=C) (n:=n) (z:=z) (es:=b.map λp=>(p.1,j.enc p.2)) y (by rw[g,w];rfl) (by rw[g,u];rfl) A e B (by rw[FA,s];rfl) ⟨?_,rfl⟩,h,Ph λv t=>?_,ok.heap,B4.refl H,Frame.refl F H⟩;rw[qb];show _=AV.tup [(j.tv _).enc,_];rw[Ty.tv_enc];cases PV n b with
 |none=>rw[f];rw[<-Ty.agg_enc m.1];rfl
 |some x=>rfl
 rcases An.1 t with rfl|t;exact Ty.tv_ok _ _;simp at t;subst t;exact JR trivial;cases h;cases h;cases h;cases h;cases h
end
inductive Tgt where
 |fn (F:FuncId)
 |yd (id:Nat)
abbrev Q9:= ∀{R:Type},Tgt->List TV->Am->(TV->Am->Option R)->Option R
def bJ(ops:Array Oper)(g:Option (Nat×Bool))(env:BS):Option Bool:=
 match g with
 |none=>some true
 |some (j,want)=>
  match (ops[j]?).bind (·.dst)with
  |some d=>match env.get d with| .c (.bl b)=>some (b==want)| .tup []=>some false|_=>none
  |none=>none
def KC:List Ba->List Nat
 |[]=>[]
 | .own id _ _ _::r=>id::KC r
 |_::r=>KC r
def behind(H:Am)(v:TV):List Nat:=
 match v with
 | .c (.raw (.ptr id 0 0))=>match H[id]? with|some (.live false cs)=>KC cs|_=>[]
 |v=>KC v.refs
def Hz:List Nat->BS->Am->BS×Am
 |[],env,H=>(env,H)
 |id::r,env,H=>match frz id env H with|some (e,h)=>Hz r e h|none=>Hz r env H
def jv:List SW->FuncId->Option SW
 |[],_=>none
 |c::r,F=>match Nat.beq c.f F with|true=>some c|false=>jv r F
def dp(env:BS)(op:Op):Option (FuncId×List TV):=
 match op with
 | .call c=>
  match c.callee with
  | .value f=>match Ir env f with| .c (.raw (.fn (.func F) first caps))=>some (F,first.map vc++c.args.toList.map (Ir env)++caps.map vc)|_=>none
  |_=>none
 |_=>none
def mh(env:BS)(c:Call):Option (Nat×List TV):=
 match c.callee with
 | .value f=>match Ir env f with| .c (.raw (.yf id))=>some (id,c.args.toList.map (Ir env))|_=>none
 |_=>none
def er(cs:List SW)(env:BS)(H:Am)(op:Op):List Nat:=
 match op with
 | .call c=>
  match dp env (.call c)with
  |some (F,vs)=>match jv cs F with|some ct=>(ACW ct vs).flatMap (behind H)|none=>[]
  |none=>[]
 | .buildSlice _ _ parts=>parts.toList.flatMap λp=>KC (Ir env p.2).refs
 | .store _ a v=>match Ir env a with| .aptr .. =>KC (Ir env v).refs| .bptr .. =>KC (Ir env v).refs|_=>[]
 | .slice _ x _ _ _=>KC (Ir env x).refs
 |_=>[]
def TY(H H':Am):Am:=H++H'.drop H.length
def isNil:List R->Bool
 |[]=>true
 |_=>false
section
variable {R:Type}
def od(cs:List SW)(env:BS)(H:Am)(op:Op):List Nat:=
 match op with
 | .store _ a _=>yy (Ir env a)
 | .mapUpdate .. =>List.range H.length
 | .call c=>
  match dp env (.call c)with
  |some (F,vs)=>match jv cs F with|some ct=>ya ct vs|none=>(match isNil vs with|true=>[]|false=>List.range H.length)
  |none=>
   match mh env c with
   |some _=>List.range H.length
   |none=>match c with|{callee:=.builtin .append,args:=⟨[s,_]⟩,.. }=>yy (Ir env s)|_=>[]
 |_=>[]
def qD(P:Program)(cs:List SW)(call:Q9)(env:BS)(H:Am)(op:Op)(k:TV->Am->Option R):Option R:=
 match op with
 | .alloc t=>rU P H t k
 | .box _ x=>yP H (Ir env x) k
 | .store t a v=>storeT P H t (Ir env a) (Ir env v) k
 | .buildSlice t len parts=>Wb P env H t len parts k
 | .makeSlice t x y=>bM P H t (Ir env x) (Ir env y) k
 | .makeMap t none=>mH P H t k
 | .mapUpdate t m x y=>fi P H t (Ir env m) (Ir env x) (Ir env y) k
 | .lookup t m x true=>o6 P H t (Ir env m) (Ir env x) k
 | .convert s d x=>
  match kd P d with
  | .bytes=>mf P H s d (Ir env x) k
  |_=>zT P env H (.convert s d x) λv=>k v H
 | .call c=>
  match dp env (.call c)with
  |some (F,vs)=>
   match Zk P F with
   |true=>
    match jv cs F with
    |some ct=>tR ct vs H k
    |none=>match isNil vs with|true=>call (.fn F) [] (H.map Dl.lock) λv H'=>k v (TY H H')|false=>call (.fn F) vs H k
   |false=>none
  |none=>
   match mh env c with
   |some (id,vs)=>call (.yd id) vs H k
   |none=>
    match c with
    |{callee:=.builtin .append,args:=⟨[s,x]⟩,argTypes:=⟨[t,t']⟩}=>match Nat.beq t t' with|true=>kT P H t (Ir env s) (Ir env x) k|false=>none
    |c=>zT P env H (.call c) λv=>k v H
 |op=>zT P env H op λv=>k v H
def force(f:Bool)(v:TV)(k:TV->Option R):Option R:=
 match f with
 |true=>match v with| .c (.bl b)=>cond b (k (.c (.bl true))) (k (.c (.bl false)))|v=>k v
 |false=>k v
def guards(ops:Array Oper):List Nat:=ops.toList.filterMap λo=>o.guard.map (·.1)
def NU(j:Nat):List Nat->Bool
 |[]=>false
 |i::r=>match Nat.beq i j with|true=>true|false=>NU j r
def AAr{α:Type}(l:List α)(i:Int)(z:α):Option (List α):=if 0<=i/\i<=(l.length:Int)then some (l.take i.toNat++List.replicate (l.length-i.toNat) z)else none
def tU(o1 o2:Oper):Option (Nat×TypeId×Operand×Operand):=
 match o1.dst,o1.op,o1.guard,o2.dst,o2.op,o2.guard with
 |some d,.slice t x (some lo) none none,none,none,.call {callee:=.builtin .clear,args:=⟨[.tmp d']⟩,argTypes:=⟨[t']⟩},none=>match Nat.beq d d'&&Nat.beq t t' with|true=>some (d,t,x,lo)|false=>none
 |_,_,_,_,_,_=>none
def AAg(P:Program)(H:Am)(t:TypeId)(x lo:TV)(k:Am->Option R):Option R:=
 match x,lo with
 | .c (.own id ver _ _),.c (.it _ i)=>
  match H[id]? with
  |some (.buf false t2 l n2 ver2)=>
   match Nat.beq ver ver2,ym P t,eI P t with
   |true,some te,some (none,e,_)=>
    if h:(Ty.list t2).beq (Ty.list te)=true then
     match mi P e with
     |some z=>match te.all z with|some zd=>(AAr (α:=te.D) (Ty.cast h l) i zd).bind λl'=>k (H.set id (.buf false te l' n2 ver2))|none=>none
     |none=>none
    else none
   |_,_,_=>none
  |_=>none
 |_,_=>none
def yU(o:Oper):List Oper->Option (Nat×TypeId×Operand×Operand)
 |o2::_=>tU o o2
 |[]=>none
def qw(P:Program)(cs:List SW)(call:Q9)(ops:Array Oper)(gs:List Nat)(sk:Bool):List Oper->Nat->BS->Am->(BS->Am->Option R)->Option R
 |[],_,env,H,k=>k env H
 |o::r,j,env,H,k=>
  match sk with
  |true=>qw P cs call ops gs false r (j+1) env H k
  |false=>
   match yU o r with
   |some (d,t,x,lo)=>AAg P H t (Ir env x) (Ir env lo) λH'=>qw P cs call ops gs true r (j+1) (env.put d Sf) H' k
   |none=>
    match bJ ops o.guard env with
    |some true=>
     match Hz (er cs env H o.op) env H with
     |(env1,H1)=>qD P cs call env1 H1 o.op λv H'=>force (NU j gs) v λv'=>qw P cs call ops gs false r (j+1) (env1.putO o.dst v') H' k
    |some false=>qw P cs call ops gs false r (j+1) (env.putO o.dst (.tup [])) H k
    |none=>none
end
def gr(H:Am)(v:TV):Prop:= ∀id ver t n,Ba.own id ver t n∈v.refs-> ∀t' l n' ver',H[id]? ≠some (.buf false t' l n' ver')
structure E5(A:List Nat)(env:BS)(H:Am)(env':BS)(H':Am):Prop where
 step:B4 H H'
 same: ∀t,t∉A->gr H (env.get t)->env'.get t=env.get t
def gr.step(h:B4 I b)(d:e.ok I)(k:gr I e):gr b e:=by intro id a t n c;have hr:=d (.own id a t n) c;exact h.nb id hr.1 (k id a t n c)
theorem E5.refl(A:List Nat)(env:BS)(H:Am):E5 A env H env H:=⟨B4.refl H,λ_ _ _=>rfl⟩
def E5.trans{A B:List Nat}{i:BS}{c e f:Am}(ok: ∀p∈W,p.2.ok c)(a:E5 A W c g e)(b:E5 B g e i f):E5 (A++B) W c i f:=by refine⟨a.step.trans b.step,λt l k=>?_⟩;have j:=a.same t (λh=>l (HW _ h)) k;rw[b.same t (λh=>l (Qw _ h)) (by rw[j];exact k.step a.step (jG ok t)),j]
def E5.mono{B:List Nat}(a:E5 O g b W I)(h: ∀t,t∈O->t∈B):E5 B g b W I:=⟨a.step,λt A f=>a.same t (λq=>A (h t q)) f⟩
def om{t u:Nat}(h:u≠t): ∀env:BS,(BS.del t env).get u=env.get u
 |[]=>rfl
 |(k,v)::r=>by simp only[BS.del];by_cases a:k=t;subst a;rw[HY];simp only[BS.get,beq_false (Ne.symm h)];exact om h r;rw[beq_false a];simp only[BS.get];rw[om h r]
def iA(h:n≠N):(g.put N e).get n=g.get n:=by simp_all[BS.put,BS.get,beq_false,Ne.symm,om]
theorem o7{p:Nat×TV}{t:Nat}: ∀{env:BS},p∈BS.del t env->p∈env
 |(k,v)::r,h=>by simp only[BS.del]at h;split at h;exact CC _ (o7 h);rcases An.1 h with rfl|h;simp;exact CC _ (o7 h)
theorem bS{d:Option Nat}(h: ∀p∈g,p.2.ok b)(H:e.ok b): ∀p∈g.putO d e,p.2.ok b:=by
 cases d with
 |none=>exact h
 |some t=>intro p a;rcases An.1 a with rfl|a;exact H;grind[o7]
def gd{l:List t.D}(g:b[N]? =some (.buf false t l n U))(j: ∀a f e d,z= .own a f e d-> ∀i l2 h c,b[a]? ≠some (.buf false i l2 h c)):Mb N U t l z=z:=by
 cases z with
 |own a f e d=>simp only[Mb];split<;>simp_all
 |_=>rfl
mutual
theorem lh{H:Am}{id n k:Nat}{t:Ty}{l:List t.D}(d:H[id]? =some (.buf false t l n k)): ∀{v:TV},gr H v->gf id k t l v=v
 | .c z,h=>by simp only[gf];rw[gd d λa j i f e=>h a j i f (by simp[TV.refs,e])]
 | .g b,h=>by
  simp only[gf,TV.g.injEq];have: ∀b:List Ba,(∀a j i f,Ba.own a j i f∈b-> ∀s l2 q m,H[a]? ≠some (.buf false s l2 q m))->b.map (Mb id k t l)=b:=by
   intro b;induction b with
   |nil=>intro _;rfl
   |cons z r p=>intro h;rw[BZ,p λa j i f o=>h a j i f (by simp[o]),gd d λa j i f e=>h a j i f (by simp[e])]
  exact this b h
 | .tup vs,h=>by simp only[gf];rw[jy d (vs:=vs) h]
 | .aptr ..,_=>rfl
 | .bptr ..,_=>rfl
 | .vptr ..,_=>rfl
theorem jy{H:Am}{id n c:Nat}{t:Ty}{l:List t.D}(b:H[id]? =some (.buf false t l n c)): ∀{vs:List TV},gr H (.tup vs)->aZ id c t l vs=vs
 |[],_=>rfl
 |v::r,h=>by simp only[aZ];rw[lh b (v:=v) λa g f e d=>h a g f e (by simp only[TV.refs,TV.refsL,Ar];exact .inl d),jy b (vs:=r) λa g f e d=>h a g f e (by simp only[TV.refs,TV.refsL,Ar]at d⊢;exact .inr d)]
end
def tj{f:TV->TV}(a:f Sf=Sf)(t:Nat): ∀env:BS,BS.get (env.map λp=>(p.1,f p.2)) t=f (env.get t)
 |[]=>a.symm
 |(k,v)::r=>by simp only[BZ,BS.get];split;rfl;exact tj a t r
def wY(h:frz N g b=some (W,I))(t:Nat)(d:gr b (g.get t)):W.get t=g.get t:=by unfold frz at h;split at h;rename_i e l n H a;obtain⟨rfl,rfl⟩:=h;rw[tj (f:=gf N H e l) rfl];exact lh a d;cases h
def Pf: ∀(a:List Nat) {env:BS} {H:Am},O0 env H→O0 (Hz a env H).1 (Hz a env H).2∧E5 [] env H (Hz a env H).1 (Hz a env H).2∧
  ∀N,F3 N (A6 H).length (Br env) (A6 H) (Br (Hz a env H).1) (A6 (Hz a env H).2)
 |[],env,H,ok=>⟨ok,E5.refl _ _ _,λN=>F3.refl N _ _⟩
 |id::r,env,H,ok=>by simp only[Hz];split;rename_i e h b;obtain⟨f,c,j⟩:=AAn ok b;obtain⟨g,i,k⟩:=Pf r f;refine⟨g,(E5.trans (A:=[]) (B:=[]) ok.env ⟨c,λt _ d=>wY b t d⟩ i),λN=>(j N).trans ((k N).of_le (by rw[CR,CR];exact c.len))⟩;exact Pf r ok
section
variable {P:Program} {N:Nat} {R:Type}
def tO(P:Program)(args:List AV)(H:As)(v:AV)(H':As):Tgt->Prop
 | .fn F=>Es P F args H (DW v H')
 | .yd id=> ∀(N:Nat) (o:Oper) (c:Call) (f:Operand) (env:Env),o.op= .call c->c.callee= .value f->BA env f= .yf id->c.args.toList.map (BA env)=args->Ip P N o env H (DW v H')
def UP(P:Program)(call:Q9):Prop:= ∀{R:Type} tg vs H (k:TV->Am->Option R) r,(∀v∈vs,v.ok H)->(∀e∈H,e.ok H)->call tg vs H k=some r->
 ∃v H',tO P (vs.map TV.enc) (A6 H) v.enc (A6 H') tg/\k v H'=some r/\v.ok H'/\(∀e∈H',e.ok H')/\B4 H H'
theorem dT(h:bJ j q g=some true){B:Prop}(a:Y):U6 j q (Br g) Y B:=by unfold bJ at h;grind[U6,Tl,R0,TV.enc,Ba.one]
theorem gq(h:bJ j q g=some false){B:Prop}(b:B):U6 j q (Br g) Y B:=by unfold bJ at h;unfold U6;split at h;cases h;rename_i a c;unfold Tl;split at h;rename_i d f;simp only[f,R0];split at h;grind[TV.enc,Ba.one];rename_i e;simp[e];exact b;cases h;cases h
theorem ou(e: ∀d b,g.get d= .c (.bl b)->W.get d= .c (.bl b))(h:bJ j q g=some true):bJ j q W=some true:=by cases q<;>grind[bJ]
theorem fa: ∀{a:List SW} {F:FuncId} {c:SW},jv a F=some c->c∈a/\c.f=F
 |d::r,F,c,h=>by simp only[jv]at h;split at h;simp_all;obtain⟨b,e⟩:=fa h;grind
theorem oP{e:Op}(h:dp g e=some (S,m)):Go.Ab.callT (BA (Br g)) e=some (.inl (S,m.map TV.enc))/\ ∀H,(∀p∈g,p.2.ok H)-> ∀v∈m,v.ok H:=by
 unfold dp at h;split at h;rename_i c;split at h;rename_i f d;split at h;rename_i G first a F
 simp at h;obtain⟨rfl,rfl⟩:=h;have j:BA (Br g) f= .fn (.func G) first a:=by rw[KG,F];rfl
 have k: ∀l:List AV,(l.map vc).map TV.enc=l:=by
  intro l;conv=>rhs;rw[<-Zm l]
  grind[List.map_congr_left,ba]
 refine⟨?_,λH b v i=>?_⟩;simp_all[Go.Ab.callT,KG];simp at i;grind[dg,aV];cases h;cases h;cases h
theorem rK{c:Call}(h:mh g c=some (N,m)):(∃f,c.callee= .value f/\BA (Br g) f= .yf N/\c.args.toList.map (BA (Br g))=m.map TV.enc)/\ ∀H,(∀p∈g,p.2.ok H)-> ∀v∈m,v.ok H:=by unfold mh at h;split at h;rename_i f a;split at h;rename_i i b;injection h with h;injection h with d e;subst d e;refine⟨⟨f,a,by rw[KG,b];rfl,?_⟩,λH j v k=>?_⟩;grind[List.map_congr_left,KG];grind[aV];cases h;cases h
def ABC{k:TV->Am->Option R}{r:R}(ok:O0 g b)(h:zT P g b o.op (λv=>k v b)=some r): ∀F,iC P N o g b F k r:=by intro F;obtain⟨v,a,H,c⟩:=ny ok h;exact⟨v,b,DY a ⟨rfl,rfl⟩,H,c,ok.heap,B4.refl b,Frame.refl F b⟩
theorem mq(H:Am):A6 (H.map Dl.lock)=A6 H:=by grind[A6,List.map_congr_left,mF]
theorem qa(h: ∀e∈b,e.ok b): ∀e∈b.map Dl.lock,e.ok (b.map Dl.lock):=by
 have f: ∀id a t n,S1 b id a t n->S1 (b.map Dl.lock) id a t n:=λid a t n q=>by
  refine⟨by simpa using q.1,λro y l w k c=>?_⟩;rw[CL]at c;cases j:b[id]? with
  |none=>grind
  |some e=>
   rw[j]at c;simp at c;cases e<;>simp only[Dl.lock]at c<;>first|(cases c;done)|skip
   injection c with _ m v o p;subst m o p;exact q.2 _ _ _ _ _ j
 have d: ∀x:Ba,x.ok b->x.ok (b.map Dl.lock):=λx i=>by
  cases x with
  |own id a t n=>exact f _ _ _ _ i
  |_=>trivial
 intro e c;obtain⟨u,r,rfl⟩:=Bl.1 c;have g:=h u r;cases u with
 |dead=>trivial
 |live H s=>exact λx i=>d x (g x i)
 |buf=>exact g
 |lp=>exact g
 |mp=>exact g
theorem vy(M: ∀e∈b,e.ok b)(L:B4 (b.map Dl.lock) I)(F: ∀e∈I,e.ok I):
  (∀v:TV,v.ok I->v.ok (TY b I))/\(∀e∈TY b I,e.ok (TY b I))/\B4 b (TY b I)/\ ∀x:Cx,Rn x x (A6 I) (A6 (TY b I)):=by
 have K:b.length<=I.length:=by simpa using L.len
 have c:(TY b I).length=I.length:=by grind[TY,List.length_append,List.length_drop]
 have o: ∀j,j<b.length->(TY b I)[j]? =b[j]? :=λj p=>B6 p;have a: ∀j,b.length<=j->(TY b I)[j]? =I[j]? :=λj p=>by grind[TY]
 have keep: ∀(j:Nat) (e:Dl),b[j]? =some e->e≠ .dead->I[j]? =some e.lock:=λj e p G=>by apply L.ro j e.lock (by rw[CL,p];rfl);cases e<;>first|rfl|exact(G rfl).elim
 have A: ∀id f t n,S1 I id f t n->S1 (TY b I) id f t n:=λid f t n q=>by refine⟨by rw[c];exact q.1,λro Q l P D d=>?_⟩;rcases Ap id b.length with h|h;rw[o id h]at d;exact q.2 _ _ _ _ _ (keep id _ d (by simp));rw[a id h]at d;exact q.2 _ _ _ _ _ d
 have k: ∀x:Ba,x.ok I->x.ok (TY b I):=λx C=>by
  cases x with
  |own id f t n=>exact A _ _ _ _ C
  |_=>trivial
 have B:B4 b (TY b I):=by refine⟨by rw[c];exact K,λid f t n q=>⟨by rw[c];exact DB q.1 K,λro Q l P D d=>?_⟩,λid e d _=>?_,λid w h=>by rw[o id w];exact h,λid w _ _ _ _ _ _ _ _ h=>by rw[o id w]at h;exact⟨_,_,h⟩⟩;rw[o id q.1]at d;exact q.2 _ _ _ _ _ d;grind
 refine⟨λv O x C=>k x (O x C),λe d=>?_,B,λx=>⟨by rw[CR,CR,c],λj R p=>?_⟩⟩;rcases Ar.1 d with d|d;exact B.ent (M e d);have E:=F e (U9 d);cases e with
 |dead=>trivial
 |live H s=>exact λx C=>k x (E x C)
 |buf=>exact E
 |lp=>exact E
 |mp=>exact E
 rw[FA]at p;cases J:(TY b I)[j]? with
 |none=>grind
 |some y=>
  rw[J]at p;simp at p;subst p;have same:(A6 I)[j]? =some y.enc->y.enc= .dead\/(∃g s u,(A6 I)[j]? =some (.live g s)/\y.enc= .live g u/\u.length=s.length/\ ∀(i:Nat) (z:AV),u[i]? =some z-> ∃v,s[i]? =some v/\Conv x x v z)\/((A6 I)[j]? =some y.enc/\ ∀g s,y.enc≠ .live g s):=λh=>by
   cases y with
   |dead=>exact .inl rfl
   |live H s=>exact .inr (.inl ⟨_,_,_,h,rfl,rfl,λi z h=>⟨z,h,λ_ r=>r⟩⟩)
   |buf H t l m f=>exact .inr (.inl ⟨_,_,_,h,rfl,rfl,λi z h=>⟨z,h,λ_ r=>r⟩⟩)
   |lp=>exact .inr (.inr ⟨h,λ_ _ h=>by cases h⟩)
   |mp=>exact .inr (.inr ⟨h,λ_ _ h=>by cases h⟩)
  rcases Ap j b.length with h|h;rw[o j h]at J;by_cases N:y= .dead;subst N;exact .inl rfl;grind[FA,mF];grind[FA]
theorem jt{u:List SW}(y: ∀c∈u,c.Ok P){i:Q9}(l:UP P i){k:TV->Am->Option R}{r:R}(ok:O0 g b)(h:qD P u i g b o.op k=some r):iC P N o g b (od u g b o.op) k r:=by
 have s: ∀t,o.op=t->zT P g b t (λv=>k v b)=some r-> ∀F,iC P N o g b F k r:=λt e h=>ABC ok (by grind);generalize a:o.op=t at h;unfold qD at h;split at h;exact oN ok a h;exact re ok a h;exact pO ok a h;exact gJ ok a h;exact jL ok a h;grind[mI];exact jM ok a h;grind[m6];split at h;exact mg ok a h;grind;rename_i c;split at h;rename_i F q m;obtain⟨K,C⟩:=oP m;split at h;rename_i x;split at h;rename_i L n;obtain⟨M,O⟩:=fa n;obtain⟨v,d,q1,q2,q3,q4,q5,q6⟩:=pm (y L M) (C b ok.env) ok.heap h;rw[O]at q1;exact⟨v,d,gy (by grind) x q1,q2,q3,q4,q5,by simp only[od,m,n];exact q6⟩;rename_i n;split at h;rename_i H;have A:q=[]:=by cases q<;>first|rfl|cases H
 subst A;obtain⟨v,d,q1,q2,q3,q4,q5⟩:=l (.fn F) [] (b.map Dl.lock) _ r (λv Q=>by cases Q) (qa ok.heap) h;obtain⟨E,G,I,J⟩:=vy ok.heap q5 q4;have B:Es P F [] (A6 b) (DW v.enc (A6 d)):=by grind[tO,mq]
 refine⟨v,TY b d,Ip.after (gy (by grind) x B) λX W w _=>?_,q2,E v q3,G,I,?_⟩;have hr:=(J (cx X W (A6 d) w)).onto;exact⟨hr,λc r=>r.later hr.later⟩;simp only[od,m,n];exact λj p _=>B6 p;rename_i H;obtain⟨v,d,q1,q2,q3,q4,q5⟩:=l (.fn F) q b k r (C b ok.env) ok.heap h;have z:=H;exact⟨v,d,gy (by rw[a];exact K) x q1,q2,q3,q4,q5,by simp only[od,m,n,z];exact λj p hn=>(hn (IT.2 p)).elim⟩;cases h;rename_i m;split at h;rename_i id q D;obtain⟨⟨f,S,T,U⟩,V⟩:=rK D;obtain⟨v,d,q1,q2,q3,q4,q5⟩:=l (.yd id) q b k r (V b ok.env) ok.heap h;exact⟨v,d,q1 N o c f (Br g) a S T U,q2,q3,q4,q5,by simp only[od,m,D];exact λj p hn=>(hn (IT.2 p)).elim⟩;grind[mj,Nat.eq_of_beq_eq_true,od];grind
theorem fe{k:TV->Option R}{r:R}(h:force E e k=some r):k e=some r:=by unfold force at h;grind
def gU(ops:List Oper):List Nat:=ops.filterMap (·.dst)
def lO{b:Oper}{d:Nat}(h:tU o b=some (d,a,L,c)):o.dst=some d/\o.op= .slice a L (some c) none none/\o.guard=none/\b.dst=none/\b.op= .call {callee:=.builtin .clear,args:= #[.tmp d],argTypes:= #[a]}/\b.guard=none:=by unfold tU at h;split at h;rename_i e f g i j k;split at h<;>simp_all;cases h
def nS{a:Ty}{z:List AV}{b:a.D}(h:DQ z (a.enc b).cells): ∀n:Nat,DQ (List.replicate n z).flatten (a.E.cl (List.replicate n b))
 |0=>DQ.refl _
 |n+1=>by exact DQ.append h (nS h n)
theorem r8{o1 o2:Oper}{d:Nat}{t:TypeId}{x lo:Operand}{env:BS}{H:Am}{k:Am→Option R}{r:R}(ok:O0 env H)(hc:tU o1 o2=some (d,t,x,lo))(h:AAg P H t (Ir env x) (Ir env lo) k=some r):
  ∃v G,Ip P N o1 (Br env) (A6 H) (DW v (A6 H))/\Ip P N o2 ((Br env).put d v) (A6 H) (DW (.tup []) (A6 G))/\k G=some r/\(∀e∈G,e.ok G)/\B4 H G:=by
 obtain⟨_,c2,_,c4,U,_⟩:=lO hc;unfold AAg at h;split at h;rename_i id c t0 n0 kk i hx Z;split at h;rename_i a l b ar y;split at h;rename_i te e a0 hb al F;split at h;rename_i S;split at h;rename_i z hz;split at h;rename_i zd ap;obtain⟨w,o,h⟩:=Dq.1 h;have T:=DN hb;subst T;have u:=Ty.beq_eq _ _ S;injection u with u;subst u;have B:(Ty.cast S l:List a.D)=l:=rfl;rw[B]at o;have hr:S1 H id c t0 n0:=by have:=aV ok.env x;rw[hx]at this;exact this (.own id c t0 n0) (by simp[TV.refs])
 obtain⟨_,q⟩:=hr.2 _ _ _ _ _ y;obtain⟨rfl,rfl⟩:=q rfl;have hn:b=l.length:=ok.heap _ (BJ y);obtain⟨e',I,M⟩:=c7 al;rw[I]at F;injection F with F;injection F with _ F;injection F with X Y;subst X Y;obtain⟨z1,z2⟩:=V1 hz;have p:=FZ ap;have C:(lvs z).length=a.sz:=by rw[<-p.1,a.enc_len]
 unfold AAr at o;split at o;rename_i hi;injection o with o;have O:B4 H (H.set id (.buf false a w b c)):=B4.set y rfl λ_ _ _ _ _ e=>by grind
 have J:Dl.ok (H.set id (.buf false a w b c)) (.buf false a w b c):=by show b=w.length;grind
 have m:(A6 H)[id]? =some (.live b (a.E.cl l)):=by rw[FA,y];rfl
 have A:id<(A6 H).length:=by grind
 have ex:BA (Br env) x= .sl id b a.sz 0 b:=by rw[KG,hx];rfl
 have el:BA (Br env) lo= .int kk i:=by rw[KG,Z];rfl
 have W:Q8 (A6 H) id b=true:=by simp[Q8,m]
 have s: ∀v,BA ((Br env).put d v) (.tmp d)=v:=λv=>by simp[BA,Env.put,Env.get]
 have j:=a.E.clen l;have Q:a.E.sz=a.sz:=rfl;rw[Q]at j;have ad:CQ P (Br env) (A6 H) o1.op=some (if i.toNat=0 then .sl id b a.sz 0 b else if i.toNat=b then .vs a.sz []else .sl id b a.sz (0+i.toNat*a.sz) (b-i.toNat)):=by
  rw[c2];have b1:UR 0 (some (AV.int kk i))=some i.toNat:=by grind[UR,mK]
  have b2: ∀n,UR n none=some n:=λ_=>rfl;simp only[CQ,ex,el,Be,Option.map_none,dd,b1,b2,I];rw[if_pos ⟨trivial,a.sz_pos,by omega,Ak _,Ak _,W,by simp⟩];grind
 have g: ∀V,a.E.cl l=V->(A6 H).set id (.live b V)=A6 H:=λV ax=>by apply Mp;grind
 have f:DQ (Tr (a.E.cl l) (i.toNat*a.sz) (List.replicate (b-i.toNat) (lvs z)).flatten) (a.E.cl w):=by
  have e1:a.E.cl w=a.E.cl (l.take i.toNat)++a.E.cl (List.replicate (b-i.toNat) zd):=by grind[SX.cl]
  have e2:(a.E.cl l).take (i.toNat*a.sz)=a.E.cl (l.take i.toNat):=by
   have e3:a.E.cl l=a.E.cl (l.take i.toNat)++a.E.cl (l.drop i.toNat):=by grind[List.take_append_drop,SX.cl]
   have e4:(a.E.cl (l.take i.toNat)).length=i.toNat*a.sz:=by rw[a.E.clen,CH,Q];grind
   grind
  have e5:(a.E.cl l).drop (i.toNat*a.sz+(List.replicate (b-i.toNat) (lvs z)).flatten.length)=[]:=by apply iL;simp[C];rw[<-Ge];grind
  unfold Tr;rw[e1,e2,e5,Dn];exact(DQ.refl _).append (nS p _)
 have L:Ip P N o2 ((Br env).put d (if i.toNat=0 then .sl id b a.sz 0 b else if i.toNat=b then .vs a.sz []else .sl id b a.sz (0+i.toNat*a.sz) (b-i.toNat))) (A6 H) (DW (.tup []) (A6 (H.set id (.buf false a w b c)))):=by
  have e6:A6 (H.set id (.buf false a w b c))=(A6 H).set id (.live b (a.E.cl w)):=by rw[Mv];rfl
  rw[e6];by_cases h0:i.toNat=0;rw[if_pos h0];refine Ip.set_less A ?_ f;have:=Ip.clear (N:=N) (K:=DW (.tup []) _) U c4 I M z1 C (s (.sl id b a.sz 0 b)) m (by rw[j,hn];omega) ⟨rfl,rfl⟩;grind;rw[if_neg h0];by_cases h1:i.toNat=b;rw[if_pos h1];have e7:w=l:=by simp_all
  rw[e7,g _ rfl];exact kP U (PC I).1 (s _) ⟨rfl,rfl⟩;rw[if_neg h1];refine Ip.set_less A ?_ f;have:=Ip.clear (N:=N) (K:=DW (.tup []) _) U c4 I M z1 C (s (.sl id b a.sz (0+i.toNat*a.sz) (b-i.toNat))) m (by rw[j,<-hn,D6,<-Ge];apply O8;omega) ⟨rfl,rfl⟩;grind
 exact⟨_,_,DY ad ⟨rfl,rfl⟩,L,h,SO O ok.heap J,O⟩;grind;cases h;cases h;cases h;cases h;cases h;cases h
def xr:F3 N (A6 b).length ((Br g).put n v) (A6 b) (Br (g.put n Sf)) (A6 b):=by
 refine TW rfl λX d w s=>⟨Rn.refl _ _,λt f m=>?_⟩
 rw[gV]at m;rcases An.1 m with e|m;injection e with a H;subst a H;exact⟨v,JK,λc _=>.any c⟩;exact⟨f,CC _ m,λ_ r=>r⟩
theorem bT{J:List SW}(m: ∀c∈J,c.Ok P){p:Q9}(l:UP P p){D:Array Oper}{gs:List Nat}: ∀(os:List Oper) (j:Nat) (env:BS) (H:Am) (k:BS→Am→Option R) (r:R),O0 env H→qw P J p D gs false os j env H k=some r→
  ∃f i,Tu P N D os (Br env) (A6 H) (λe h=>e=Br f/\h=A6 i)/\k f i=some r/\O0 f i/\E5 (gU os) env H f i
 |[],j,env,H,k,r,ok,h=>⟨env,H,⟨_,_,F3.refl _ _ _,rfl,rfl⟩,h,ok,E5.refl _ _ _⟩
 |o::os,j,env,H,k,r,ok,h=>by
  simp only[qw]at h;have B: ∀{e:BS} {h:Am} {v:TV},E5 (gU [o]) e h (e.putO o.dst v) h:=by
   intro e h v;refine⟨B4.refl h,λt U _=>?_⟩;cases hd:o.dst with
   |none=>rfl
   |some d=>refine iA λe=>U ?_;simp[gU,hd,e]
  have z: ∀t,t∈gU [o]++gU os->t∈gU (o::os):=by grind[gU]
  split at h;rename_i d t x lo y;cases os with
  |nil=>cases y
  |cons o2 E=>
   have hc:=y;obtain⟨c1,c2,c3,c4,c5,c6⟩:=lO hc;obtain⟨v,C,M,w2,T,W,st⟩:=r8 (N:=N) ok hc h;have g:O0 (env.put d Sf) C:=⟨bS (d:=some d) (st.env ok.env) bZ,W⟩
   obtain⟨f,i,L,Y,F,G⟩:=bT m l E (j+1+1) _ C k r g T;refine⟨f,i,⟨Br env,A6 H,F3.refl N _ _,?_⟩,Y,F,?_⟩;rw[c3];apply Ip.mono M;rintro u _ ⟨rfl,rfl⟩;rw[c1];refine⟨(Br env).put d u,A6 H,F3.refl N _ _,?_⟩;rw[c6];apply Ip.mono w2;rintro _ _ ⟨rfl,rfl⟩;rw[c4];exact Tu.weak xr L;have Z:E5 (gU [o]) env H (env.put d Sf) C:=by exact⟨st,λu hu _=>iA λe=>hu (by simp[gU,c1,e])⟩
   refine(E5.trans ok.env Z G).mono λu hu=>?_;grind[gU,List.mem_cons_of_mem]
  split at h;rename_i S;obtain⟨K,t1,M⟩:=Pf (er J env H o.op) ok;generalize Hz (er J env H o.op) env H=q at h K t1 M;obtain⟨env1,C⟩:=q;obtain⟨v,I,e1,e2,e3,e4,e5,_⟩:=jt (N:=N) m l K h;have O:=fe e2;have g:O0 (env1.putO o.dst v) I:=⟨bS (e5.env K.env) e3,e4⟩
  obtain⟨f,i,L,E,F,G⟩:=bT m l os (j+1) _ I k r g O;refine⟨f,i,?_,E,F,?_⟩;refine⟨Br env1,A6 C,M N,dT ?_ ?_⟩;exact ou (λd b hb=>by rw[t1.same d (λh=>by cases h) (by rw[hb];intro id al t n hm;simp[TV.refs]at hm),hb]) S;exact λrr X h0 a w s Q=>TQ (e1 rr X h0 a w s Q) (by rintro a' w' ⟨c,u,h',ad,ha,⟨rfl,rfl⟩,V,hs,hx⟩;exact⟨c,_,h',_,ha,by show Tu P N D os ((Br env1).putO o.dst v.enc) (A6 I) _;rw[<-Ux];exact L,V,hs,hx⟩);have Z:E5 (gU [o]) env1 C (env1.putO o.dst v) I:=by exact⟨e5,λt U T=>(B (h:=C)).same t U T⟩
  have:=(E5.trans (A:=[]) ok.env t1 (E5.trans K.env Z G))
  exact this.mono z;rename_i S;have g:O0 (env.putO o.dst (.tup [])) H:=⟨bS ok.env (Ph λv V=>by cases V),ok.heap⟩
  obtain⟨f,i,L,E,F,G⟩:=bT m l os (j+1) _ H k r g h;refine⟨f,i,⟨Br env,A6 H,F3.refl N _ _,gq S ?_⟩,E,F,(E5.trans ok.env B G).mono z⟩;have:(Br env).putO o.dst (.tup [])=Br (env.putO o.dst (.tup [])):=by rw[Ux];rfl
  grind;cases h
end
end Go.Ab
