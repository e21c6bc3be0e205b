/- Texts of wip, joined and shortened by wip/tools/pack.py; nothing is assumed. -/
import Derived.Test.YtimajmppopkomaaGreatK2
import Derived.Laws.IdiomRangeMap
noncomputable section
set_option linter.all false
namespace Go.Ab
def Uu(H:Am)(id ver:Nat)(t:Ty)(n:Nat):Prop:=
 id<H.length/\ ∀ro t' l n' ver',H[id]? =some (.buf ro t' l n' ver')->ver<=ver'/\(ver=ver'->t'=t/\n'=n)
def Bk.ok(H:Am):Bk->Prop
 | .own id ver t n=>Uu H id ver t n
 |_=>True
def lok(H:Am)(cs:List Bk):Prop:= ∀x∈cs,x.ok H
mutual
def TV.refs:TV->List Bk
 | .c x=>[x]
 | .g cs=>cs
 | .aptr .. =>[]
 | .bptr id ver t n _ _=>[.own id ver t n]
 | .vptr cs _=>cs
 | .tup vs=>TV.refsL vs
def TV.refsL:List TV->List Bk
 |[]=>[]
 |v::r=>v.refs++TV.refsL r
end
def TV.ok(H:Am)(v:TV):Prop:=lok H v.refs
def D5.ok(H:Am):D5->Prop
 | .live _ cs=>lok H cs
 | .buf _ _ l n _=>n=l.length
 | .dead=>True
 | .lp _ _ _ env _ _ _ _=> ∀p∈env,∀id ver t n,Bk.own id ver t n∉p.2.refs
 | .mp .. =>True
structure PJ(env:BV)(H:Am):Prop where
 env: ∀p∈env,p.2.ok H
 heap: ∀e∈H,e.ok H
variable {a I W:TypeId}{N n U:Nat}{b G:Am}{c L:Operand}{d:List Bk}{e T:TV}{P:Program}{t:Ty}{g Y:BV}{i Q:List AY}{w:World}{j:Array Oper}{m:List TV}{p Z:Ar}{o:Oper}{q:Option (Nat×Bool)}{h:Gh}{s:Env}{X:Nat->Prop}{u:Bk}{v:AY}{z:IntKind}{x y:Cx}{A:Nat→Prop}{B:Option TV}{C:D5}{D:Bool}{E:Array (Nat×Operand)}{F:Int}{J:List (Int×AY)}{R:Type}{M:Act}{O:List Nat}{S:FuncId}{V:Prop}
theorem JD{H:List Bk}:lok b (d++H)↔lok b d/\lok b H:=by grind[lok]
theorem ADC:lok b []:=λ_ h=>by cases h
def sq{v:TV}: ∀{l:List TV},v∈l-> ∀x∈v.refs,x∈TV.refsL l
 |w::r,a,x,hx=>by simp only[TV.refsL,An];rcases A3.1 a with rfl|a;exact .inl hx;exact .inr (sq a x hx)
def nO(h:(TV.tup m).ok b)(H:e∈m):e.ok b:=λx c=>h x (by simp only[TV.refs];exact sq H x c)
def Qo{H:Am}: ∀{vs:List TV},(∀v∈vs,v.ok H)->(TV.tup vs).ok H
 |[],_=>λx a=>by simp[TV.refs,TV.refsL]at a
 |v::r,h=>by have:=Qo (vs:=r) λw b=>h w (by simp[b]);intro x a;simp only[TV.refs,TV.refsL,An]at a;rcases a with a|a;exact h v k! x a;exact this x a
theorem nF(h: ∀p∈g,p.2.ok b)(t:Nat):(g.get t).ok b:=by
 induction g with
 |nil=>intro x a;simp only[BV.get,R8,TV.refs,BA]at a;subst a;trivial
 |cons p r H=>grind[BV.get]
theorem yJ(v:Value):(AAv v).ok b:=by
 cases v with
 |pointer p=>cases p<;>trivial
 |slice a l c=>
  cases a with
  |some _=>trivial
  |none=>
   match l,c with
   |0,0=>trivial
   |0,_+1=>trivial
   |_+1,_=>trivial
 |_=>trivial
def eZ:R8.ok b:=λx a=>by simp only[R8,TV.refs,BA]at a;subst a;trivial
theorem Jz{H:Am}(h:u.ok H):(TV.c u).ok H:=λy a=>by grind[TV.refs]
theorem AEo(v:Value):(cvT v).ok b:=by
 cases v with
 |agg a=>
  simp only[cvT];cases h:a.toList.all (·.oneCell')with
  |false=>exact eZ
  |true=>intro x H;grind[TV.refs,yJ]
 |_=>exact Jz (yJ _)
theorem ZU{H:Am}(h: ∀p∈g,p.2.ok H)(x:Operand):(I9 g x).ok H:=by
 cases x with
 |tmp t=>exact nF h t
 |const v=>exact AEo v
 |global _=>exact eZ
 |func f=>exact Jz trivial
theorem Gx(a b:List Bk):lvs (a++b)=lvs a++lvs b:=Wi
theorem Hi(x:Bk)(b:List Bk):lvs (x::b)=x.enc++lvs b:=IJ
theorem cD: ∀a:List Bk,(lvs a).length=ACD a
 |[]=>rfl
 |x::r=>by rw[Hi,Ad,x.enc_len,cD r];rfl
def OM: ∀{c:List Bk} {n:Nat} {a b:List Bk},V8 c n=some (a,b)->c=a++b/\(lvs a).length=n
 |c,0,a,b,h=>by cases c<;>simp only[V8]at h<;>obtain⟨rfl,rfl⟩:=h<;>exact⟨rfl,rfl⟩
 |x::r,n+1,a,b,h=>by simp only[V8]at h;split at h;rename_i e;split at h;rename_i g i f;obtain⟨rfl,rfl⟩:=h;obtain⟨j,d⟩:=OM f;rw[Hi,Ad,d,x.enc_len];simp_all;cases h;cases h
mutual
theorem Ty.lvs_enc: ∀(t:Ty) (x:t.D),lvs (t.lvs x)=(t.enc x).cells
 | .bool,_=>rfl
 | .int _,_=>rfl
 | .str,_=>rfl
 | .list _,_=>rfl
 | .arr n t,a=>by simp only[Ty.lvs,lvs,IJ,iU,Dr,Bk.enc]
 | .prod ts,x=>by simp only[Ty.lvs,Ty.enc,AY.cells];exact ts.lvs_cells x
theorem RU.lvs_cells: ∀(a:RU) (x:a.D),Go.Ab.lvs (a.lvs x)=a.cells x
 | .one t,x=>by simp only[RU.lvs,RU.cells];exact t.lvs_enc x
 | .cons t a,x=>by simp only[RU.lvs,RU.cells];rw[Gx,t.lvs_enc,a.lvs_cells]
end
mutual
theorem Ty.lvs_ok{H:Am}: ∀(t:Ty) (x:t.D),lok H (t.lvs x)
 | .bool,_=>λy b=>by simp only[Ty.lvs,BA]at b;subst b;trivial
 | .int _,_=>λy b=>by simp only[Ty.lvs,BA]at b;subst b;trivial
 | .str,_=>λy b=>by simp only[Ty.lvs,BA]at b;subst b;trivial
 | .list _,_=>λy b=>by simp only[Ty.lvs,BA]at b;subst b;trivial
 | .arr n t,a=>λy b=>by simp only[Ty.lvs,BA]at b;subst b;trivial
 | .prod ts,x=>by simp only[Ty.lvs];exact ts.lvs_ok x
theorem RU.lvs_ok{H:Am}: ∀(a:RU) (x:a.D),lok H (a.lvs x)
 | .one t,x=>by simp only[RU.lvs];exact t.lvs_ok x
 | .cons t a,x=>by simp only[RU.lvs];exact JD.2 ⟨t.lvs_ok _,a.lvs_ok _⟩
end
def MB(h:u.scalar=true):u.enc=[u.one]:=by
 cases u with
 |ar n t a=>cases h
 |_=>rfl
def Bk.scalar_cells(h:u.scalar=true):u.one.cells=[u.one]:=by
 cases u with
 |ar n t a=>cases h
 |raw v=>cases v<;>first|rfl|cases h
 |_=>rfl
theorem Qp(h:part P a d N=some e):
  (∃n,tI P a=some (true,n)/\N+n<=(lvs d).length/\e.enc= .agg (((lvs d).drop N).take n)\/tI P a=some (false,n)/\(lvs d)[N]? =some e.enc)/\ ∀H,lok H d->e.ok H:=by
 unfold part at h;split at h;rename_i t r l;obtain⟨rfl,j⟩:=OM l;split at h;rename_i n i;split at h;rename_i b c g;obtain⟨rfl,k⟩:=OM g;injection h with h;subst h;refine⟨⟨n,.inl ⟨i,?_,?_⟩⟩,λH f=>?_⟩;simp only[Gx,Ad];omega;simp only[TV.enc,Gx,AY.agg.injEq];rw[<-j,PM,<-k,Uz];exact(JD.1 (JD.1 f).2).1;cases h;rename_i n i;split at h;rename_i x r;split at h;rename_i m;injection h with h;subst h;refine⟨⟨n,.inr ⟨i,?_⟩⟩,λH f=>Jz ((JD.1 f).2 x k!)⟩;rw[Gx,Hi,MB m,Cb o!];simp[j,TV.enc];cases h;cases h;cases h;cases h
def jC(h:part P a d N=some e)
  (hr: ∀n,N+n<=(lvs d).length->Pd p v n=some (((lvs d).drop N).take n)):fG P a p v=some e.enc:=by
 obtain⟨⟨n,c|c⟩,_⟩:=Qp h;obtain⟨i,g,t⟩:=c;simp only[fG,i,hr n g,Bp,t];obtain⟨i,t⟩:=c;have k:N<(lvs d).length:=by rcases Aq N (lvs d).length with f|f;exact f;rw[Cj f]at t;cases t
 simp only[fG,i,hr 1 o!,AE];rw[List.head?_take,List.head?_drop,t];rfl
theorem oC(h:V7 b N=some d): ∃ro,b[N]? =some (.live ro d):=by grind[V7]
theorem FX(H:Am)(id:Nat):(BC H)[id]? =(H[id]?).map D5.enc:=CO
theorem qM(h:V7 b N=some d):(BC b)[N]? =some (.live 0 (lvs d)):=by obtain⟨ro,H⟩:=oC h;rw[FX,H];rfl
def ADA(H: ∀e∈b,e.ok b)(h:V7 b N=some d):lok b d:=by obtain⟨ro,c⟩:=oC h;exact H _ (BM c)
def wl{l:List t.D}(h:gB b N n t=some l): ∃ro H,b[N]? =some (.buf ro t l H n):=by unfold gB at h;split at h;rename_i ro i j H d e;split at h;rename_i g;have c:=DN g;subst c;split at h;rename_i f;have a:=f;have:=Ty.beq_eq i t a;subst this;injection h with h;refine⟨ro,H,?_⟩;rw[e,<-h];rfl;cases h;cases h;cases h
def kz{l:List t.D}(d: ∀e∈b,e.ok b)(hr:Uu b N U t n)(h:gB b N U t=some l):(BC b)[N]? =some (.live n (t.E.cl l))/\l.length=n:=by obtain⟨ro,f,H⟩:=wl h;obtain⟨_,c⟩:=hr.2 _ _ _ _ _ H;obtain⟨_,rfl⟩:=c rfl;have:f=l.length:=d _ (BM H);refine⟨?_,this.symm⟩;rw[FX,H];rfl
def we{a:Ho (n+1) t.D}(h:AAb d N n t=some a): ∃c b,d=c++(.ar n t a::b)/\(lvs c).length=N:=by unfold AAb at h;split at h;rename_i c l m k b i;split at h;rename_i j;have:=Ty.beq_eq _ _ j;injection this with e f;subst e f;injection h with h;obtain⟨e,f⟩:=OM i;refine⟨c,b,?_,f⟩;rw[e,<-h];rfl;cases h;cases h
theorem aI(n:Nat)(t:Ty)(a:Ho (n+1) t.D):(Bk.ar n t a).enc=cR (n+1) t.E a:=rfl
section
variable {P:Program} {R:Type} {H:Am} {k:TV->Option R} {r:R}
theorem Vj(h:okT B k=some r): ∃v,B=some v/\k v=some r:=by unfold okT at h;grind
theorem er(v:AY):(tvA v).enc=v:=by cases v<;>rfl
theorem iH(v:AY):(tvA v).ok H:=by cases v<;>exact Jz trivial
theorem gz{o:Option AY}(h:okA o k=some r): ∃v,o=some v/\k (tvA v)=some r:=by unfold okA at h;grind
theorem il{o:Option R}(h:cond D none o=some r):D=false/\o=some r:=q!
theorem oD(C: ∀t∈H,t.ok H)(D:e.ok H)(h:loadT P H a e k=some r): ∃u,fG P a (BC H) e.enc=some u.enc/\k u=some r/\u.ok H:=by
 unfold loadT at h;split at h;rename_i id g;split at h;rename_i B q;obtain⟨u,f,o⟩:=Vj h;refine⟨u,jC f λn c=>?_,o,(Qp f).2 H (ADA C q)⟩;grind[TV.enc,Bk.one,Pd,qM];cases h;rename_i B d;obtain⟨u,f,o⟩:=Vj h;refine⟨u,jC f λn c=>?_,o,(Qp f).2 H D⟩;simp only[TV.enc,Pd];grind;rename_i id p n b i g;split at h;rename_i B q;split at h;rename_i v G;obtain⟨t,z,h⟩:=EC.1 h;obtain⟨u,f,o⟩:=Vj h;obtain⟨j,d,rfl,s⟩:=we G;refine⟨u,jC f λm c=>?_,o,(Qp f).2 H (b.lvs_ok t)⟩;rw[b.lvs_enc,b.enc_len]at c;obtain⟨w,x⟩:=AAY b.E (lvs j) (lvs d) z c;have F:lvs (j++(.ar n b v::d))=lvs j++cR (n+1) b.E v++lvs d:=by rw[Gx,Hi,aI,Ay]
 simp only[TV.enc,Pd,qM q,F];have y:p+i.toNat*b.sz+g=(lvs j).length+i.toNat*b.E.sz+g:=by rw[s];rfl
 rw[y,if_pos ⟨trivial,w⟩,x,b.lvs_enc];rfl;cases h;cases h;rename_i id A b n i g;split at h;rename_i l q;obtain⟨t,z,h⟩:=EC.1 h;obtain⟨u,f,o⟩:=Vj h;obtain⟨y,_⟩:=kz C (D (.own id A b n) (by simp[TV.refs])) q;refine⟨u,jC f λm c=>?_,o,(Qp f).2 H (b.lvs_ok t)⟩;rw[b.lvs_enc,b.enc_len]at c;obtain⟨w,x⟩:=AEc b.E z c;simp only[TV.enc,Pd,y];rw[if_pos ⟨trivial,w⟩];show some (List.take m (List.drop (i.toNat*b.E.sz+g) (b.E.cl l)))=_;rw[x,b.lvs_enc];rfl;cases h;cases h
theorem wh{i:BinOp}(h:AEd P i a e T k=some r): ∃u,ux P i a e.enc T.enc=some u.enc/\k u=some r/\u.ok H:=by
 unfold AEd at h;split at h;rename_i n x o b;simp only[TV.enc,Bk.one,ux];split at h;obtain⟨c,h⟩:=il h;have d: ¬b<0:=by simpa using c
 refine⟨_,?_,h,Jz trivial⟩;grind[iE,TV.enc,Bk.one];obtain⟨c,h⟩:=il h;have d: ¬b<0:=by simpa using c
 refine⟨_,?_,h,Jz trivial⟩;grind[iE,TV.enc,Bk.one];split at h;rename_i t;obtain⟨c,h⟩:=il h;have d: ¬b=0:=by simpa using c
 refine⟨_,?_,h,Jz trivial⟩;grind[mY,TV.enc,Bk.one];cases h;split at h;rename_i t;obtain⟨c,h⟩:=il h;have d: ¬b=0:=by simpa using c
 refine⟨_,?_,h,Jz trivial⟩;grind[mY,TV.enc,Bk.one];cases h;grind[gz,iH,er];rename_i x b;simp only[TV.enc,Bk.one,ux];split at h;split at h;rename_i t;exact⟨_,by simp only[if_pos t,TV.enc,Bk.one],h,Jz trivial⟩;cases h;split at h;rename_i t;exact⟨_,by simp only[if_pos t,TV.enc,Bk.one],h,Jz trivial⟩;cases h;cases h;rename_i x b;simp only[TV.enc,Bk.one,ux];split at h;obtain⟨s,j,h⟩:=EC.1 h;exact⟨_,by simp only[tL,TV.enc,Bk.one];exact AE3 j,h,Jz trivial⟩;grind[gz,er,iH];rename_i l bs;split at h;rename_i m f;split at h;rename_i g;simp only[TV.enc,ux,f,if_pos g];split at h;exact⟨_,by simp only[TV.enc,Bk.one,eqT],h,Jz trivial⟩;exact⟨_,by simp only[TV.enc,Bk.one,eqT],h,Jz trivial⟩;cases h;cases h;cases h;cases h
def AAE{a:UnOp}(h:unT a e k=some r): ∃u,unV a e.enc=some u.enc/\k u=some r/\u.ok H:=by unfold unT at h;split at h;obtain⟨e,b,h⟩:=gz h;exact⟨_,by rw[er];exact b,h,iH e⟩;cases h
def AFo(l:List Int):(Ty.int .u8).E.cl l=l.map (td .u8).f:=by
 unfold UQ.cl;induction l with
 |nil=>rfl
 |cons n l a=>simp only[Bo,IJ,a];rfl
def zO:WC P p I a (.int z F)=WC P [] I a (.int z F):=by unfold WC;cases kd P a<;>rfl
def zP{s:List UInt8}:WC P p I a (.str s)=WC P [] I a (.str s):=by unfold WC;cases kd P a<;>rfl
def vA(g: ∀d∈H,d.ok H)(c:e.ok H)(h:AAs P H I a e k=some r): ∃u,WC P (BC H) I a e.enc=some u.enc/\k u=some r/\u.ok H:=by
 unfold AAs at h;split at h;rename_i l;split at h;rename_i b;exact⟨_,ABV l b.1 b.2,h,Jz trivial⟩;cases h;rename_i id f n;split at h;rename_i b;split at h;rename_i l j;obtain⟨i,hn⟩:=kz g (c (.own id f (.int .u8) n) (by simp[TV.refs])) j;refine⟨_,?_,h,Jz trivial⟩;simp only[TV.enc,Bk.one,WC,b.1,b.2,if_true,rowsOf,i];rw[if_pos ⟨trivial,rfl,by rw[(Ty.int .u8).E.clen,hn];show 0+n<=n*1;omega⟩];have:((Ty.int .u8).E.cl l).length=n:=by rw[(Ty.int .u8).E.clen,hn];exact Nat.mul_one n
 rw[iS,<-this,Hs,AFo];exact congrArg (Option.map AY.str) (uf l);cases h;cases h;obtain⟨e,c,h⟩:=gz h;exact⟨_,by rw[er];exact zO.trans c,h,iH e⟩;obtain⟨e,c,h⟩:=gz h;exact⟨_,by rw[er];exact zP.trans c,h,iH e⟩;cases h
end
section
variable {P:Program} {R:Type} {H:Am} {k:TV->Option R} {r:R}
theorem gQ(h:V7 H N=some d):Sg (BC H) N 0=true:=by simp[Sg,qM h]
def tX{l:List t.D}(b: ∀e∈H,e.ok H)(hr:Uu H N U t n)(h:gB H N U t=some l):Sg (BC H) N n=true:=by simp[Sg,(kz b hr h).1]
theorem mv(x: ∀f∈H,f.ok H)(g:e.ok H)(h:kJ P H N n e k=some r): ∃u,U8 P (BC H) N n e.enc=some u.enc/\k u=some r/\u.ok H:=by
 unfold kJ at h;split at h;rename_i B t s z;split at h;cases h;rename_i hn;have d:s≠0:=λf=>t!
 unfold U8;simp only[z,if_neg d];split at h;rename_i id o;split at h;rename_i p c;exact⟨_,by simp only[TV.enc,Bk.one,shift,gQ c,if_true],h,Jz trivial⟩;cases h;rename_i p q;split at h;rename_i a b A;obtain⟨rfl,y⟩:=OM A;refine⟨_,?_,h,(JD.1 g).2⟩;simp only[TV.enc,shift];rw[if_pos (by simp only[Ad,Gx];omega),Gx,Ay,<-y,PM];cases h;rename_i id m s w i o;split at h;rename_i p c;refine⟨_,?_,h,λ_ h=>by cases h⟩;grind[TV.enc,shift,gQ];cases h;rename_i id j w s i o;split at h;rename_i l c;refine⟨_,?_,h,g⟩;simp only[TV.enc,shift,tX x (g (.own id j w s) (by simp[TV.refs])) c,if_true,cM];cases h;cases h;cases h
theorem uP(h:part P a d N=some e)(c: ∀t,N+t<=(lvs d).length->n+t<=i.length/\(i.drop n).take t=((lvs d).drop N).take t):qZ P a i n=some e.enc:=by grind[Qp,qZ,List.head?_take,List.head?_drop]
theorem th(d:e.ok H)(h:wy P N n e k=some r): ∃u,ph P N n e.enc=some u.enc/\k u=some r/\u.ok H:=by unfold wy at h;split at h;rename_i f t s g a;obtain⟨u,c,b⟩:=Vj h;refine⟨u,?_,b,(Qp c).2 H d⟩;simp only[ph,a,TV.enc];grind[uP];cases h
theorem pD{a:Ho n R}{x:R}(h:Gr a F=some x):0<=F/\F<n:=by obtain⟨c,j,rfl,_⟩:=mO h;grind
theorem nH(s: ∀t∈H,t.ok H)(C:e.ok H)(h:kP P H a e T k=some r): ∃u,VE P (BC H) a e.enc T.enc=some u.enc/\k u=some r/\u.ok H:=by
 unfold kP at h;split at h;rename_i L T;simp only[TV.enc,Bk.one,VE];split at h;rename_i len z sz p;simp only[p];split at h;rename_i id D;split at h;rename_i G m;split at h;rename_i F n b v g K;split at h;rename_i d;obtain⟨rfl,rfl⟩:=d;obtain⟨t,c,h⟩:=EC.1 h;refine⟨_,?_,h,λ_ h=>by cases h⟩;rw[if_pos (pD c)];simp only[TV.enc,Bk.one,shift,gQ m,if_true,SS];cases h;cases h;cases h;rename_i n b v M g;split at h;rename_i d;obtain⟨rfl,rfl⟩:=d;obtain⟨t,c,h⟩:=EC.1 h;refine⟨_,?_,h,b.lvs_ok t⟩;rw[if_pos (pD c)];obtain⟨_,o,q,_⟩:=AAd b.E c [] [];simp only[Cn,Dr,Bs,EQ]at o q;have B:T.toNat*b.sz+b.sz<=(cR (n+1) b.E v).length:=o;simp only[TV.enc,shift,Hi,aI];rw[if_pos q!];rw[b.lvs_enc,Ay,mW o!];have y:(cR (n+1) b.E v).drop (T.toNat*b.sz)=(b.enc t).cells++(cR (n+1) b.E v).drop (T.toNat*b.sz+b.sz):=by rw[<-Nc];have I:((cR (n+1) b.E v).drop (T.toNat*b.sz)).take b.sz=(b.enc t).cells:=q;grind[List.take_append_drop]
 rw[y,Ay];rfl;cases h;cases h;rename_i z sz p;simp only[p];split at h;rename_i b l;split at h;rename_i d;subst d;obtain⟨t,c,h⟩:=EC.1 h;obtain⟨q1,q2⟩:=AGo (f:=b.enc) c;refine⟨_,?_,h,b.lvs_ok t⟩;simp only[TV.enc,Bk.one];rw[if_pos ⟨q1,trivial⟩,q2,b.lvs_enc,Dr];rfl;cases h;rename_i id j b n;split at h;rename_i l m;split at h;rename_i d;subst d;obtain⟨t,c,h⟩:=EC.1 h;have hr:=C (.own id j b n) (by simp[TV.refs]);obtain⟨J,hn⟩:=kz s hr m;refine⟨.bptr id j b n T 0,?_,h,λx w=>by simp only[TV.refs,BA]at w;subst w;exact hr⟩;obtain⟨_,_,_,_,A,o,_,_⟩:=pW b.E c;simp only[TV.enc,Bk.one];rw[if_pos ⟨A,o!,trivial,tX s hr m⟩,EQ,SS];cases h;cases h;cases h;cases h;cases h
theorem lL{e:TypeId}{sz:Nat}{cs:List Bk}{i:Int}(b:lok H cs): ∀{m j:Nat},tQ P e sz cs i k m j=some r-> ∃u,(0<=i/\i<((j+m:Nat):Int))/\qZ P e (lvs cs) (i.toNat*sz)=some u.enc/\k u=some r/\u.ok H
 |m+1,j,h=>by
  simp only[tQ]at h;cases a:decide (i=Int.ofNat j)with
  |true=>
   rw[a]at h;have f:i=(j:Int):=by grind
   obtain⟨u,d,c⟩:=Vj h;refine⟨u,⟨by omega,by omega⟩,?_,c,(Qp d).2 H b⟩;grind[uP]
  |false=>rw[a]at h;obtain⟨u,q1,q2⟩:=lL b (m:=m) (j:=j+1) h;grind
theorem uC(A:e.ok H)(h:w9 P a e T k=some r): ∃u,gx P a e.enc T.enc=some u.enc/\k u=some r/\u.ok H:=by
 unfold w9 at h;split at h;rename_i B T;split at h;rename_i n c v;split at h;rename_i len x sz o;split at h;rename_i z;obtain⟨rfl,rfl⟩:=z;obtain⟨t,p,h⟩:=EC.1 h;obtain⟨u,q,f⟩:=Vj h;refine⟨u,?_,f,(Qp q).2 H (c.lvs_ok t)⟩;simp only[TV.enc,Bk.one,gx,o];rw[if_pos (pD p)];refine uP q λm d=>?_;rw[c.lvs_enc,c.enc_len,EQ]at d;obtain⟨j,l⟩:=AAY c.E (off:=0) [] [] p (m:=m) (by rw[EQ];exact d);simp at j l;have w:lvs [Bk.ar n c v]=cR (n+1) c.E v:=by grind[aI,lvs]
 rw[w,c.lvs_enc,iS];exact⟨j,l⟩;cases h;cases h;rename_i g _;split at h;rename_i len x sz o;split at h;obtain⟨u,q1,q2,q3⟩:=lL (cs:=g) (H:=H) A h;grind[TV.enc,Bk.one,gx];cases h;cases h;rename_i s;split at h;rename_i f;obtain⟨b,y,h⟩:=EC.1 h;exact⟨_,by simp only[TV.enc];exact AF1 y f,h,Jz trivial⟩;cases h;cases h;cases h
theorem kw{d:Nat}(h:zF d B=some F)(a:0<=F):WH d (B.map TV.enc)=some F.toNat:=by unfold zF at h;grind[WH,TV.enc,Bk.one,qT]
theorem ub{i m:Option TV}(h:xi P a e B i m k=some r): ∃u,iF P (BC H) a e.enc (B.map TV.enc) (i.map TV.enc) (m.map TV.enc)=some u.enc/\k u=some r/\u.ok H:=by unfold xi at h;split at h;cases h;split at h;rename_i s;split at h;rename_i l w g b;split at h;rename_i y;obtain⟨x,c,h⟩:=EC.1 h;refine⟨_,?_,h,Jz trivial⟩;unfold UN at c;split at c;rename_i v;simp only[TV.enc,Bk.one,iF,kw (d:=0) g v.1,kw b (mR v.1 v.2.1)];grind;cases c;cases h;cases h;rename_i z f;split at h;rename_i l w A sz g b q;split at h;rename_i y;obtain⟨x,c,h⟩:=EC.1 h;refine⟨_,?_,h,Jz trivial⟩;unfold cH at c;split at c;rename_i v;have t:(f.map z.enc).length=f.length:=Ds _;have n:=kw (d:=0) g v.1;have o:=kw b (mR v.1 v.2.1);have p:WH f.length none=some f.length:=rfl;simp only[TV.enc,Bk.one,iF,t,n,o,p,q];grind[List.map_take,List.map_drop];cases c;cases h;cases h;cases h
def xC(d: ∀t∈H,t.ok H)(g:e.ok H)(h:AEx P H a e k=some r): ∃u,qL P (BC H) a e.enc=some u.enc/\k u=some r/\u.ok H:=by unfold AEx at h;split at h;rename_i s v;exact⟨_,by simp only[qL,v,TV.enc,Bk.one],h,Jz trivial⟩;rename_i n t v;exact⟨_,by simp only[qL,v,TV.enc,Bk.one],h,Jz trivial⟩;rename_i b l t v;exact⟨_,by simp only[qL,v,TV.enc,Bk.one,Ds],h,Jz trivial⟩;rename_i t id c b n v;split at h;rename_i l f;refine⟨_,?_,h,Jz trivial⟩;simp only[qL,v,TV.enc,Bk.one];cases h;rename_i t v;exact⟨_,by simp only[qL,v,TV.enc,Bk.one],h,Jz trivial⟩;cases h
end
def Xp(h:e.words=some d):e.enc.solid=true/\e.enc.cells=lvs d/\ ∀H,e.ok H->lok H d:=by unfold TV.words at h;split at h;rename_i x;split at h;rename_i a;simp at a;injection h with h;subst h;refine⟨a.2,?_,λH b=>b⟩;rw[Hi,MB a.1];exact Bk.scalar_cells a.1;cases h;injection h with h;subst h;exact⟨rfl,rfl,λH b=>b⟩;cases h
theorem jF{f c:List Bk}{e n:Nat}(h:z6 d e f n=some c)(hn:(lvs f).length=n):lvs c=Vm (lvs d) e (lvs f)/\e+n<=(lvs d).length/\ ∀H,lok H d->lok H f->lok H c:=by unfold z6 at h;split at h;rename_i a r i;obtain⟨rfl,l⟩:=OM i;split at h;rename_i m b g;obtain⟨rfl,o⟩:=OM g;refine⟨?_,by simp only[Gx,Ad];omega,λH j k=>?_⟩;grind[Vm,Gx];grind[JD];cases h;cases h
mutual
theorem Ty.zlvs_ok{H:Am}: ∀t:Ty,lok H t.zlvs
 | .bool=>λy a=>by simp only[Ty.zlvs,BA]at a;subst a;trivial
 | .int _=>λy a=>by simp only[Ty.zlvs,BA]at a;subst a;trivial
 | .str=>λy a=>by simp only[Ty.zlvs,BA]at a;subst a;trivial
 | .list _=>λy a=>by simp only[Ty.zlvs,BA]at a;subst a;trivial
 | .arr n t=>λy a=>by simp only[Ty.zlvs,BA]at a;subst a;trivial
 | .prod b=>by simp only[Ty.zlvs];exact b.zlvs_ok
theorem RU.zlvs_ok{H:Am}: ∀a:RU,lok H a.zlvs
 | .one t=>by simp only[RU.zlvs];exact t.zlvs_ok
 | .cons t a=>by simp only[RU.zlvs];exact JD.2 ⟨t.zlvs_ok,a.zlvs_ok⟩
end
def ze(v:AY):(sS v).enc=[v]:=by cases v<;>rfl
theorem ABH(v:AY):(sS v).ok b:=by cases v<;>trivial
theorem nJ: ∀z:List AY,lvs (z.map sS)=z
 |[]=>rfl
 |v::r=>by rw[Bo,Hi,nJ r,ze];rfl
theorem ym(z:List AY):lok b (z.map sS):=λx a=>by grind[ABH]
theorem Xt(h:qz P a=some d):Xq P a=some (lvs d)/\ ∀H,lok H d:=by unfold qz at h;split at h;rename_i z b;split at h;rename_i e t;split at h;rename_i c;injection h with h;subst h;exact⟨by rw[b,cT _ _ c],λH=>e.zlvs_ok⟩;grind[nJ,ym];grind[nJ,ym];cases h
theorem pi{p:Yt}: ∀{a:List (Nat×TV)} {c b:List Bk},vO p c a=some b->nu p (lvs c) (a.map λq=>(q.1,q.2.enc))=some (lvs b)/\ ∀H,lok H c->(∀q∈a,q.2.ok H)->lok H b
 |[],c,b,h=>by simp only[vO,Al]at h;subst h;exact⟨rfl,λH h _=>h⟩
 |(i,v)::r,c,b,h=>by simp only[vO]at h;split at h;rename_i m size z t l;split at h;rename_i k;have e:=DN k;split at h;rename_i s d;obtain⟨x,y,o⟩:=Xp l;obtain⟨u,w,n⟩:=jF d (by rw[cD,e]);obtain⟨q1,q2⟩:=pi h;refine⟨?_,λH g f=>q2 H (n H g (o H (f (i,v) k!))) λq j=>f q (by simp[j])⟩;grind[nu,cD];cases h;cases h;cases h
section
variable {P:Program} {R:Type} {env:BV} {H:Am} {k:TV->Option R} {r:R}
theorem uy{v:List (Nat×TV)}(h:wm P a v=some e):pL P a (v.map λq=>(q.1,q.2.enc))=some e.enc/\((∀q∈v,q.2.ok H)->e.ok H):=by unfold wm at h;split at h;rename_i z p t j;obtain⟨k,f⟩:=Xt t;rw[Wy]at h;obtain⟨g,c,rfl⟩:=h;obtain⟨i,b⟩:=pi c;refine⟨?_,λd=>b H (f H) d⟩;grind[pL,TV.enc];cases h
def nP: ∀{l:List TV} {m:List AY},qe l=some m->m=l.map TV.enc
 |[],m,h=>by simp only[qe,Al]at h;subst h;rfl
 | .c x::r,m,h=>by simp only[qe]at h;split at h;rename_i b _ a;injection h with h;subst h;rw[Bo,<-nP a];rfl;cases h
 | .g _::_,m,h=>by simp[qe]at h
 | .aptr .. ::_,m,h=>by simp[qe]at h
 | .bptr .. ::_,m,h=>by simp[qe]at h
 | .vptr .. ::_,m,h=>by simp[qe]at h
 | .tup _::_,m,h=>by simp[qe]at h
def sY(h:mmT D e T k=some r): ∃u,mmV D [e.enc,T.enc]=some u.enc/\k u=some r/\u.ok H:=by unfold mmT at h;split at h;exact⟨_,by simp only[TV.enc,Bk.one,mmV],h,Jz trivial⟩;cases h
def xJ{z:TV}(h:AEy e T z k=some r): ∃u,mm3 e.enc T.enc z.enc=some u.enc/\k u=some r/\u.ok H:=by unfold AEy at h;split at h;exact⟨_,by simp only[TV.enc,Bk.one,mm3],h,Jz trivial⟩;cases h
theorem so{F:Op}(ok:PJ env H)(h:quT P env H F k=some r): ∃v,CU P (B6 env) (BC H) F=some v.enc/\k v=some r/\v.ok H:=by
 have j: ∀x,(I9 env x).ok H:=ZU ok.env;have g:=Jj env;unfold quT at h;split at h;grind[CU];grind[CU];rename_i c a b;split at h;rename_i t K;have w:BH (B6 env) c= .bool t:=by rw[g,K];rfl
 grind[CU,Bool.false_eq_true];cases h;obtain⟨u,d,e⟩:=oD ok.heap (j _) h;grind[CU];rename_i x;split at h;grind[BH,B6,CU,gQ,TV.enc,Bk.one,Jz];grind[BH,B6,CU,TV.enc,Bk.one,Jz];grind[BH,B6,lvs,CU,TV.enc];grind[BH,B6,CU,gQ,TV.enc];rename_i id D G n i B s;split at h;rename_i l A;have w:BH (B6 env) x= .ptr id n (i.toNat*G.sz+B):=by rw[g,s];rfl
 have:=j x;rw[s]at this;exact⟨_,by simp only[CU,w,tX ok.heap (this (.own id D G n) (by simp[TV.refs])) A,if_true,TV.enc],h,this⟩;cases h;cases h;simp_all[wh,CU];obtain⟨u,d,e⟩:=AAE (H:=H) h;exact⟨u,by simp only[CU,g,d],e⟩;obtain⟨u,d,e⟩:=vA ok.heap (j _) h;exact⟨u,by simp only[CU,g,d],e⟩;obtain⟨u,d,e⟩:=mv ok.heap (j _) h;exact⟨u,by simp only[CU,g,d],e⟩;obtain⟨u,d,e⟩:=th (j _) h;exact⟨u,by simp only[CU,g,d],e⟩;obtain⟨u,d,e⟩:=nH ok.heap (j _) h;exact⟨u,by simp only[CU,g,d],e⟩;obtain⟨u,d,e⟩:=uC (H:=H) (j _) h;exact⟨u,by simp only[CU,g,d],e⟩;rename_i t x Q O R;obtain⟨u,d,e⟩:=ub (H:=H) h;have q: ∀o:Option Operand,o.map (BH (B6 env))=(o.map (I9 env)).map TV.enc:=by
  intro o;cases o with
  |none=>rfl
  |some y=>simp only[Bp,g]
 exact⟨u,by simp only[CU,g,q,d],e⟩;rename_i x i;split at h;rename_i N s;split at h;rename_i v z;have w:BH (B6 env) x= .tup (N.map TV.enc):=by rw[g,s];simp only[TV.enc,pd]
 have E:=j x;rw[s]at E;exact⟨v,by simp only[CU,w,CO,z,Bp],h,nO E (BM z)⟩;cases h;cases h;rename_i f a b;split at h;rename_i l m A L;refine⟨_,?_,h,Jz trivial⟩;have q: ∀o:List Operand,o.map (BH (B6 env))=(o.map (I9 env)).map TV.enc:=by intro o;rw[OR];exact Mi λy _=>g y
 simp only[CU,q,<-nP A,<-nP L,TV.enc,Bk.one];cases h;rename_i t C;obtain⟨v,z,h⟩:=Vj h;obtain⟨I,J⟩:=uy (H:=H) z;refine⟨v,?_,h,J λq M=>?_⟩;simp only[CU];rw[<-I,OR];congr 1;exact Mi λp _=>by simp only[Function.comp,g]
 obtain⟨p,_,rfl⟩:=B0.1 M;exact j _;obtain⟨u,d,e⟩:=xC ok.heap (j _) h;exact⟨u,by simp only[CU,g,d],e⟩;obtain⟨u,d,e⟩:=sY (H:=H) h;exact⟨u,by simp only[CU,g,d],e⟩;obtain⟨u,d,e⟩:=sY (H:=H) h;exact⟨u,by simp only[CU,g,d],e⟩;obtain⟨u,d,e⟩:=xJ (H:=H) h;exact⟨u,by simp only[CU,g,d],e⟩;cases h
end
def Conv(x y:Cx)(v v':AY):Prop:= ∀c,Bi x v c->Bi y v' c
def Ta(x y:Cx)(H H2:Ar):Prop:=
 H2.length=H.length/\ ∀(j:Nat) (e':Eo),H2[j]? =some e'->e'= .dead\/
  (∃g cs cs',H[j]? =some (.live g cs)/\e'= .live g cs'/\cs'.length=cs.length/\ ∀(i:Nat) (v':AY),cs'[i]? =some v'-> ∃v,cs[i]? =some v/\Conv x y v v')\/
  (H[j]? =some e'/\ ∀g cs,e'≠ .live g cs)
theorem Ta.refl(x:Cx)(H:Ar):Ta x x H H:=by
 refine⟨rfl,λj a d=>?_⟩;cases a with
 |live g c=>exact .inr (.inl ⟨g,c,c,d,rfl,rfl,λi v b=>⟨v,b,λ_ r=>r⟩⟩)
 |_=>grind
theorem Ta.own{H d:Ar}{h:Gh}(hr:Ta x y H d): ∀B,owned h d B->owned h H B:=by rintro B ⟨j,f,i,c,a⟩;rcases hr.2 j f i with b|⟨g,k,e,b,_⟩|⟨b,_⟩;grind;exact⟨j,_,b,k!,a⟩;exact⟨j,_,b,c,a⟩
def Ta.later{h:Gh}{H a:Ar}{w:World}{x y:Cx}(hr:Ta x y H a):(cx X h H w).Later (cx X h a w):={size:=Ai _,keep:=λ_ _ _ _=>rfl,own:=λB _ b=>b.imp _root_.id (hr.own B),n:=by simp[cx,hr.1],gen:=λ_ _=>Ai _,same:=λ_ _ _=>⟨rfl,rfl⟩}
theorem JE.rel{X:Nat->Prop}(s:JE X h p w)(hr:Ta (cx X h p w) (cx X h Z w) p Z):JE X h Z w:=by
 have y:=hr.own (h:=h);have M:(cx X h p w).Later (cx X h Z w):=hr.later;have back: ∀{j:Nat} {e:Eo},Z[j]? =some e->e≠ .dead-> ∃N,p[j]? =some N/\N≠ .dead:=by intro j e l ad;rcases hr.2 j e l with a|⟨g,z,C,a,_⟩|⟨a,_⟩;grind;grind;grind
 refine⟨λB H=>⟨(s.out B H).1,λho=>(s.out B H).2 (y B ho)⟩,λj Q C l=>?_,λj L l=>?_,λi j e e' B a c J K O D=>?_,s.bldKeep λj e l H=>?_⟩;rcases hr.2 j _ l with a|⟨g,z,o,a,c,O,D⟩|⟨_,a⟩;cases a;injection c with R S;subst R S;obtain⟨I,W⟩:=s.live j Q z a;refine⟨I,?_⟩;rcases W with⟨k,h0⟩|⟨B,A,T,P,f,k,V,q,n,G,b⟩;refine .inl ⟨k,?_⟩;grind;refine .inr ⟨B,A,T,P,f,k,V,q,o!,G,λi v' Y=>?_⟩;obtain⟨v,hv,U⟩:=D i v' Y;obtain⟨p1,p2,p3⟩:=b i v hv;exact⟨p1,p2,U _ p3⟩;grind;rcases hr.2 j _ l with a|⟨g,z,o,_,c,_⟩|⟨a,_⟩;cases a;cases c;obtain⟨I,B,r,q1,q2,q3,q4,q5,q6,q7,q8,q9⟩:=s.lp j L a;exact⟨I,B,r,q1,q2,q3,q4,q5,q6,q7,q8,λt v m=>⟨(q9 t v m).1,(q9 t v m).2.later M⟩⟩;obtain⟨d,E,F⟩:=back a J;obtain⟨d',u,x⟩:=back c K;exact s.inj i j _ _ B E u F x O D;refine⟨?_,rfl,rfl,rfl,λ_ _ _ _ _=>rfl⟩;rcases hr.2 j _ l with a|⟨g,z,o,_,c,_⟩|⟨a,_⟩;subst a;cases H;subst c;cases H;exact a
theorem Ta.onto(hr:Ta (cx X h p w) (cx X h p w) p Z):Ta (cx X h p w) (cx X h Z w) p Z:=by have e:(cx X h p w).Later (cx X h Z w):=hr.later;refine⟨hr.1,λj k H=>?_⟩;rcases hr.2 j k H with d|⟨g,f,b,d,l,m,n⟩|d;grind;refine .inr (.inl ⟨g,f,b,d,l,m,λi q o=>?_⟩);obtain⟨v,q1,q2⟩:=n i q o;exact⟨v,q1,λc r=>(q2 c r).later e⟩;grind
def VN{env2:Env}(f:Z.length=p.length)(hr: ∀X h w,JE X h p w→Ta (cx X h p w) (cx X h Z w) p Z∧ ∀t c,(t,c)∈env2→ ∃v,(t,v)∈s∧Conv (cx X h p w) (cx X h Z w) v c):
  GC N p.length s p env2 Z:=by
 refine⟨o!,λX h a w H=>?_⟩;obtain⟨q1,q2⟩:=hr X h w H.sim;refine⟨h,⟨H.sim.rel q1,λt c m=>?_,H.size⟩,λ_ _=>⟨rfl,rfl,rfl⟩,q1.own⟩;obtain⟨v,d,e⟩:=q2 t c m;exact⟨(H.env t v d).1,e _ (H.env t v d).2⟩
def Ta.ext{X:Nat->Prop}{c:Gh}{H a b:Ar}{d:World}(hr:Ta x y H b)(e:HP c a d h H w):HP c a d h b w where
 os:=e.os
 tape:=e.tape
 output:=e.output
 size:=e.size
 keep:=e.keep
 n:=by rw[hr.1];exact e.n
 gen:=e.gen
 same:=e.same
 fresh B hB:=e.fresh B (hr.own B hB)
 loops:=e.loops
def JT.after{N:Nat}{H:Ar}{v f:AY}{H1 b:Ar}(h:JT P N o s H (C4 v H1))
  (hr: ∀X h w,JE X h H1 w->Ta (cx X h H1 w) (cx X h b w) H1 b/\Conv (cx X h H1 w) (cx X h b w) v f):JT P N o s H (C4 f b):=by
 intro r X g a w p Q;apply VH (h r X g a w p Q);rintro n l ⟨c,u,d,m,i,⟨rfl,rfl⟩,j,e,k⟩;obtain⟨q1,q2⟩:=hr X d l e;exact⟨c,_,d,_,i,⟨rfl,rfl⟩,q2 _ j,e.rel q1,Ta.ext (X:=X) q1 k⟩
def JT.before{N:Nat}{env2:Env}{H H2:Ar}{K:AY->Ar->Prop}(b:GC N H.length s H env2 H2)(h:JT P N o env2 H2 K):JT P N o s H K:=by intro r X g a w x Q;obtain⟨f,q,j,l⟩:=b.2 X g a w x;apply VH (h r X f a w q Q);rintro t u ⟨c,v,e,d,i,k,n,m,p⟩;exact⟨c,v,e,d,i,k,n,m,(GC.ext rfl b.1 j l (HP.refl g H w)).trans p⟩
def Ee.before{args args2:List AY}{H H2:Ar}{K:AY→Ar→Prop}(hn:args2.length=args.length)
  (hr: ∀X h w,JE X h H w->Ta (cx X h H w) (cx X h H2 w) H H2/\ ∀(j:Nat) (b:AY),args2[j]? =some b-> ∃v,args[j]? =some v/\Conv (cx X h H w) (cx X h H2 w) v b)
  (h:Ee P S args2 H2 K):Ee P S args H K:=by
 intro X g w a s n k;obtain⟨q1,q2⟩:=hr X g w s;refine(h X g w a (s.rel q1) o! λj b c m l=>?_).mono ?_;obtain⟨v,o,d⟩:=q2 j b m;exact d _ (k j v c o l);rintro e t ⟨c,v,i,f,rfl,q,r,p,x⟩;exact⟨c,v,i,f,rfl,q,r,p,(Ta.ext (X:=X) q1 (HP.refl g H w)).trans x⟩
def WG(v v':AY):Prop:= ∀(x:Cx) (c:Value),Bi x v c->Bi x v' c
def WG.refl(v:AY):WG v v:=λ_ _ h=>h
def WG.nil{sz:Nat}(h:0<sz):WG .nils (.vs sz []):=λ_ _ r=>r.nil_vs h
def Dm(cs cs':List AY):Prop:=cs'.length=cs.length/\ ∀(i:Nat) (v':AY),cs'[i]? =some v'-> ∃v,cs[i]? =some v/\WG v v'
theorem Dm.refl(a:List AY):Dm a a:=⟨rfl,λ_ v h=>⟨v,h,.refl v⟩⟩
theorem Dm.append{b f:List AY}(c:Dm i Q)(g:Dm b f):Dm (i++b) (Q++f):=by refine⟨by simp[c.1,g.1],λa j h=>?_⟩;rcases Aq a Q.length with d|d;rw[CK d]at h;obtain⟨v,q1,q2⟩:=c.2 a j h;grind;rw[Cb d]at h;obtain⟨v,q1,q2⟩:=g.2 _ j h;exact⟨v,by rw[Cb (by rw[<-c.1];exact d),<-c.1];exact q1,q2⟩
theorem Dm.one{b:AY}(h:WG v b):Dm [v] [b]:=⟨rfl,λi u a=>by
 match i,a with
 |0,a=>grind
 |i+1,a=>simp at a⟩
def Dm.agg{b a:List AY}(h:Dm b a):WG (.agg b) (.agg a):=by
 intro x c r;cases r with
 |agg i e hr=>refine .agg (by rw[i,h.1]) e λj k d g f=>?_;obtain⟨v,q1,q2⟩:=h.2 j k g;exact q2 _ _ (hr j v d q1 f)
mutual
def Ty.mk:(t:Ty)->List Bk->Option (t.D×List Bk)
 | .bool,.bl b::r=>some (b,r)
 | .int k,.it k' n::r=>if k=k' then some (n,r)else none
 | .str,.st s::r=>some (s,r)
 | .list t,.ls t' l::r=>if h:(Ty.list t').beq (Ty.list t)=true then some (Ty.cast h l,r)else none
 | .list _,.nil::r=>some ([],r)
 | .arr n t,.ar n' t' a::r=>if h:(Ty.arr n' t').beq (Ty.arr n t)=true then some (Ty.cast h a,r)else none
 | .prod ts,ls=>ts.mk ls
 |_,_=>none
def RU.mk:(ts:RU)->List Bk->Option (ts.D×List Bk)
 | .one t,ls=>t.mk ls
 | .cons t ts,ls=>
  match t.mk ls with
  |some (x,r)=>match ts.mk r with|some (y,r')=>some ((x,y),r')|none=>none
  |none=>none
end
mutual
theorem Ty.mk_spec: ∀(t:Ty) (b:List Bk) (x:t.D) (r:List Bk),t.mk b=some (x,r)-> ∃a,b=a++r/\Dm (lvs a) (t.enc x).cells
 | .bool,b,x,r,h=>by
  cases b with
  |nil=>simp[Ty.mk]at h
  |cons y b=>
   cases y<;>simp only[Ty.mk]at h<;>try (cases h;done)
   simp only[Al,D6]at h;obtain⟨rfl,rfl⟩:=h;exact⟨[_],rfl,Dm.refl _⟩
 | .int k,b,x,r,h=>by
  cases b with
  |nil=>simp[Ty.mk]at h
  |cons y b=>
   cases y<;>simp only[Ty.mk]at h<;>try (cases h;done)
   split at h;rename_i f;subst f;simp only[Al,D6]at h;obtain⟨rfl,rfl⟩:=h;exact⟨[_],rfl,Dm.refl _⟩;cases h
 | .str,b,x,r,h=>by
  cases b with
  |nil=>simp[Ty.mk]at h
  |cons y b=>
   cases y<;>simp only[Ty.mk]at h<;>try (cases h;done)
   simp only[Al,D6]at h;obtain⟨rfl,rfl⟩:=h;exact⟨[_],rfl,Dm.refl _⟩
 | .list t,b,x,r,h=>by
  cases b with
  |nil=>simp[Ty.mk]at h
  |cons y b=>
   cases y<;>simp only[Ty.mk]at h<;>try (cases h;done)
   split at h;rename_i c;simp only[Al,D6]at h;obtain⟨rfl,rfl⟩:=h;refine⟨[_],rfl,?_⟩;have d:((Ty.list t).enc (Ty.cast c ‹_›))=_:=bK c _;rw[d];exact Dm.refl _;cases h;simp only[Al,D6]at h;obtain⟨rfl,rfl⟩:=h;exact⟨[_],rfl,Dm.one (WG.nil t.sz_pos)⟩
 | .arr n t,b,x,r,h=>by
  cases b with
  |nil=>simp[Ty.mk]at h
  |cons y b=>
   cases y<;>simp only[Ty.mk]at h<;>try (cases h;done)
   split at h;rename_i c;simp only[Al,D6]at h;obtain⟨rfl,rfl⟩:=h;refine⟨[_],rfl,?_⟩;have d:((Ty.arr n t).enc (Ty.cast c ‹_›))=_:=bK c _;rw[d];have e: ∀y:Bk,lvs [y]=y.enc:=λy=>by rw[Hi];simp[lvs]
   rw[e];exact Dm.refl _;cases h
 | .prod ts,b,x,r,h=>ts.mk_spec b x r (by simpa only[Ty.mk]using h)
theorem RU.mk_spec: ∀(d:RU) (c:List Bk) (x:d.D) (r:List Bk),d.mk c=some (x,r)-> ∃a,c=a++r/\Dm (lvs a) (d.cells x)
 | .one t,c,x,r,h=>t.mk_spec c x r (by simpa only[RU.mk]using h)
 | .cons t d,c,x,r,h=>by simp only[RU.mk]at h;split at h;rename_i y e f;split at h;rename_i z k g;simp only[Al,D6]at h;obtain⟨rfl,rfl⟩:=h;obtain⟨a,rfl,i⟩:=t.mk_spec c y e f;obtain⟨b,rfl,j⟩:=d.mk_spec e z k g;exact⟨a++b,by rw[Ay],by rw[Gx];exact i.append j⟩;cases h;cases h
end
def Ty.isAgg:Ty->Bool
 | .arr .. =>true
 | .prod _=>true
 |_=>false
def Ty.all(t:Ty)(ls:List Bk):Option t.D:=
 match t.mk ls with
 |some (x,[])=>some x
 |_=>none
theorem Fy{x:t.D}(h:t.all d=some x):Dm (Go.Ab.lvs d) (t.enc x).cells:=by unfold Ty.all at h;split at h;rename_i y c;obtain⟨a,rfl,b⟩:=t.mk_spec d y [] c;grind;cases h
def Ty.data(t:Ty)(v:TV):Option t.D:=
 match v with
 | .c x=>match t.isAgg|| !x.scalar with|true=>none|false=>t.all [x]
 | .g cs=>match t.isAgg with|true=>t.all cs|false=>none
 |_=>none
def Ty.scalar_cells(h:t.isAgg=false)(x:t.D):(t.enc x).cells=[t.enc x]:=by cases t<;>first|rfl|cases h
def Ty.agg_enc(h:t.isAgg=true)(x:t.D):t.enc x= .agg (t.enc x).cells:=by cases t<;>first|rfl|cases h
def MC{v:TV}{x:t.D}(h:t.data v=some x):WG v.enc (t.enc x):=by unfold Ty.data at h;split at h;rename_i y;split at h;cases h;rename_i a;simp at a;have:=Fy h;rw[t.scalar_cells a.1,Hi,MB a.2]at this;obtain⟨u,b,c⟩:=this.2 0 _ rfl;simp at b;subst b;exact c;rename_i d;split at h;rename_i a;have:=(Fy h).agg;rw[<-t.agg_enc a]at this;exact this;cases h;cases h
def Ty.tv(t:Ty)(x:t.D):TV:=
 match t,x with
 | .bool,b=>.c (.bl b)
 | .int k,n=>.c (.it k n)
 | .str,s=>.c (.st s)
 | .list t,l=>.c (.ls t l)
 | .arr n t,a=>.g [.ar n t a]
 | .prod ts,x=>.g (ts.lvs x)
def Ty.tv_enc(t:Ty)(x:t.D):(t.tv x).enc=t.enc x:=by
 cases t with
 |arr n t=>
  have a: ∀y:Bk,Go.Ab.lvs [y]=y.enc:=λy=>by rw[Hi];simp[Go.Ab.lvs]
  simp only[Ty.tv,TV.enc,a];rfl
 |prod b=>simp only[Ty.tv,TV.enc,b.lvs_cells];rfl
 |_=>rfl
def Ty.tv_ok(t:Ty)(x:t.D):(t.tv x).ok b:=by
 cases t with
 |prod a=>exact a.lvs_ok x
 |_=>exact Jz trivial
def D5.ro:D5->Bool
 | .dead=>false
 | .live b _=>b
 | .buf b _ _ _ _=>b
 | .lp b _ _ _ _ _ _ _=>b
 | .mp b _ _ _=>b
def D5.isLp:D5->Bool
 | .lp .. =>true
 |_=>false
def LpS(H H':Am):Prop:= ∀(id:Nat),id<H.length-> ∀ro F n env ps a b s,H'[id]? =some (.lp ro F n env ps a b s)-> ∃ro0 s0,H[id]? =some (.lp ro0 F n env ps a b s0)
def LpS.refl(H:Am):LpS H H:=λ_ _ _ _ _ _ _ _ _ _ h=>⟨_,_,h⟩
def D5.lock:D5->D5
 | .dead=>.dead
 | .live _ cs=>.live true cs
 | .buf _ t l n ver=>.buf true t l n ver
 | .lp _ F n env ps a b s=>.lp true F n env ps a b s
 | .mp _ k t es=>.mp true k t es
theorem qN(e:D5):e.lock.enc=e.enc:=by cases e<;>rfl
structure CC(H H':Am):Prop where
 len:H.length<=H'.length
 refs: ∀id ver t n,Uu H id ver t n->Uu H' id ver t n
 ro: ∀(id:Nat) (e:D5),H[id]? =some e->e.ro=true->H'[id]? =some e
 nb: ∀id,id<H.length->(∀t l n ver,H[id]? ≠some (.buf false t l n ver))-> ∀t l n ver,H'[id]? ≠some (.buf false t l n ver)
 lp:LpS H H'
theorem CC.refl(H:Am):CC H H:=⟨Ai _,λ_ _ _ _ h=>h,λ_ _ h _=>h,λ_ _ h=>h,.refl H⟩
def CC.trans{a b c:Am}(h:CC a b)(k:CC b c):CC a c:=⟨EB h.len k.len,λid d t n q=>k.refs id d t n (h.refs id d t n q),λid e q r=>k.ro id e (h.ro id e q r) r,λid q r=>k.nb id (DO q h.len) (h.nb id q r),λid q _ _ _ _ _ _ _ _ r=>by obtain⟨g,i,f⟩:=k.lp id (DO q h.len) _ _ _ _ _ _ _ _ r;exact h.lp id q _ _ _ _ _ _ _ _ f⟩
def CC.leaf(h:CC G b)(k:u.ok G):u.ok b:=by
 cases u with
 |own id a t n=>exact h.refs id a t n k
 |_=>trivial
def CC.lok(h:CC b G)(k:lok b d):lok G d:=λx c=>h.leaf (k x c)
def CC.tv(h:CC b G)(k:e.ok b):e.ok G:=h.lok k
def CC.ent(h:CC b G)(k:C.ok b):C.ok G:=by
 cases C with
 |live H d=>exact h.lok k
 |buf H t l n c=>exact k
 |dead=>trivial
 |lp=>exact k
 |mp=>exact k
def CC.env{H a:Am}(h:CC H a){env:BV}(k: ∀p∈env,p.2.ok H): ∀p∈env,p.2.ok a:=λp b=>h.tv (k p b)
theorem CC.push(H:Am)(e:D5):CC H (H++[e]):=by refine⟨k!,λid g t n h=>⟨by have:=h.1;simp;omega,λro f l d a b=>?_⟩,λid i b hr=>?_,λid c h=>q!,λid c _ _ _ _ _ _ _ _ h=>q!⟩;rw[CK h.1]at b;exact h.2 ro f l d a b;grind
def CC.set{H:Am}{id:Nat}{r:D5}(o:H[id]? =some C)(hr:C.ro=false)
  (y: ∀ro t l n k,r= .buf ro t l n k-> ∃d v p f,C= .buf d t v p f/\(f<k\/(f=k/\p=n)))
  (B: ∀ro F n env z a b s,r= .lp ro F n env z a b s-> ∃d w,C= .lp d F n env z a b w:=by intro _ _ _ _ _ _ _ _ h;cases h):CC H (H.set id r):=by
 have m:id<H.length:=by rcases Aq id H.length with u|u;exact u;rw[Cj u]at o;cases o
 refine⟨k!,λj k t n h=>⟨by simpa using h.1,λro I l G A g=>?_⟩,λj E g x=>?_,λj g h t l n k i=>?_,λj g _ _ _ _ _ _ _ _ i=>?_⟩;by_cases c:j=id;subst c;rw[IK m]at g;injection g with g;obtain⟨d,v,p,f,q1,q2⟩:=y _ _ _ _ _ g;subst q1;obtain⟨e,D⟩:=h.2 _ _ _ _ _ o;rcases q2 with q2|⟨rfl,rfl⟩;exact⟨o!,λC=>o!⟩;exact⟨e,D⟩;rw[EA (λC=>c C.symm)]at g;exact h.2 _ _ _ _ _ g;have c:j≠id:=by rintro rfl;rw[o]at g;injection g with g;subst g;rw[hr]at x;cases x
 rw[EA (λC=>c C.symm)];exact g;by_cases c:j=id;subst c;rw[IK m]at i;injection i with i;obtain⟨d,v,p,f,q1,_⟩:=y _ _ _ _ _ i;subst q1;have:d=false:=hr;subst this;exact h _ _ _ _ o;rw[EA (λC=>c C.symm)]at i;exact h _ _ _ _ i;by_cases c:j=id;subst c;rw[IK m]at i;injection i with i;obtain⟨d,w,q⟩:=B _ _ _ _ _ _ _ _ i;exact⟨d,w,by rw[o,q]⟩;rw[EA (λC=>c C.symm)]at i;exact⟨_,_,i⟩
theorem PH{H:Am}(h: ∀x∈H,x.ok H)(b:C.ok (H++[C])): ∀x∈H++[C],x.ok (H++[C]):=by intro x a;rcases An.1 a with a|a;exact(CC.push H C).ent (h x a);grind
def UK{H:Am}{id:Nat}(d:CC H (H.set id C))(h: ∀x∈H,x.ok H)(c:C.ok (H.set id C)): ∀x∈H.set id C,x.ok (H.set id C):=by intro x b;rcases Ux b with b|rfl;exact d.ent (h x b);exact c
def Frame(F:List Nat)(H H':Am):Prop:= ∀j,j<H.length->j∉F->H'[j]? =H[j]?
def Frame.refl(F:List Nat)(H:Am):Frame F H H:=λ_ _ _=>rfl
def Frame.push(F:List Nat)(H:Am)(e:D5):Frame F H (H++[e]):=λ_ a _=>CK a
theorem Frame.set{F:List Nat}{H:Am}{id:Nat}(h:id∈F):Frame F H (H.set id C):=λj _ hn=>EA λq:id=j=>hn q!
def idT:TV->List Nat
 | .c (.raw a)=>nG a
 | .c (.own id _ _ _)=>[id]
 | .aptr id .. =>[id]
 | .bptr id .. =>[id]
 |_=>[]
theorem AC5(v:TV):nG v.enc=idT v:=by
 cases v with
 |c x=>
  cases x with
  |_=>rfl
 |_=>rfl
def Ql(H:Am)(e:D5):BC (H++[e])=BC H++[e.enc]:=by simp[BC]
theorem Ni(H:Am)(id:Nat)(e:D5):BC (H.set id e)=(BC H).set id e.enc:=by simp[BC]
theorem CW(H:Am):(BC H).length=H.length:=Ds _
section
variable {R:Type}
def storeT(P:Program)(H:Am)(t:TypeId)(p v:TV)(k:TV->Am->Option R):Option R:=
 match v.words,tI P t with
 |some ws,some (_,n)=>
  match Nat.beq (ACD ws) n with
  |false=>none
  |true=>
   match p with
   | .c (.raw (.ptr id 0 off))=>
    match H[id]? with
    |some (.live false cs)=>match z6 cs off ws n with|some cs'=>k R8 (H.set id (.live false cs'))|none=>none
    |_=>none
   | .aptr id base m te i off=>
    match H[id]? with
    |some (.live false cs)=>
     match V8 cs base with
     |some (pre,.ar m' te' a::post)=>
      if h:(Ty.arr m' te').beq (Ty.arr m te)=true then
       (Gr (n:=m+1) (Ty.cast h a) i).bind λe=>
        match z6 (te.lvs e) off ws n with
        |some ls=>match te.all ls with|some e'=>k R8 (H.set id (.live false (pre++(.ar m te (Vq (n:=m+1) (Ty.cast h a) i e')::post))))|none=>none
        |none=>none
      else none
     |_=>none
    |_=>none
   | .bptr id ver te _ i off=>
    match H[id]? with
    |some (.buf false te' l n' ver')=>
     match Nat.beq ver ver' with
     |true=>
      if h:(Ty.list te').beq (Ty.list te)=true then
       (ix (α:=te.D) (Ty.cast h l) i).bind λe=>
        match z6 (te.lvs e) off ws n with
        |some ls=>match te.all ls with|some e'=>k R8 (H.set id (.buf false te (Bb (α:=te.D) (Ty.cast h l) i e') n' ver'))|none=>none
        |none=>none
      else none
     |false=>none
    |_=>none
   |_=>none
 |_,_=>none
theorem wJ{b d:List AY}(h:N+d.length<=Q.length):Vm (i++Q++b) (i.length+N) d=i++Vm Q N d++b:=by
 unfold Vm;have e:(i++Q++b).take (i.length+N)=i++Q.take N:=by rw[Ay,jx,BS o!,Ww,cK o!]
 have f:(i++Q++b).drop (i.length+N+d.length)=Q.drop (N+d.length)++b:=by grind[List.drop_drop,List.drop_left]
 grind
theorem Ta.set_less{H m n:Ar}{f cs':List AY}(k:N<H.length)(s:m=H.set N (.live U f))(t:n=H.set N (.live U cs'))(o:Dm f cs')(d:x.Later y):Ta x y m n:=by
 subst s t;refine⟨k!,λj p a=>?_⟩;by_cases b:j=N;subst b;rw[IK k]at a;injection a with a;subst a;refine .inr (.inl ⟨U,f,cs',q!,rfl,o.1,λi l h=>?_⟩);obtain⟨v,q1,q2⟩:=o.2 i l h;exact⟨v,q1,λc r=>q2 _ _ (r.later d)⟩;rw[EA (λe=>b e.symm)]at a;cases p with
 |live q c0=>exact .inr (.inl ⟨q,c0,c0,q!,rfl,rfl,λi l h=>⟨l,h,λc r=>r.later d⟩⟩)
 |_=>grind
theorem eP(l:Z.length=p.length)(i: ∀(j:Nat) (e:Eo),Z[j]? =some e->e≠ .dead-> ∃a,p[j]? =some a/\a≠ .dead):(cx X h p w).Later (cx X h Z w):={size:=Ai _,keep:=λ_ _ _ _=>rfl,gen:=λ_ _=>Ai _,same:=λ_ _ _=>⟨rfl,rfl⟩,n:=by simp[cx,l],own:=λB _ m=>m.imp _root_.id (λ⟨j,e,k,d,c⟩=>by obtain⟨a,f,g⟩:=i j e k d;exact⟨j,a,f,g,c⟩)}
theorem JT.set_less{N:Nat}{b cs':List AY}(d:n<p.length)(h:JT P N o s p (C4 v (p.set n (.live U b))))(f:Dm b cs'):JT P N o s p (C4 v (p.set n (.live U cs'))):=by
 refine JT.after h λX e w _=>?_;have a:(cx X e (p.set n (.live U b)) w).Later (cx X e (p.set n (.live U cs')) w):=by grind[eP]
 exact⟨Ta.set_less d rfl rfl f a,λc r=>r.later a⟩
theorem G9{l:List R}{x:R}(h:l[N]? =some x):N<l.length:=q!
variable {P:Program} {N:Nat} {o:Oper} {env:BV} {H:Am} {k:TV->Am->Option R} {r:R}
def mM(P:Program)(N:Nat)(o:Oper)(env:BV)(H:Am)(F:List Nat)(k:TV->Am->Option R)(r:R):Prop:=
 ∃v H',JT P N o (B6 env) (BC H) (C4 v.enc (BC H'))/\k v H'=some r/\v.ok H'/\(∀e∈H',e.ok H')/\CC H H'/\Frame F H H'
theorem uc(ok:PJ env H)(ho:o.op= .store a c L)(h:storeT P H a (I9 env c) (I9 env L) k=some r):mM P N o env H (idT (I9 env c)) k r:=by
 have W:=Jj env;have a1:(I9 env L).ok H:=ZU ok.env L;have ao:(I9 env c).ok H:=ZU ok.env c;unfold storeT at h;split at h;rename_i ws b n hw ht;obtain⟨w1,Z,w3⟩:=Xp hw;split at h;cases h;rename_i hn;have f:(lvs ws).length=n:=by grind[cD,Nat.eq_of_beq_eq_true]
 have S:tI P a=some (b,(I9 env L).enc.cells.length):=q!
 split at h;rename_i id d G;split at h;rename_i cs u;split at h;rename_i M hs;obtain⟨s1,s2,s3⟩:=jF hs f;have C:(BC H)[id]? =some (.live 0 (lvs cs)):=by rw[FX,u];rfl
 have j:CC H (H.set id (.live false M)):=CC.set u rfl λ_ _ _ _ _ h=>by cases h
 refine⟨R8,_,JT.store ho (id:=id) (g:=0) (off:=d) (v:=(I9 env L).enc) (by rw[W,G];rfl) (W L) w1 C S (by rw[Z,f];exact s2) ⟨rfl,?_⟩,h,eZ,UK j ok.heap (j.lok (s3 H (ok.heap _ (BM u)) (w3 H a1))),j,Frame.set (by rw[G];exact BA.2 rfl)⟩;rw[Ni,Z,<-s1];rfl;cases h;cases h;rename_i id A m te i d G;split at h;rename_i cs u;split at h;rename_i w X y x p hs;split at h;rename_i hb;have U:=Ty.beq_eq _ _ hb;injection U with hm T;subst hm T;obtain⟨e,hg,h⟩:=EC.1 h;split at h;rename_i ls R;split at h;rename_i O B;obtain⟨ad,J⟩:=OM hs;obtain⟨s1,s2,_⟩:=jF R f;have s:=Fy B;have q:(Ty.cast hb x:Ho (X+1) y.D)=x:=rfl;rw[q]at hg h;obtain⟨h0,I,rfl,rfl⟩:=mO hg;obtain⟨t,c2,q1,q2,q3⟩:=pJ y.E x I;have C:(BC H)[id]? =some (.live 0 (lvs w++t++(y.enc (x I)).cells++(c2++lvs p))):=by rw[FX,u,ad];show some (Eo.live 0 (lvs (w++(.ar X y x::p))))=_;rw[Gx,Hi,aI,q1];simp only[Ay];rfl
 have j:CC H (H.set id (.live false (w++(.ar X y (Vq (n:=X+1) x (I.val:Int) O)::p)))):=CC.set u rfl λ_ _ _ _ _ h=>by cases h
 have al:lok H cs:=ok.heap _ (BM u);rw[ad]at al;obtain⟨o1,o2⟩:=JD.1 al;refine⟨R8,_,?_,h,eZ,UK j ok.heap (j.lok (JD.2 ⟨o1,λz hz=>?_⟩)),j,Frame.set (by rw[G];exact BA.2 rfl)⟩;have F:d+(lvs ws).length<=(y.enc (x I)).cells.length:=by rw[f,<-y.lvs_enc];exact s2
 have st:=JT.store (P:=P) (N:=N) (K:=C4 .any ((BC H).set id (.live 0 (Vm (lvs w++t++(y.enc (x I)).cells++(c2++lvs p)) (A+(I.val:Int).toNat*y.sz+d) (I9 env L).enc.cells)))) ho (id:=id) (g:=0)
  (off:=A+(I.val:Int).toNat*y.sz+d) (v:=(I9 env L).enc) (by rw[W,G];rfl) (W L) w1 C S (by rw[Z,f];simp only[Ad,q2,J];have:y.E.sz=y.sz:=rfl;rw[f]at F;simp only[Dk,this];omega) ⟨rfl,rfl⟩
 have ea:A+(I.val:Int).toNat*y.sz+d=(lvs w++t).length+d:=by rw[Ad,J,q2,Dk];rfl
 rw[Z,ea,wJ F]at st;have Q:=JT.set_less (cs':=lvs (w++(.ar X y (Vq (n:=X+1) x (I.val:Int) O)::p))) (by rw[CW];exact G9 u) st (by rw[Gx,Hi,aI,q3 O];simp only[Ay];refine(Dm.refl _).append ((Dm.refl _).append (Dm.append ?_ (Dm.refl _)));rw[<-y.lvs_enc,<-s1];exact s);rw[Ni];exact Q;rcases A3.1 hz with rfl|hz;trivial;exact o2 z (by simp[hz]);cases h;cases h;cases h;cases h;cases h;rename_i id V te nn i d G;split at h;rename_i y l Y a2 u;split at h;rename_i hv;have a0:=DN hv;subst a0;split at h;rename_i hb;have U:=Ty.beq_eq _ _ hb;injection U with T;subst T;obtain⟨e,hg,h⟩:=EC.1 h;split at h;rename_i ls R;split at h;rename_i O B;obtain⟨s1,s2,_⟩:=jF R f;have s:=Fy B;have q:(Ty.cast hb l:List y.D)=l:=rfl;rw[q]at hg h;obtain⟨t,c2,q1,q2,q3,q4,_,q5⟩:=pW y.E hg;have hr:Uu H id V y nn:=by rw[G]at ao;exact ao (.own id V y nn) (by simp[TV.refs])
 obtain⟨_,ax⟩:=hr.2 _ _ _ _ _ u;obtain⟨_,rfl⟩:=ax rfl;have ap:Y=l.length:=ok.heap _ (BM u);have C:(BC H)[id]? =some (.live Y (t++(y.enc e).cells++c2)):=by rw[FX,u];show some (Eo.live Y (y.E.cl l))=_;rw[q1];rfl
 have j:CC H (H.set id (.buf false y (Bb l i O) Y V)):=CC.set u rfl λ_ _ _ _ _ h=>by cases h;exact⟨_,_,_,_,rfl,.inr ⟨rfl,rfl⟩⟩
 refine⟨R8,_,?_,h,eZ,UK j ok.heap ((ABO ap.symm).symm),j,Frame.set (by rw[G];exact BA.2 rfl)⟩;have F:d+(lvs ws).length<=(y.enc e).cells.length:=by rw[f,<-y.lvs_enc];exact s2
 have st:=JT.store (P:=P) (N:=N) (K:=C4 .any ((BC H).set id (.live Y (Vm (t++(y.enc e).cells++c2) (i.toNat*y.sz+d) (I9 env L).enc.cells)))) ho (id:=id) (g:=Y)
  (off:=i.toNat*y.sz+d) (v:=(I9 env L).enc) (by rw[W,G];rfl) (W L) w1 C S (by rw[Z,f];simp only[Ad,q2];have:y.E.sz=y.sz:=rfl;rw[f]at F;rw[this];omega) ⟨rfl,rfl⟩
 have ea:i.toNat*y.sz+d=t.length+d:=by rw[q2];rfl
 rw[Z,ea,wJ F]at st;have Q:=JT.set_less (cs':=y.E.cl (Bb l i O)) (by rw[CW];exact G9 u) st (by unfold Bb;rw[q5 O];refine Dm.append (Dm.append (Dm.refl _) ?_) (Dm.refl _);rw[<-y.lvs_enc,<-s1];exact s);rw[Ni];exact Q;cases h;cases h;cases h;cases h;cases h;cases h;cases h
end
section
variable {R:Type}
def wa(P:Program)(H:Am)(t:TypeId)(k:TV->Am->Option R):Option R:=
 match qz P t with
 |some z=>k (.c (.raw (.ptr H.length 0 0))) (H++[.live false z])
 |none=>none
def ACY(H:Am)(v:TV)(k:TV->Am->Option R):Option R:=
 match v.words with
 |some ws=>k (.c (.raw (.ptr H.length 0 0))) (H++[.live false ws])
 |none=>none
def jk(t:Ty):List TV->Option (List t.D)
 |[]=>some []
 |v::r=>match t.data v,jk t r with|some x,some xs=>some (x::xs)|_,_=>none
def elT(P:Program)(t:TypeId):Option Ty:=
 match eI P t with
 |some (none,e,sz)=>
  match xl P 1000 e with
  |some te=>if sz=te.sz/\RT P e=true then some te else none
  |none=>none
 |_=>none
def eU(len:Nat)(te:Ty)(parts:Array (Nat×Operand))(vs:List TV):Bool:=
 decide (parts.toList.map (·.1)=List.range len)&&(vs.all λv=>match v.words with|some ws=>Nat.beq (ACD ws) te.sz|none=>false)&&Nat.ble len 4096&&Nat.ble te.sz 4096
def YU(P:Program)(env:BV)(H:Am)(t:TypeId)(len:Nat)(parts:Array (Nat×Operand))(k:TV->Am->Option R):Option R:=
 match elT P t with
 |some te=>
  match eU len te parts (parts.toList.map λp=>I9 env p.2)with
  |true=>match jk te (parts.toList.map λp=>I9 env p.2)with|some xs=>k (.c (.own H.length 0 te xs.length)) (H++[.buf false te xs xs.length 0])|none=>none
  |false=>none
 |none=>none
def nh(P:Program)(env:BV)(t:TypeId)(len:Nat)(parts:Array (Nat×Operand))(k:TV->Option R):Option R:=
 match elT P t with
 |some te=>
  match eU len te parts (parts.toList.map λp=>I9 env p.2)with
  |true=>match jk te (parts.toList.map λp=>I9 env p.2)with|some xs=>k (.c (.ls te xs))|none=>none
  |false=>none
 |none=>none
def eR(P:Program)(H:Am)(t:TypeId)(x y:TV)(k:TV->Am->Option R):Option R:=
 match eI P t,x,y with
 |some (none,e,_),.c (.it _ l),.c (.it _ c)=>
  match elT P t,qz P e with
  |some te,some z=>match te.all z with|some zd=>(mk zd l c).bind λr=>k (.c (.own H.length 0 te r.length)) (H++[.buf false te r r.length 0])|none=>none
  |_,_=>none
 |_,_,_=>none
def qw(P:Program)(H:Am)(src dst:TypeId)(x:TV)(k:TV->Am->Option R):Option R:=
 match P.underlying src,P.underlying dst,x with
 |some _,some (.slice e),.c (.st s)=>
  match P.underlying e with
  |some (.int .u8)=>k (.c (.own H.length 0 (.int .u8) (SL s).length)) (H++[.buf false (.int .u8) (SL s) (SL s).length 0])
  |_=>none
 |_,_,_=>none
def ABr(H:Am)(te:Ty)(v:TV):Option (List te.D):=
 match v with
 | .c (.ls te' l)=>if h:(Ty.list te').beq (Ty.list te)=true then some (Ty.cast h l)else none
 | .c (.own id ver te' _)=>if h:(Ty.list te').beq (Ty.list te)=true then(match gB H id ver te' with|some l=>some (Ty.cast (t:=.list te') (t':=.list te) h l)|none=>none)else none
 | .c .nil=>some []
 |_=>none
def od(P:Program)(H:Am)(t:TypeId)(s x:TV)(k:TV->Am->Option R):Option R:=
 match elT P t with
 |some te=>
  match ABr H te x with
  |some xs=>
   match s with
   | .c .nil=>(app [] xs).bind λr=>k (.c (.own H.length 0 te r.length)) (H++[.buf false te r r.length 0])
   | .c (.own id ver te' _)=>
    match H[id]? with
    |some (.buf false t2 l _ ver')=>
     match Nat.beq ver ver' with
     |true=>
      if h:(Ty.list t2).beq (Ty.list te)=true/\(Ty.list te').beq (Ty.list te)=true then
       (app (α:=te.D) (Ty.cast h.1 l) xs).bind λr=>k (.c (.own id (ver+1) te r.length)) (H.set id (.buf false te r r.length (ver+1)))
      else none
     |false=>none
    |_=>none
   |_=>none
  |none=>none
 |none=>none
variable {P:Program} {N:Nat} {o:Oper} {env:BV} {H:Am} {k:TV->Am->Option R} {r:R}
theorem qU{H:Am}{l:List t.D}:(TV.c (.own H.length N t l.length)).ok (H++[.buf D t l l.length N]):=by refine Jz ⟨k!,λd h f g b e=>?_⟩;grind
def oo(H:Am)(b:Ty)(n a:Nat):(TV.c (.own H.length a b n)).enc= .sl (BC H).length n b.sz 0 n:=by rw[CW];rfl
def tK(ok:PJ env H)(b:o.op= .alloc a)(h:wa P H a k=some r):mM P N o env H [] k r:=by
 unfold wa at h;split at h;rename_i z d;obtain⟨e,f⟩:=Xt d;refine⟨_,_,?_,h,Jz trivial,PH ok.heap (f _),CC.push _ _,Frame.push _ _ _⟩;have t:(TV.c (.raw (.ptr H.length 0 0))).enc= .ptr (BC H).length 0 0:=by rw[CW];rfl
 rw[t,Ql];exact JT.alloc b e ⟨rfl,rfl⟩;cases h
def wk(ok:PJ env H)(b:o.op= .box a c)(h:ACY H (I9 env c) k=some r):mM P N o env H [] k r:=by
 unfold ACY at h;split at h;rename_i i d;obtain⟨e,f,g⟩:=Xp d;refine⟨_,_,?_,h,Jz trivial,PH ok.heap ((CC.push _ _).lok (g H (ZU ok.env c))),CC.push _ _,Frame.push _ _ _⟩;have t:(TV.c (.raw (.ptr H.length 0 0))).enc= .ptr (BC H).length 0 0:=by rw[CW];rfl
 rw[t,Ql];exact JT.box b (Jj env c) e ⟨rfl,by rw[f];rfl⟩;cases h
def kI{t:Ty}: ∀{b:List TV} {a:List t.D},jk t b=some a->Dm (b.map TV.enc) (a.map t.enc)
 |[],a,h=>by simp only[jk,Al]at h;subst h;exact Dm.refl _
 |v::r,a,h=>by simp only[jk]at h;split at h;rename_i x e c d;injection h with h;subst h;have:=kI d;exact(Dm.one (MC c)).append this;cases h
def gR{t:Ty}: ∀{e:List TV} {b:List t.D},jk t e=some b->Dm ((e.map TV.enc).flatMap AY.cells) (t.E.cl b)
 |[],b,h=>by simp only[jk,Al]at h;subst h;exact Dm.refl _
 |v::r,b,h=>by simp only[jk]at h;split at h;rename_i x k a g;injection h with h;subst h;have i:=gR g;refine Dm.append ?_ i;unfold Ty.data at a;split at a;rename_i y;split at a;cases a;rename_i d;simp at d;have c:=Fy a;rw[Hi,MB d.2,<-Bk.scalar_cells d.2]at c;have f:lvs ([]:List Bk)=[]:=rfl;rw[f,Dr]at c;exact c;rename_i j;split at a;exact Fy a;cases a;cases a;cases h
theorem gS(h:elT P a=some t): ∃e,eI P a=some (none,e,t.sz)/\RT P e=true:=by grind[elT]
theorem qa(h:elT P a=some t)(c:eU N t E (E.toList.map λp=>I9 env p.2)=true):
  R9 P (B6 env) a N E=some (t.sz,(E.toList.map λp=>I9 env p.2).map TV.enc):=by
 obtain⟨e,k,l⟩:=gS h;unfold eU at c;simp only[BP,decide_eq_true_eq]at c;obtain⟨⟨⟨f,g⟩,i⟩,j⟩:=c;have d:(E.toList.map λp=>BH (B6 env) p.2)=(E.toList.map λp=>I9 env p.2).map TV.enc:=by grind[List.map_congr_left,Jj]
 unfold R9;simp only[k,d];refine if_pos ⟨t.sz_pos,l,f,?_,Kr i,Kr j⟩;rw[GD];intro v n;obtain⟨u,m,rfl⟩:=B0.1 n;have:=GD.1 g u m;split at this<;>simp_all[Xp,cD]
theorem zT{b:List t.D}(h:jk t m=some b):b.length=m.length:=by have:=(kI h).1;grind
theorem Ta.push_less{H:Ar}(n:Dm i Q)(d:x.Later y):Ta x y (H++[.live N i]) (H++[.live N Q]):=by
 refine⟨k!,λj o e=>?_⟩;rcases Aq j H.length with b|b;rw[CK b]at e;cases o with
 |live p c0=>exact .inr (.inl ⟨p,c0,c0,q!,rfl,rfl,λg m h=>⟨m,h,λc r=>r.later d⟩⟩)
 |_=>grind
 have k:=G9 e;simp at k;have l:j=H.length:=o!
 subst l;simp at e;subst e;refine .inr (.inl ⟨N,i,Q,k!,rfl,n.1,λg m h=>?_⟩);obtain⟨v,q1,q2⟩:=n.2 g m h;exact⟨v,q1,λc r=>q2 _ _ (r.later d)⟩
theorem JT.push_less(h:JT P N o s p (C4 v (p++[.live n i])))(E:Dm i Q):JT P N o s p (C4 v (p++[.live n Q])):=by
 refine JT.after h λX f w _=>?_;have b:(cx X f (p++[.live n i]) w).Later (cx X f (p++[.live n Q]) w):=by refine eP k! λj e l k=>?_;grind
 exact⟨Ta.push_less E b,λc r=>r.later b⟩
def k9(ok:PJ env H)(f:o.op= .buildSlice a n E)(h:YU P env H a n E k=some r):mM P N o env H [] k r:=by unfold YU at h;split at h;rename_i i d;split at h;rename_i g;split at h;rename_i j c;have e:=qa d g;have b:=zT c;refine⟨_,_,?_,h,qU,PH ok.heap rfl,CC.push _ _,Frame.push _ _ _⟩;rw[oo,Ql];have:=S5 (N:=N) (H:=BC H) (K:=C4 _ _) f e ⟨rfl,rfl⟩;rw[Ds,<-b]at this;exact JT.push_less this (gR c);cases h;cases h;cases h
theorem ADt{a:Ty}{vs:List AY}{l:List a.D}(h:Dm vs (l.map a.enc))(I:Dm (vs.flatMap AY.cells) (a.E.cl l))(z: ∀v∈vs,v.cells.length=a.sz):WG (.vs a.sz vs) (.vs a.sz (l.map a.enc)):=by
 intro x c L;cases L with
 |vs f t o w C p=>
  have hn:(l.map a.enc).length=vs.length:=h.1;rw[<-hn];have key: ∀(j:Nat) (e:AY) (i:Nat) (v:AY),(l.map a.enc)[j]? =some e->e.cells[i]? =some v-> ∃b k,vs[j]? =some b/\b.cells[i]? =some k/\WG k v:=by
   intro j e i v d m;obtain⟨b,q1,_⟩:=h.2 j e d;have g: ∀u∈l.map a.enc,u.cells.length=a.sz:=λu J=>by obtain⟨y,_,rfl⟩:=B0.1 J;exact a.enc_len y
   have A:=lV g j e i v d m;obtain⟨k,r,s⟩:=I.2 _ v A;have H:i<a.sz:=by grind
   have F:=z b (BM q1);have G:b.cells[i]? =some (b.cells[i]'(by omega)):=At (by omega);have M:=lV z j b i _ q1 G;grind
  refine Bi.vs f (by grind) o (λj e d=>?_) (λn=>?_) λj e i v d m=>?_;obtain⟨y,_,rfl⟩:=B0.1 (BM d);exact a.enc_len y;obtain⟨B,q,q1,q2,q3,q4⟩:=C (λe=>n (Eg (by grind)));refine⟨B,q,q1,q2,q3,λj e i v d m=>?_⟩;obtain⟨b,k,r,s,_⟩:=key j e i v d m;grind;obtain⟨b,k,r,s,K⟩:=key j e i v d m;exact K _ _ (p j b i k r s)
def nK(ok:PJ env H)(s:o.op= .makeSlice a c L)(h:eR P H a (I9 env c) (I9 env L) k=some r):mM P N o env H [] k r:=by
 have i:=Jj env;unfold eR at h;split at h;rename_i e sz Q l O y j v w;split at h;rename_i b z d A;split at h;rename_i t f;obtain⟨I,q,h⟩:=EC.1 h;obtain⟨M,m,u⟩:=gS d;rw[j]at m;obtain⟨rfl,rfl⟩:=m;obtain⟨J,R⟩:=Xt A;have x:=Fy f;obtain⟨⟨C,D,F⟩,p,G⟩:=AGp b.E t q;refine⟨_,_,?_,h,qU,PH ok.heap rfl,CC.push _ _,Frame.push _ _ _⟩;rw[oo,Ql];have g:(lvs z).length=b.sz:=by rw[<-x.1,b.enc_len]
 have:=JT.makeSlice (N:=N) (H:=BC H) (K:=C4 _ _) s j b.sz_pos u J g (by rw[i,v];rfl) (by rw[i,w];rfl) C D F ⟨rfl,rfl⟩;rw[p]at this;apply JT.push_less this;rw[<-G,p];induction I.length with
 |zero=>exact Dm.refl _
 |succ n B=>exact Dm.append x B
 cases h;cases h;cases h
def qx(ok:PJ env H)(j:o.op= .convert I a c)(h:qw P H I a (I9 env c) k=some r):mM P N o env H [] k r:=by have f:=Jj env;unfold qw at h;split at h;rename_i u e s l g m;split at h;rename_i i;refine⟨_,_,?_,h,qU,PH ok.heap rfl,CC.push _ _,Frame.push _ _ _⟩;rw[oo,Ql];obtain⟨b,d⟩:=AF2 s;have:=mz (N:=N) (H:=BC H) (K:=C4 _ _) j l g i (by rw[f,m];rfl) ⟨rfl,rfl⟩;rw[d,b]at this;exact this;cases h;cases h
theorem xa{f:List t.D}(k: ∀d∈H,d.ok H)(p:e.ok H)(h:ABr H t e=some f):NY (BC H) t.sz e.enc=some (f.length,t.E.cl f):=by unfold ABr at h;split at h;rename_i a l;split at h;rename_i g;have c:=Ty.beq_eq _ _ g;injection c with b;subst b;injection h with h;have j:=h;subst j;simp only[TV.enc,Bk.one,NY,Ds];rfl;cases h;rename_i id i a n;split at h;rename_i g;have c:=Ty.beq_eq _ _ g;injection c with b;subst b;split at h;rename_i l m;injection h with h;have j:l=f:=h;obtain⟨q,r⟩:=kz k (p (.own id i a n) (by simp[TV.refs])) m;have s:=a.E.clen l;have o:a.E.sz=a.sz:=rfl;grind[TV.enc,Bk.one,NY];cases h;cases h;injection h with h;subst h;rfl;cases h
theorem rD(ok:PJ env H)(R:o.op= .call {callee:=.builtin .append,args:= #[c,L],argTypes:= #[a,I]})(Y:a=I)(h:od P H a (I9 env c) (I9 env L) k=some r):mM P N o env H (idT (I9 env c)) k r:=by
 subst Y;have x:=Jj env;unfold od at h;split at h;rename_i te C;obtain⟨e,Q,S⟩:=gS C;split at h;rename_i w t;have v:=xa ok.heap (ZU ok.env L) t;rw[<-x]at v;split at h;rename_i b;obtain⟨l,u,X⟩:=EC.1 h;obtain⟨W,j⟩:=ku u;rw[Cn]at j;subst j;refine⟨_,_,?_,X,qU,PH ok.heap rfl,CC.push _ _,Frame.push _ _ _⟩;rw[oo,Ql];have:=bI (N:=N) (H:=BC H) (K:=C4 _ _) R Q te.sz_pos S (by rw[x,b];rfl) v q! ⟨rfl,rfl⟩;exact this;rename_i id g al n b;split at h;rename_i d l J T M;split at h;rename_i Z;have G:=DN Z;subst G;split at h;rename_i y;have F:=Ty.beq_eq _ _ y.1;injection F with p;have s:=Ty.beq_eq _ _ y.2;injection s with q;subst q;subst p;obtain⟨l2,u,h⟩:=EC.1 h;have f:(Ty.cast y.1 l:List d.D)=l:=rfl;rw[f]at u;obtain⟨W,rfl⟩:=ku u;have hr:Uu H id g d n:=by have:=ZU ok.env c;rw[b]at this;exact this (.own id g d n) (by simp[TV.refs])
 obtain⟨_,A⟩:=hr.2 _ _ _ _ _ M;obtain⟨_,rfl⟩:=A rfl;have z:J=l.length:=ok.heap _ (BM M);have i:(BC H)[id]? =some (.live J (d.E.cl l)):=by rw[FX,M];rfl
 have m:CC H (H.set id (.buf false d (l++w) (l++w).length (g+1))):=CC.set M rfl λ_ _ _ _ _ h=>by cases h;exact⟨_,_,_,_,rfl,.inl (Nat.lt_succ_self _)⟩
 refine⟨_,_,?_,h,Jz ⟨q!,λad I l' n2 U hg=>?_⟩,UK m ok.heap rfl,m,Frame.set (by rw[b];exact BA.2 rfl)⟩;have O:=d.E.clen l;have B:d.E.sz=d.sz:=rfl;rw[B]at O;have:=RS (N:=N) (H:=BC H) (g':=J+w.length) (K:=C4 _ _) R Q d.sz_pos S (by rw[x,b];rfl) i (by rw[O,z]) v q! (by rcases SU w.length with V|V;grind;exact .inl o!) ⟨rfl,rfl⟩;grind[Ni,List.length_append,UQ.cl,TV.enc,Bk.one,D5.enc];grind;cases h;cases h;cases h;cases h;cases h;cases h
end
def NN(id ver:Nat)(t:Ty)(l:List t.D):Bk->Bk
 | .own id' ver' t' n=>match Nat.beq id id'&&Nat.beq ver ver' with|true=>.ls t l|false=>.own id' ver' t' n
 |x=>x
mutual
def ld(id ver:Nat)(t:Ty)(l:List t.D):TV->TV
 | .c x=>.c (NN id ver t l x)
 | .g cs=>.g (cs.map (NN id ver t l))
 | .tup vs=>.tup (dg id ver t l vs)
 | .aptr a b n te i o=>.aptr a b n te i o
 | .bptr a v te n i o=>.bptr a v te n i o
 | .vptr cs post=>.vptr cs post
def dg(id ver:Nat)(t:Ty)(l:List t.D):List TV->List TV
 |[]=>[]
 |v::r=>ld id ver t l v::dg id ver t l r
end
def QD(id ver:Nat)(t:Ty)(l:List t.D):D5->D5
 | .live false cs=>.live false (cs.map (NN id ver t l))
 |e=>e
def frz(id:Nat)(env:BV)(H:Am):Option (BV×Am):=
 match H[id]? with
 |some (.buf false t l _ ver)=>some (env.map λp=>(p.1,ld id ver t l p.2),(H.map (QD id ver t l)).set id .dead)
 |_=>none
def Si(x y:Cx)(a b:List AY):Prop:=b.length=a.length/\ ∀(i:Nat) (v':AY),b[i]? =some v'-> ∃v,a[i]? =some v/\Conv x y v v'
theorem Si.append{b f:List AY}(c:Si x y i Q)(g:Si x y b f):Si x y (i++b) (Q++f):=by refine⟨by simp[c.1,g.1],λa j h=>?_⟩;rcases Aq a Q.length with d|d;rw[CK d]at h;obtain⟨v,q1,q2⟩:=c.2 a j h;grind;rw[Cb d]at h;obtain⟨v,q1,q2⟩:=g.2 _ j h;exact⟨v,by rw[Cb (by rw[<-c.1];exact d),<-c.1];exact q1,q2⟩
def Si.later{x y:Cx}(l:x.Later y)(a:List AY):Si x y a a:=⟨rfl,λ_ v h=>⟨v,h,λ_ r=>r.later l⟩⟩
theorem Si.one{b:AY}(h:Conv x y v b):Si x y [v] [b]:=⟨rfl,λi u a=>by
 match i,a with
 |0,a=>grind
 |i+1,a=>simp at a⟩
def Si.agg{x y:Cx}{b a:List AY}(h:Si x y b a):Conv x y (.agg b) (.agg a):=by
 intro c r;cases r with
 |agg i e hr=>refine .agg (by rw[i,h.1]) e λj k d g f=>?_;obtain⟨v,q1,q2⟩:=h.2 j k g;exact q2 _ (hr j v d q1 f)
def Si.tup{x y:Cx}{b a:List AY}(h:Si x y b a):Conv x y (.tup b) (.tup a):=by
 intro c r;cases r with
 |tup g hr=>refine .tup (by rw[g,h.1]) λj i d f e=>?_;obtain⟨v,q1,q2⟩:=h.2 j i f;exact q2 _ (hr j v d q1 e)
section
variable {x y:Cx} {H:Am} {id n ver:Nat} {t:Ty} {l:List t.D} (lat:x.Later y) (hid:H[id]? =some (.buf false t l n ver)) (hc:Conv x y (.sl id n t.sz 0 n) (.vs t.sz (l.map t.enc)))
include lat hid hc
theorem lY(e:u.ok H):Si x y u.enc (NN id ver t l u).enc/\Conv x y u.one (NN id ver t l u).one:=by
 have same: ∀w:Bk,Si x y w.enc w.enc/\Conv x y w.one w.one:=λw=>⟨.later lat _,λ_ r=>r.later lat⟩
 cases u with
 |own f b h g=>simp only[NN];split;rename_i a;simp only[BP]at a;have c:=DN a.1;have d:=DN a.2;subst c d;obtain⟨_,q⟩:=e.2 _ _ _ _ _ hid;obtain⟨rfl,rfl⟩:=q rfl;exact⟨.one hc,hc⟩;grind
 |_=>exact same _
def m9: ∀{a:List Bk},lok H a->Si x y (lvs a) (lvs (a.map (NN id ver t l)))
 |[],_=>.later lat _
 |z::r,h=>by rw[Bo,Hi,Hi];exact(lY lat hid hc (h z k!)).1.append (m9 λw b=>h w (by simp[b]))
mutual
theorem pp: ∀{v:TV},v.ok H->Conv x y v.enc (ld id ver t l v).enc
 | .c z,h=>(lY lat hid hc (h z (by simp[TV.refs]))).2
 | .g cs,h=>(m9 lat hid hc h).agg
 | .tup vs,h=>Si.tup (nw (vs:=vs) h)
 | .aptr ..,_=>λ_ r=>r.later lat
 | .bptr ..,_=>λ_ r=>r.later lat
 | .vptr ..,_=>λ_ r=>r.later lat
theorem nw: ∀{vs:List TV},(TV.tup vs).ok H->Si x y (TV.encL vs) (TV.encL (dg id ver t l vs))
 |[],_=>.later lat _
 |v::r,h=>by simp only[TV.encL,dg];have a:v.ok H:=nO h k!;have b:(TV.tup r).ok H:=Qo λw c=>nO h (by simp[c]);exact(Si.one (pp a)).append (nw b)
end
end
def po{l:List t.D}(c:CC G b)(d:u.ok G):(NN N n t l u).ok b:=by
 cases u with
 |own f e h g=>simp only[NN];split;trivial;exact c.leaf d
 |_=>exact c.leaf d
def yQ{l:List t.D}(H:CC G b)(h:lok G d):lok b (d.map (NN N n t l)):=λz f=>by obtain⟨w,e,rfl⟩:=B0.1 f;exact po H (h w e)
mutual
theorem vQ{H d:Am}{id b:Nat}{t:Ty}{l:List t.D}(a:CC H d): ∀{v:TV},v.ok H->(ld id b t l v).ok d
 | .c z,h=>Jz (po a (h z (by simp[TV.refs])))
 | .g cs,h=>yQ a h
 | .tup vs,h=>sM a h
 | .aptr ..,h=>a.lok h
 | .bptr ..,h=>a.lok h
 | .vptr ..,h=>a.lok h
theorem sM{H c:Am}{id b:Nat}{t:Ty}{l:List t.D}(d:CC H c): ∀{e:List TV},(TV.tup e).ok H->(TV.tup (dg id b t l e)).ok c
 |[],_=>λz i=>by simp[dg,TV.refs,TV.refsL]at i
 |v::r,h=>by have f:v.ok H:=nO h k!;have g:(TV.tup r).ok H:=Qo λw a=>nO h (by simp[a]);refine Qo λw a=>?_;simp only[dg]at a;rcases A3.1 a with rfl|a;exact vQ d f;exact nO (sM d g) a
end
theorem AA8{l:List t.D}(f:b[N]? =some (.buf false t l n U)):CC b ((b.map (QD N U t l)).set N .dead):=by
 have s:=G9 f;refine⟨k!,λj y x v h=>⟨by simpa using h.1,λro K E F u c=>?_⟩,λj e c hr=>?_,λj m h x l2 v y a=>?_,λj m _ _ _ _ _ _ _ _ a=>?_⟩;by_cases d:j=N;grind;rw[EA (λe=>d e.symm),CO]at c;cases a:b[j]? with
 |none=>grind
 |some e=>
  rw[a]at c;simp only[Bp,Al]at c;cases e with
  |live H k=>cases H<;>simp[QD]at c
  |dead=>cases c
  |lp=>cases c
  |mp=>cases c
  |buf H q o p r=>simp only[QD]at c;exact h.2 _ _ _ _ _ (by rw[a,c])
 have d:j≠N:=by rintro rfl;rw[f]at c;injection c with c;subst c;cases hr
 rw[EA (λe=>d e.symm),CO,c];cases e with
 |live H k=>cases H with|true=>rfl|false=>cases hr
 |dead=>cases hr
 |buf H q o p r=>rfl
 |lp=>rfl
 |mp=>rfl
 by_cases d:j=N;grind;rw[EA (λe=>d e.symm),CO]at a;cases g:b[j]? with
 |none=>rw[g]at a;cases a
 |some e=>
  rw[g]at a;simp only[Bp,Al]at a;cases e with
  |live H k=>cases H<;>simp[QD]at a
  |dead=>cases a
  |lp=>cases a
  |mp=>cases a
  |buf H q o p r=>grind[QD]
 by_cases d:j=N;grind[List.getElem?_set_self];rw[EA (λe=>d e.symm),CO]at a;cases g:b[j]? with
 |none=>rw[g]at a;cases a
 |some e=>
  rw[g]at a;simp only[Bp,Al]at a;cases e with
  |live H k=>cases H<;>simp[QD]at a
  |dead=>cases a
  |buf H q o p r=>cases a
  |mp=>cases a
  |lp w z G C I A B J=>injection a with _ q2 q3 q4 q5 q6 q7 _;subst q2 q3 q4 q5 q6 q7;exact⟨_,_,rfl⟩
theorem AEs{id:Nat}{env env2:BV}{H K:Am}(ok:PJ env H)(h:frz id env H=some (env2,K)):PJ env2 K/\CC H K/\ ∀N,GC N (BC H).length (B6 env) (BC H) (B6 env2) (BC K):=by
 unfold frz at h;split at h;rename_i t l n i d;simp only[Al,D6]at h;obtain⟨rfl,rfl⟩:=h;have G:=G9 d;have A:=AA8 d;have hn:n=l.length:=ok.heap _ (BM d);refine⟨⟨λp M=>?_,λe R=>?_⟩,A,λN=>?_⟩;obtain⟨q,z,rfl⟩:=B0.1 M;exact vQ A (ok.env q z);rcases Ux R with R|rfl;obtain⟨k,S,rfl⟩:=B0.1 R;have F:=ok.heap k S;cases k with
 |live b D=>
  cases b with
  |true=>exact A.lok F
  |false=>exact yQ A F
 |dead=>trivial
 |buf b Q P T U=>exact F
 |lp=>exact F
 |mp=>exact F
 trivial;have u:(BC H)[id]? =some (.live n (t.E.cl l)):=by rw[FX,d];rfl
 refine VN (by simp[BC]) λX g w s=>?_;have C: ∀j,(BC ((H.map (QD id i t l)).set id .dead))[j]? =if j=id then some .dead else(H[j]?).map λe=>(QD id i t l e).enc:=by intro j;rw[FX];by_cases v:j=id;subst v;rw[if_pos rfl,IK (by simpa using G)];rfl;grind
 have back: ∀(j:Nat) (e:Eo),(BC ((H.map (QD id i t l)).set id .dead))[j]? =some e->e≠ .dead->j≠id/\ ∃k,(BC H)[j]? =some k/\k≠ .dead:=by
  intro j e a f;rw[C]at a;split at a;injection a with a;exact(f a.symm).elim;rename_i v;refine⟨v,?_⟩;cases z:H[j]? with
  |none=>rw[z]at a;cases a
  |some k=>
   refine⟨k.enc,by rw[FX,z];rfl,λL=>f ?_⟩;rw[z]at a;simp only[Bp,Al]at a;cases k with
   |live b D=>simp[D5.enc]at L
   |dead=>exact a.symm
   |buf b Q P T U=>simp[D5.enc]at L
   |lp=>simp[D5.enc]at L
   |mp=>simp[D5.enc]at L
 have y:(cx X g (BC H) w).Later (cx X g (BC ((H.map (QD id i t l)).set id .dead)) w):=eP (by simp[BC]) λj e a f=>(back j e a f).2;have hO: ∀B,g.io id=some B-> ¬(cx X g (BC ((H.map (QD id i t l)).set id .dead)) w).O B:=by rintro B I (hX|⟨j,e,a,f,J⟩);exact(s.out B hX).2 ⟨id,_,u,k!,I⟩;obtain⟨v,k,Y,Z⟩:=back j e a f;exact v (s.inj j id _ _ B Y u Z k! J I)
 have o:Conv (cx X g (BC H) w) (cx X g (BC ((H.map (QD id i t l)).set id .dead)) w) (.sl id n t.sz 0 n) (.vs t.sz (l.map t.enc)):=λc r=>Bi.froze s u (AE2 t.E l) (by rw[hn];exact Ds _) y rfl hO r;refine⟨⟨by simp[BC],λj e' a=>?_⟩,λtt v' m=>?_⟩;rw[C]at a;split at a;injection a with a;exact .inl a.symm;cases z:H[j]? with
 |none=>rw[z]at a;cases a
 |some k=>
  rw[z]at a;simp only[Bp,Al]at a;have x:(BC H)[j]? =some k.enc:=by rw[FX,z];rfl
  cases k with
  |live b D=>
   refine .inr (.inl ?_);cases b with
   |true=>simp only[QD,D5.enc]at a;exact⟨0,lvs D,lvs D,x,a.symm,rfl,(Si.later y _).2⟩
   |false=>simp only[QD,D5.enc]at a;obtain⟨V,W⟩:=m9 y d o (ok.heap _ (BM z));exact⟨0,lvs D,_,x,a.symm,V,W⟩
  |dead=>exact .inl a.symm
  |buf b Q P T U=>simp only[QD,D5.enc]at a;exact .inr (.inl ⟨T,Q.E.cl P,Q.E.cl P,x,a.symm,rfl,(Si.later y _).2⟩)
  |lp=>subst a;exact .inr (.inr ⟨x,λ_ _ h=>by cases h⟩)
  |mp=>subst a;exact .inr (.inr ⟨x,λ_ _ h=>by cases h⟩)
 simp only[B6,OR,B0]at m;obtain⟨p,M,e⟩:=m;simp only[Function.comp,D6]at e;obtain⟨rfl,rfl⟩:=e;exact⟨p.2.enc,B0.2 ⟨p,M,rfl⟩,pp y d o (ok.env p M)⟩;cases h
@[reducible] def DL:List Ty->Type
 |[]=>Unit
 |[t]=>t.D
 |t::u::r=>t.D×DL (u::r)
def zc:(ts:List Ty)->List TV->Option (DL ts)
 |[],[]=>some ()
 |[t],[v]=>t.data v
 |t::u::r,v::vs=>
  match t.data v,zc (u::r) vs with
  |some x,some y=>some (x,y)
  |_,_=>none
 |_,_=>none
def rA:(ts:List Ty)->DL ts->List TV
 |[],_=>[]
 |[t],x=>[t.tv x]
 |t::u::r,x=>t.tv x.1::rA (u::r) x.2
def fv:(ts:List Ty)->DL ts->List AY
 |[],_=>[]
 |[t],x=>[t.enc x]
 |t::u::r,x=>t.enc x.1::fv (u::r) x.2
def one:List TV->TV
 |[v]=>v
 |vs=>.tup vs
def ja:List AY->AY
 |[v]=>v
 |vs=>.tup vs
def L4(bt:Ty):(rs:List Ty)->DL (rs++[bt])->DL rs×bt.D
 |[],y=>((),y)
 |[_],y=>(y.1,y.2)
 |_::u::r,y=>((y.1,(L4 bt (u::r) y.2).1),(L4 bt (u::r) y.2).2)
inductive RV where
 |c2 (f:FuncId) (te:Ty) (ds rs:List Ty) (post:List AY) (g:List te.D->DL ds->Option (DL (rs++[.list te])))
 |cl (f:FuncId) (t:Ty)
 |c0 (f:FuncId) (ds rs:List Ty) (g:DL ds->Option (DL rs))
 |c1 (f:FuncId) (pos:Nat) (bt:Ty) (ds rs:List Ty) (g:bt.D->DL ds->Option (DL (rs++[bt])))
def RV.f:RV->FuncId
 | .c0 f .. =>f
 | .c1 f .. =>f
 | .c2 f .. =>f
 | .cl f _=>f
def fnB:AY->AY->Bool
 | .fn (.func F) [] [],.fn (.func G) [] []=>Nat.beq F G
 |_,_=>false
def AEq{w:AY}(h:fnB v w=true):v=w:=by unfold fnB at h;split at h<;>simp_all
def sm:List TV->List AY->Bool
 |[],[]=>true
 | .c (.raw v)::r,w::s=>fnB v w&&sm r s
 |_,_=>false
def wA: ∀{l:List TV} {p:List AY},sm l p=true->l.map TV.enc=p
 |[],[],_=>rfl
 |[],_::_,h=>by simp[sm]at h
 |v::r,[],h=>by cases v<;>simp[sm]at h
 |v::r,w::s,h=>by unfold sm at h;split at h;rename_i e;cases e;rename_i c d;injection c with a1 a2;injection d with a b;subst a1 a2 a b;simp only[BP]at h;rw[Bo,wA h.2];exact congrArg (· ::_) (AEq h.1);cases h
def Ut:Nat->AY->List AY->List AY
 |0,v,l=>v::l
 |n+1,v,x::l=>x::Ut n v l
 |_+1,v,[]=>[v]
def RV.Ok(P:Program):RV->Prop
 | .c2 f te ds rs post g=> ∀l x y,g l x=some y->(L4 (.list te) rs y).2.length=l.length-> ∀H id,H[id]? =some (.live l.length (te.E.cl l))->
  Ee P f (.sl id l.length te.sz 0 l.length::(fv ds x++post)) H (C4 (ja (fv rs (L4 (.list te) rs y).1)) (H.set id (.live l.length (te.E.cl (L4 (.list te) rs y).2))))
 | .cl f t=> ∀(l:List t.D) (H:Am),(∀e∈H,e.ok H)->(l=[]->Ee P f [.vs t.sz []] (BC H) (C4 (.vs t.sz []) (BC (H++[.dead]))))/\
  ∀r,l≠ []->app [] l=some r->Ee P f [.vs t.sz (l.map t.enc)] (BC H) (C4 (.sl H.length r.length t.sz 0 r.length) (BC (H++[.buf false t r r.length 0])))
 | .c0 f ds rs g=> ∀x y,g x=some y-> ∀H,Ee P f (fv ds x) H (C4 (ja (fv rs y)) H)
 | .c1 f pos bt ds rs g=> ∀b x y,g b x=some y-> ∀H id,H[id]? =some (.live 0 (bt.enc b).cells)->Ee P f (Ut pos (.ptr id 0 0) (fv ds x)) H (C4 (ja (fv rs (L4 bt rs y).1)) (H.set id (.live 0 (bt.enc (L4 bt rs y).2).cells)))
section
variable {R:Type}
def yC(c:RV)(vs:List TV)(H:Am)(k:TV->Am->Option R):Option R:=
 match c with
 | .c0 _ ds rs g=>match zc ds vs with|some x=>(g x).bind λy=>k (one (rA rs y)) H|none=>none
 | .c1 _ pos bt ds rs g=>
  match vs[pos]? with
  |some (.c (.raw (.ptr id 0 0)))=>
   match H[id]? with
   |some (.live false cs)=>
    match bt.all cs,zc ds (vs.take pos++vs.drop (pos+1))with
    |some b,some x=>(g b x).bind λy=>k (one (rA rs (L4 bt rs y).1)) (H.set id (.live false (bt.lvs (L4 bt rs y).2)))
    |_,_=>none
   |_=>none
  |_=>none
 | .c2 _ te ds rs post g=>
  match vs with
  | .c (.own id ver _ _)::r=>
   match H[id]? with
   |some (.buf false t l n' ver')=>
    match Nat.beq ver ver' with
    |true=>
     if h:(Ty.list t).beq (Ty.list te)=true then
      match zc ds (r.take ds.length),sm (r.drop ds.length) post with
      |some x,true=>(g (Ty.cast h l) x).bind λy=>
       cond (Nat.beq (L4 (.list te) rs y).2.length n') (k (one (rA rs (L4 (.list te) rs y).1)) (H.set id (.buf false te (L4 (.list te) rs y).2 n' ver'))) none
      |_,_=>none
     else none
    |false=>none
   |_=>none
  |_=>none
 | .cl _ t=>
  match vs with
  |[.c (.ls te l)]=>
   if h:(Ty.list te).beq (Ty.list t)=true then
    cond (decide (((l.length:Nat):Int)=0)) (k (.c (.ls t [])) (H++[.dead])) ((app (α:=t.D) [] (Ty.cast h l)).bind λr=>k (.c (.own H.length 0 t r.length)) (H++[.buf false t r r.length 0]))
   else none
  |[.c .nil]=>k (.c (.ls t [])) (H++[.dead])
  |_=>none
def VQ: ∀(a:List Ty) (x:DL a),(rA a x).map TV.enc=fv a x
 |[],_=>rfl
 |[t],x=>by simp only[rA,fv,Bo,I3,t.tv_enc]
 |t::u::r,x=>by simp only[rA,fv,Bo,t.tv_enc,VQ (u::r)]
theorem iI{H:Am}: ∀(b:List Ty) (x:DL b),∀v∈rA b x,v.ok H
 |[],_,v,a=>by simp[rA]at a
 |[t],x,v,a=>by simp only[rA,BA]at a;subst a;exact t.tv_ok x
 |t::u::r,x,v,a=>by simp only[rA,A3]at a;rcases a with rfl|a;exact t.tv_ok _;exact iI (u::r) x.2 v a
def om(a:List TV):(one a).enc=ja (a.map TV.enc):=by
 match a with
 |[]=>rfl
 |[v]=>rfl
 |v::w::r=>simp only[one,ja,TV.enc,pd,Bo]
def uJ(h: ∀v∈m,v.ok b):(one m).ok b:=by
 match m,h with
 |[],h=>exact Qo h
 |[v],h=>exact h v k!
 |v::w::r,h=>exact Qo h
def Vh: ∀{a:List Ty} {b:List TV} {x:DL a},zc a b=some x->Dm (b.map TV.enc) (fv a x)
 |[],[],x,h=>Dm.refl _
 |[t],[v],x,h=>Dm.one (MC h)
 |t::u::r,v::b,x,h=>by simp only[zc]at h;split at h;rename_i y z c d;injection h with h;subst h;exact(Dm.one (MC c)).append (Vh d);cases h
 |[],_::_,x,h=>by simp[zc]at h
 |[t],[],x,h=>by simp[zc]at h
 |[t],_::_::_,x,h=>by simp[zc]at h
 |_::_::_,[],x,h=>by simp[zc]at h
theorem qB: ∀{n:Nat} {a:List AY} {v:AY} {b:List AY},a[n]? =some v->Dm (a.take n++a.drop (n+1)) b->Dm a (Ut n v b)
 |0,u::a,v,b,h,hl=>by simp at h;subst h;exact(Dm.one (WG.refl u)).append hl
 |n+1,u::a,v,b,h,hl=>by
  cases b with
  |nil=>have:=hl.1;simp at this
  |cons d b=>
   have c:WG u d:=by obtain⟨w,q1,q2⟩:=hl.2 0 d rfl;grind
   have e:Dm (a.take n++a.drop (n+1)) b:=⟨by have:=hl.1;simpa using this,λi g f=>hl.2 (i+1) g f⟩
   exact(Dm.one c).append (qB h e)
def ACk(c:RV)(vs:List TV):List Nat:=
 match c with
 | .c0 .. =>[]
 | .c1 _ pos .. =>match vs[pos]? with|some v=>idT v|none=>[]
 | .c2 .. =>match vs[0]? with|some v=>idT v|none=>[]
 | .cl .. =>[]
def AGj(c:RV)(vs:List TV):List TV:=
 match c with
 | .c2 .. =>vs.drop 1
 |_=>vs
def u6{c:RV}(hc:c.Ok P){k:TV→Am→Option R}{r:R}(hv: ∀v∈m,v.ok b)(K: ∀e∈b,e.ok b)(h:yC c m b k=some r):
  ∃v O,Ee P c.f (m.map TV.enc) (BC b) (C4 v.enc (BC O))/\k v O=some r/\v.ok O/\(∀e∈O,e.ok O)/\CC b O/\Frame (ACk c m) b O:=by
 unfold yC at h;split at h;rename_i f S A g;split at h;rename_i x hx;obtain⟨y,hy,h⟩:=EC.1 h;refine⟨_,b,?_,h,uJ (iI A y),K,CC.refl b,Frame.refl _ _⟩;rw[om,VQ];have hl:=Vh hx;refine Ee.before (args2:=fv S x) (H2:=BC b) hl.1 (λX g0 w s=>⟨⟨rfl,λj e' p=>?_⟩,λj Z p=>?_⟩) (hc x y hy _);cases e' with
 |dead=>exact .inl rfl
 |live g1 L=>exact .inr (.inl ⟨g1,L,L,p,rfl,rfl,λi v hi=>⟨v,hi,λ_ r=>r⟩⟩)
 |_=>exact .inr (.inr ⟨p,k!⟩)
 obtain⟨v,q1,q2⟩:=hl.2 j Z p;exact⟨v,q1,λd W=>q2 _ _ W⟩;cases h;rename_i f pos J S A g;split at h;rename_i id hp;split at h;rename_i cs o;split at h;rename_i D x hb hx;obtain⟨y,hy,h⟩:=EC.1 h;have G:CC b (b.set id (.live false (J.lvs (L4 J A y).2))):=CC.set o rfl λ_ _ _ _ _ h=>by cases h
 refine⟨_,_,?_,h,uJ (iI A _),UK G K (J.lvs_ok _),G,Frame.set (by simp only[ACk,hp];exact BA.2 rfl)⟩;rw[om,VQ,Ni];have C:id<(BC b).length:=by rw[CW];exact G9 o
 have hl:=Vh hx;have ap:=Fy hb;have a:Dm (m.map TV.enc) (Ut pos (.ptr id 0 0) (fv S x)):=by refine qB ?_ (by rw[<-List.map_take,<-List.map_drop,<-Mh];exact hl);rw[CO,hp];rfl
 have H:=hc D x y hy ((BC b).set id (.live 0 (J.enc D).cells)) id (by rw[IK C]);rw[Wv]at H;have e1:(D5.live false (J.lvs (L4 J A y).2)).enc= .live 0 (J.enc (L4 J A y).2).cells:=by simp only[D5.enc,J.lvs_enc]
 rw[e1];refine Ee.before a.1 (λX g0 w s=>?_) H;have ad:BC b=(BC b).set id (.live 0 (lvs cs)):=by
  have:(BC b)[id]? =some (.live 0 (lvs cs)):=by rw[FX,o];rfl
  apply I5;intro j;by_cases F:j=id;subst F;rw[IK C,this];rw[EA (λe=>F e.symm)]
 have ao:(cx X g0 (BC b) w).Later (cx X g0 ((BC b).set id (.live 0 (J.enc D).cells)) w):=by refine eP k! λj e p ar=>?_;by_cases F:j=id;subst F;exact⟨.live 0 (lvs cs),by rw[FX,o];rfl,k!⟩;rw[EA (λe=>F e.symm)]at p;exact⟨e,p,ar⟩
 refine⟨Ta.set_less C ad rfl ap ao,λj Z p=>?_⟩;obtain⟨v,q1,q2⟩:=a.2 j Z p;exact⟨v,q1,λd W=>q2 _ _ (W.later ao)⟩;cases h;cases h;cases h;rename_i f Y S A N g;split at h;rename_i id B t0 n0 r0;split at h;rename_i t l V ax o;split at h;rename_i hb;have al:=DN hb;subst al;split at h;rename_i I;have n:=Ty.beq_eq _ _ I;injection n with n;subst n;split at h;rename_i x hx hp;obtain⟨y,hy,h⟩:=EC.1 h;have z:(Ty.cast I l:List t.D)=l:=rfl;rw[z]at hy;have hn:V=l.length:=K _ (BM o);have hr:Uu b id B t0 n0:=hv _ Jx (.own id B t0 n0) (by simp[TV.refs]);obtain⟨_,q⟩:=hr.2 _ _ _ _ _ o;obtain⟨rfl,rfl⟩:=q rfl;cases T:Nat.beq (L4 (.list t) A y).2.length V with
 |false=>rw[T]at h;cases h
 |true=>
  rw[T]at h;have M:(L4 (.list t) A y).2.length=V:=DN T;have G:CC b (b.set id (.buf false t (L4 (.list t) A y).2 V B)):=CC.set o rfl λ_ _ _ _ _ e=>by cases e;exact⟨_,_,_,_,rfl,.inr ⟨rfl,rfl⟩⟩
  refine⟨_,_,?_,h,uJ (iI A _),UK G K M.symm,G,Frame.set (by simp[ACk,idT])⟩;rw[om,VQ,Ni];have hl:=Vh hx;have U:=wA hp;have a:Dm ((TV.c (.own id B t V)::r0).map TV.enc) (.sl id l.length t.sz 0 l.length::(fv S x++N)):=by
   rw[Bo,<-EP S.length r0,Mh,U];have e1:(TV.c (.own id B t V)).enc= .sl id l.length t.sz 0 l.length:=by rw[<-hn];rfl
   rw[e1];rw[<-pF];rw[<-pF (l:=fv S x++N)];exact(Dm.refl _).append (hl.append (Dm.refl _))
  have H:=hc l x y hy (by rw[M,hn]) (BC b) id (by rw[FX,o,<-hn];rfl);have e2:(D5.buf false t (L4 (.list t) A y).2 V B).enc= .live l.length (t.E.cl (L4 (.list t) A y).2):=by rw[<-hn];rfl
  rw[e2];refine Ee.before a.1 (λX g0 w s=>⟨⟨rfl,λj e' p=>?_⟩,λj Z p=>?_⟩) H;cases e' with
  |dead=>exact .inl rfl
  |live g1 L=>exact .inr (.inl ⟨g1,L,L,p,rfl,rfl,λi v hi=>⟨v,hi,λ_ r=>r⟩⟩)
  |_=>exact .inr (.inr ⟨p,k!⟩)
  obtain⟨v,q1,q2⟩:=a.2 j Z p;exact⟨v,q1,λd W=>q2 _ _ W⟩
 cases h;cases h;cases h;cases h;cases h;rename_i f t;have same: ∀{args u:List AY} {Q:AY->Ar->Prop},Dm args u->Ee P f u (BC b) Q->Ee P f args (BC b) Q:=λa H=>by
  refine Ee.before a.1 (λX g0 w s=>⟨⟨rfl,λj e' p=>?_⟩,λj Z p=>?_⟩) H;cases e' with
  |dead=>exact .inl rfl
  |live g1 L=>exact .inr (.inl ⟨g1,L,L,p,rfl,rfl,λi v hi=>⟨v,hi,λ_ r=>r⟩⟩)
  |_=>exact .inr (.inr ⟨p,k!⟩)
  obtain⟨v,q1,q2⟩:=a.2 j Z p;exact⟨v,q1,λd W=>q2 _ _ W⟩
 split at h;rename_i Y l;split at h;rename_i I;have n:=Ty.beq_eq _ _ I;injection n with n;subst n;have z:(Ty.cast I l:List Y.D)=l:=rfl;rw[z]at h;cases hz:decide (((l.length:Nat):Int)=0)with
 |true=>
  rw[hz]at h;have h0:l=[]:=by
   have:((l.length:Nat):Int)=0:=by simpa using hz
   exact Eg o!
  subst h0;refine⟨TV.c (Bk.ls Y []),b++[D5.dead],?_,h,Jz trivial,PH K trivial,CC.push _ _,Frame.push _ _ _⟩;exact(hc [] b K).1 rfl
 |false=>
  rw[hz]at h;have h0:l≠ []:=by rintro rfl;simp at hz
  obtain⟨r,hr,h⟩:=EC.1 h;have e:D5.ok (b++[.buf false Y r r.length 0]) (.buf false Y r r.length 0):=rfl;have q:=(hc l b K).2 r h0 hr;refine⟨TV.c (Bk.own b.length 0 Y r.length),b++[D5.buf false Y r r.length 0],?_,h,qU,PH K e,CC.push _ _,Frame.push _ _ _⟩;exact q
 cases h;refine⟨TV.c (Bk.ls t []),b++[D5.dead],?_,h,Jz trivial,PH K trivial,CC.push _ _,Frame.push _ _ _⟩;exact same (Dm.one (WG.nil t.sz_pos)) ((hc [] b K).1 rfl);cases h
end
section
variable {P:Program} {N:Nat} {o:Oper} {env:Env} {H:Ar} {K:AY->Ar->Prop}
def pk{sz:Nat}{rows:List AY}(n:o.op= .binOp .eql a c (.const (.slice none 0 0)) I)(E:P.underlying a=some (.slice W))(F:BH env c= .vs sz rows)
  (C: ∀b,(rows≠ []->b=false)->K (.bool b) H):JT P N o env H K:=by
 apply Cy (by rw[n];rfl);intro X h e w s Q;have l:=C8 s.env c;rw[F]at l;generalize i:e.eval c=cx0 at l;cases l with
 | @vs sz rows t cap f m D p z J=>
  have k:=run_underlying E w;have g:(execOp e.eval o).run P w= .ok (.value (.bool t.isNone)) w:=by
   unfold execOp;rw[n];have r:e.eval (.const (.slice none 0 0))= .slice none 0 0:=rfl;have u:(eqGuard .eql a c (.const (.slice none 0 0)) (.slice t rows.length cap) (.slice none 0 0)).run P w= .ok () w:=by unfold eqGuard;simp
   have v:(Op.equal a (.slice t rows.length cap) (.slice none 0 0)).run P w= .ok t.isNone w:=by
    have y: ∃d,Op.maxDepth=d+1:=⟨9999,rfl⟩
    obtain⟨d,A⟩:=y;unfold Op.equal;rw[A];cases t<;>simp[Op.equalIn,k]
   simp only[i,r,Sem.run_bind,u,Result.andThen_ok,binOp,v,Sem.run_pure]
  unfold Oper.wp;rw[g,Oper.upon_value];refine⟨_,_,h,H,rfl,C t.isNone (λj=>?_),.bool _,s.sim,HP.refl _ _ _⟩;obtain⟨B,G,q,_⟩:=z j;rw[q];rfl
def JT.clear{t e:TypeId}{x:Operand}{id g l n sz:Nat}(ho:o.op= .call {callee:=.builtin .clear,args:= #[x],argTypes:= #[t]})(hd:o.dst=none)(he:eI P t=some (none,e,sz))(b0:RT P e=true)(hz:Xq P e=some Q)(W:Q.length=sz)
  (hx:BH env x= .sl id g sz l n) (E:H[id]? =some (Eo.live g i)) (a4:l+n*sz<=i.length) (hk:K (.tup []) (H.set id (.live g (Vm i l (List.replicate n Q).flatten)))):JT P N o env H K:=by
 apply Cy (by rw[ho];rfl);intro X h a w s M;obtain⟨b2,b,hi⟩:=QC he;obtain⟨z,zv,v,b5,a',b3⟩:=TY b0;have a2:=jI hi v;obtain⟨i',y,a0,a8,a6⟩:=cE (cx X h H w) hz;have:i'=z:=by rw[v]at a0;exact(Bg a0).symm
 subst this;have:y=zv:=by rw[a']at a8;exact(Bg a8).symm
 subst this;have A:y.cells.size=sz:=by rw[b3,a2]
 have rx:=C8 s.env x;rw[hx]at rx;have R:=run_underlying b2 w;have S:(List.replicate n Q).flatten.length=n*sz:=by simp[W]
 obtain⟨ar,ao⟩:=s.sim.live id g i E;have b1: ∃ad cap,a.eval x= .slice ad n cap/\(n≠0-> ∃B,h.io id=some B/\ad=some ⟨B,l,none⟩):=by
  generalize a.eval x=c at rx;cases rx with
  |sl h1 h2 h3 hc=>rcases hc ar with⟨_,q2,_,q4⟩|⟨B,cap,q1,_,_,q4⟩;exact⟨none,0,by rw[q4,q2],λbN=>(bN q2).elim⟩;exact⟨_,cap,q4,λ_=>⟨B,q1,rfl⟩⟩
 obtain⟨ad,cap,Z,bb⟩:=b1;have a1:id<H.length:=by rcases Aq id H.length with h2|h2;exact h2;rw[Cj h2]at E;cases E
 by_cases hn:n=0;subst hn;have F:(execOp a.eval o).run P w= .ok (.value (.tuple #[])) w:=by unfold execOp;rw[ho];simp only[resolve,invoke,builtin,Sem.run_bind,Sem.run_pure,Result.andThen_ok,Pz,Bo,I3,Z,Builtin.clear_];simp[R];cases ad<;>simp
 unfold Oper.wp;rw[F,Oper.upon_value];have e1:H.set id (.live g (Vm i l (List.replicate 0 Q).flatten))=H:=by
  have:Vm i l (List.replicate 0 Q).flatten=i:=by simp[Vm]
  rw[this];apply I5;intro j;by_cases a3:j=id;subst a3;rw[IK a1,E];rw[EA λe=>a3 e.symm]
 rw[e1]at hk;exact⟨_,_,h,H,rfl,hk,.tup rfl λ_ _ _ h=>by (cases h),s.sim,HP.refl _ _ _⟩;obtain⟨B,J,rfl⟩:=bb hn;rcases ao with⟨a5,_⟩|⟨B',Y,T,fz,f,O,hb,al,b4,ap,I⟩;rw[show(cx X h H w).io id=h.io id from rfl,J]at a5;cases a5;rw[show(cx X h H w).io id=h.io id from rfl,J]at O;injection O with e0;subst e0;have V:(Builtin.zeroCells y.cells n).size=n*sz:=by rw[Xr,A]
 have G: ∀j,j<n*sz-> ∃d u,(Builtin.zeroCells y.cells n)[j]? =some d/\(List.replicate n Q).flatten[j]? =some u/\d.oneCell'=true/\Bi (cx X h H w) u d:=by
  intro j r;have a7:0<sz:=by rcases SU sz with q|q;subst q;simp at r;exact q
  have hm:j%sz<y.cells.size:=by rw[A];exact Nat.mod_lt _ a7
  have D:y.cells[j%sz]? =some (y.cells[j%sz]'hm):=O5 hm;have ax: ∀(m j:Nat),j<m*sz->(List.replicate m Q).flatten[j]? =Q[j%sz]? :=by
   intro m;induction m with
   |zero=>intro j r;omega
   |succ m ih=>intro j r;rw[jw,mX];rcases Aq j sz with bz|bl;rw[CK o!,Wx bz];rw[Cb o!,W,ih (j-sz) (by rw[Gt]at r;omega),<-Nat.mod_eq_sub_mod bl]
  have a9:Q[j%sz]? =some (Q[j%sz]'(by rw[W];exact Nat.mod_lt _ a7)):=At _;have U:(Builtin.zeroCells y.cells n)[j]? =some (y.cells[j%sz]'hm):=by
   unfold Builtin.zeroCells;rw[W5,Array.getElem?_range,if_pos (by rw[A];exact r)];have bG:j%y.cells.size<y.cells.size:=by rw[A];rw[A]at hm;exact hm
   rw[Bp,getElem!_pos y.cells _ bG];simp only[A]
  cases a6 with
  |agg q1 q2 q3=>exact⟨_,_,U,by rw[ax n j r,a9],q2 _ _ D,q3 _ _ _ a9 D⟩
 obtain⟨w',L,p1,p2,p3,p4,p5,p6,p7,p8,p9⟩:=UP (P:=P) (off:=l) (Builtin.zeroCells y.cells n).toList 0 Y w hb (by simp[V];omega) ap (λd hd=>by
  obtain⟨j,r⟩:=Eh hd;have bt:j<n*sz:=by rw[<-V];have:=(U1.1 r).1;simpa using this
  obtain⟨d',u,q1,_,q3,_⟩:=G j bt;rw[PK]at r;rw[r]at q1;injection q1 with q1;rw[q1];exact q3)
 have F:(execOp a.eval o).run P w= .ok (.value (.tuple #[])) w':=by
  unfold execOp;rw[ho];simp only[resolve,invoke,builtin,Sem.run_bind,Sem.run_pure,Result.andThen_ok,Pz,Bo,I3,Z,Builtin.clear_];have b6: ∀(α:Type) (p q:α),(match n with|0=>p|_+1=>q)=q:=by
   intro α p q;cases n with
   |zero=>exact(hn rfl).elim
   |succ m=>rfl
  obtain⟨m,rfl⟩: ∃m,n=m+1:=⟨n-1,o!⟩
  simp[R,zeroValue,typeInfo,v,a'];rw[p1];rfl
 have hh:gA (cx X h H w) (Vm i l (List.replicate n Q).flatten) L fz:=by
  refine⟨λj=>if l<=j/\j<l+n*sz then(Builtin.zeroCells y.cells n).getD (j-l) undef else f j,by rw[iD (by rw[S];exact a4)];omega,by rw[p3];exact ap,λj u r=>?_⟩;rw[qm (by rw[S];exact a4),S]at r;rw[p4];simp only[SS,Di,V,PK];split at r;rename_i C;rw[if_pos C,if_pos C];obtain⟨d,u',q1,q2,q3,q4⟩:=G (j-l) o!;rw[q2]at r;injection r with r;subst r;have e:(Builtin.zeroCells y.cells n).getD (j-l) undef=d:=by rw[QA,q1];rfl
  rw[e];exact⟨q1,q3,q4⟩;rename_i C;rw[if_neg C,if_neg C];exact I j u r
 obtain⟨q1,q2⟩:=s.sim.upd (g':=g) (B:=B) (arr:=L) (T:=T) (fz:=fz) (w':=w') E (Ai _) (λ_=>⟨J,by rw[p3];exact al.symm⟩) (.inl J) p2 (λk _ hk=>p5 k hk) p6 p7 p8 (by rw[p9];exact Ai _) hh;unfold Oper.wp;rw[F,Oper.upon_value];exact⟨_,_,_,_,rfl,hk,.tup rfl λ_ _ _ h=>by (cases h),q1,q2⟩
def oW(k:o.op= .call {callee:=.builtin .clear,args:= #[c],argTypes:= #[a]})(m:P.underlying a=some (.slice I))
  (t:BH env c= .vs n []) (l:K (.tup []) H):JT P N o env H K:=by
 apply Cy (by rw[k];rfl);intro X h e w s Q;have j:=C8 s.env c;rw[t]at j;have d:=run_underlying m w;have i: ∃f cap,e.eval c= .slice f 0 cap:=by
  generalize e.eval c=x at j;cases j with
  |vs=>exact⟨_,_,rfl⟩
 obtain⟨f,cap,g⟩:=i;have b:(execOp e.eval o).run P w= .ok (.value (.tuple #[])) w:=by unfold execOp;rw[k];simp only[resolve,invoke,builtin,Sem.run_bind,Sem.run_pure,Result.andThen_ok,Pz,Bo,I3,g,Builtin.clear_];simp[d];cases f<;>simp
 unfold Oper.wp;rw[b,Oper.upon_value];exact⟨_,_,h,H,rfl,l,.tup rfl λ_ _ _ h=>by (cases h),s.sim,HP.refl _ _ _⟩
end
def Vp(P:Program)(N:Nat)(ops:Array Oper):List Oper->Env->Ar->(Env->Ar->Prop)->Prop
 |[],env,H,Q=> ∃env1 H1,GC N H.length env H env1 H1/\Q env1 H1
 |o::rest,env,H,Q=> ∃env1 H1,GC N H.length env H env1 H1/\
  Wq ops o.guard env1 (JT P N o env1 H1 λv H'=>Vp P N ops rest (env1.putO o.dst v) H' Q) (Vp P N ops rest (env1.putO o.dst (.tup [])) H1 Q)
def Vp.weak{N:Nat}{Q:Env->Ar->Prop}{env1:Env}{H e:Ar}(w:GC N H.length s H env1 e): ∀{os:List Oper},Vp P N j os env1 e Q->Vp P N j os s H Q
 |[],h=>by obtain⟨c,b,d,q⟩:=h;exact⟨c,b,w.trans (d.of_le w.1),q⟩
 |o::os,h=>by obtain⟨c,b,d,q⟩:=h;exact⟨c,b,w.trans (d.of_le w.1),q⟩
theorem gZ{r:Option Nat}{C:Exit→Act→World→Prop}{Q:Env→Ar→Prop}:
  ∀(l:List Nat) (os:List Oper),l.map (j[·]?)=os.map some-> ∀(env:Env) (H:Ar) (h:Gh) (a:Act) (w:World),Kt N os=true->Vp P N j os env H Q->St A h N env H a w->(∀f n y u q,Q f n->St A y N f n u q->HP h H w y n q->u.defers=a.defers->C .normal u q)->wpOpsIn (FR r) 0 P j C l a w:=by
 intro l;induction l with
 |nil=>
  intro os d env H h a w _ hr s z;have:os=[]:=t!
  subst this;obtain⟨env1,X,b,hr⟩:=hr;obtain⟨x,e,E,d⟩:=b.2 A h a w s;exact z env1 X x a w hr e (GC.ext rfl b.1 E d (HP.refl h H w)) rfl
 |cons i l L=>
  intro os d env H h a w T hr s z;match os,d with
  |o::os,d=>
   simp at d;obtain⟨O,m⟩:=d;simp only[wpOpsIn,O];have g: ∀t,o.dst=some t->t<a.tmps.size:=by intro t Y;simp only[Kt]at T;rw[s.size];grind
   have p:Kt N os=true:=by simp_all[Kt]
   obtain⟨env1,X,b,hr⟩:=hr;obtain⟨x,e,E,d⟩:=b.2 A h a w s;have M:=GC.ext rfl b.1 E d (HP.refl h H w);rcases vU e.env hr with⟨J,R⟩|⟨J,S⟩;rw[if_pos J];refine Oper.wpIn_mono ?_ (R r A x a w e C);rintro u q ⟨c,v,y,n,rfl,k,W,V,K⟩;have U:=K.later A;apply L os m _ n y _ q p k ⟨V,NZ.putO (e.env.later U) g W,(Xk _ _ _).trans e.size⟩;intro env2 B m a2 G q2 F I D;exact z env2 B m a2 G q2 F (M.trans (K.trans I)) (D.trans (by cases o.dst<;>rfl));rw[if_neg q!];refine⟨λ_ _=>trivial,L os m _ X x _ w p S ⟨e.sim,NZ.putO e.env g (.tup rfl λ_ _ _ h=>by cases h),(Xk _ _ _).trans e.size⟩ ?_⟩;intro env2 B m a2 G q2 F I D;exact z env2 B m a2 G q2 F (M.trans I) (D.trans (by cases o.dst<;>rfl))
theorem Fw{N:Nat}{H:Ar}{Q:Exit->Env->Ar->Prop}{id:Nat}{b:Array Oper}(i:Kt N b.toList=true)(h:Vp P N b b.toList s H (Q .normal)):Mf P N (.region id b false) s H Q:=by intro r X g a w n _;refine wpIn_region (gZ (List.range b.size) b.toList ?_ s H g a w i h n ?_);apply I5;grind;intro c d f l m q j k e;exact⟨f,c,d,q,j,k,.same e⟩
open Go.MapKept (IsKey)
def Eo.isM:Eo->Bool
 | .mp _ _=>true
 | .it _ _=>true
 |_=>false
theorem mw{e:Eo}(h:e.isM=true):e.isB=true:=by cases e<;>simp_all[Eo.isM,Eo.isB]
def UW{α:Type}(n:Int)(v:α):List (Int×α)->List (Int×α)
 |[]=>[(n,v)]
 |p::r=>bif p.1==n then(n,v)::r else p::UW n v r
def Qf{α:Type}(n:Int):List (Int×α)->Option α
 |[]=>none
 |p::r=>bif p.1==n then some p.2 else Qf n r
def vq{a c:Type}(f:a->c)(n:Int)(v:a): ∀b:List (Int×a),(UW n v b).map (λp=>(p.1,f p.2))=UW n (f v) (b.map λp=>(p.1,f p.2))
 |[]=>rfl
 |p::r=>by simp only[UW,Bo];cases p.1==n<;>simp[vq f n v r]
def vo{b c:Type}(f:b->c)(n:Int): ∀a:List (Int×b),Qf n (a.map λp=>(p.1,f p.2))=(Qf n a).map f
 |[]=>rfl
 |p::r=>by simp only[Qf,Bo];cases p.1==n<;>simp[vo f n r]
section
variable {X:Nat->Prop} {h:Gh} {H:Ar} {w:World}
theorem JE.of_extM{a:Gh}{d:World}(s:JE X h H w)(F:HP h H w a p d)
  (key: ∀(id:Nat) (e:Eo),p[id]? =some e->e≠ .dead->(H[id]? =some e/\a.gen id=h.gen id/\a.io id=h.io id/\a.cap id=h.cap id/\ ∀B,h.io id=some B->d.heap[B]? =w.heap[B]?)\/(e.isM=true/\BAt a p d id e))
  (inj: ∀(id b:Nat) (e k:Eo) (B:Nat),p[id]? =some e->p[b]? =some k->e≠ .dead->k≠ .dead->a.io id=some B->a.io b=some B->id=b):JE X a p d:=by
 refine s.of_ext' F (λid e n E=>?_) (λid T G j l n f hr=>?_) inj;grind[mw];obtain⟨B,c,v,m,y,z,A,D,C⟩:=s.bld id _ f rfl;rcases key id _ n k! with⟨_,r,t,I,u⟩|⟨e,_⟩;rcases key j _ hr k! with⟨i,J,x,K,L⟩|⟨e,_⟩;refine⟨B,c,v,t.trans m,(u B m).trans y,z,r.trans A,D,λ_=>?_⟩;obtain⟨q1,q2⟩:=C i;refine⟨⟨q1.1,?_⟩,q2.trans x.symm⟩;rcases q1.2 with q|⟨g,cap,o,M,rfl,N,O,P⟩;grind;grind[Value.ownBlock];cases e;cases e
theorem JE.push_m(s:JE X h H w)(o:Obj)(cap:Nat)(E:Eo)(u:E.isM=true)
  (t:BAt (h.at_ H.length (some w.heap.size) 0 cap) (H++[E]) {w with heap:=w.heap.push o} H.length E):
  JE X (h.at_ H.length (some w.heap.size) 0 cap) (H++[E]) {w with heap:=w.heap.push o}:=by
 refine s.of_extM (HP.push o cap E) (λid e d g=>?_) λid q e r B m n b c k l=>?_;rcases I0 d with⟨a,d⟩|⟨rfl,rfl⟩;refine .inl ⟨d,by simp[Gh.at_,BW a],by simp[Gh.at_,BW a],by simp[Gh.at_,BW a],λB f=>?_⟩;have:=s.io_at d g f;grind;grind;rcases I0 m with⟨l1,i⟩|⟨rfl,_⟩<;>rcases I0 n with⟨l2,j⟩|⟨rfl,_⟩;exact s.inj _ _ _ _ B i j b c (by simpa[Gh.at_,BW l1]using k) (by simpa[Gh.at_,BW l2]using l);have p:=s.io_at i b (by simpa[Gh.at_,BW l1]using k);grind[Gh.at_];have p:=s.io_at j c (by simpa[Gh.at_,BW l2]using l);grind[Gh.at_];rfl
def JE.setM(s:JE X h H w){E E':Eo}{o o':Obj}{w':World}(g:H[N]? =some E)(J:E.isM=true)(v:E'.isM=true)(m:h.io N=some n)(K:w.heap[n]? =some o)(A: ∀r,o≠ .loop r)
  (G:w'.heap=w.heap.setIfInBounds n o') (C:w'.os=w.os) (B:w'.tape=w.tape) (M:w'.output=w.output) (x:BAt h (H.set N E') w' N E'):
  JE X h (H.set N E') w'/\HP h H w h (H.set N E') w':=by
 have d:N<H.length:=by rcases Aq N H.length with f|f;exact f;rw[Cj f]at g;cases g
 have b:E≠ .dead:=by rintro rfl;cases J
 have O: ∀k,k≠n->w'.heap[k]? =w.heap[k]? :=λk h=>by rw[G];simp[Ne.symm h]
 have own: ∀k,owned h (H.set N E') k->owned h H k:=by rintro k ⟨i,e,j,c,f⟩;rcases JR d j with⟨y,a⟩|⟨rfl,_⟩;exact⟨i,e,a,c,f⟩;exact⟨i,E,g,b,f⟩
 have I:HP h H w h (H.set N E') w':=by refine⟨C,B,M,by rw[G];simp,λk _ hn=>O k λe=>hn ⟨N,E,g,b,by rw[e];exact m⟩,k!,λ_ _=>Ai _,λ_ _ _=>⟨rfl,rfl⟩,λk O=>.inl (own k O),λk r hr=>⟨r,?_⟩⟩;refine(O k λe=>?_).trans hr;subst e;rw[K]at hr;injection hr with hr;exact A r hr
 refine⟨s.of_extM I (λi e j c=>?_) (λi D e F k j f p q t u=>?_),I⟩;rcases JR d j with⟨y,a⟩|⟨rfl,rfl⟩;refine .inl ⟨a,rfl,rfl,rfl,λk z=>O k λe=>?_⟩;subst e;exact y (s.inj i N _ _ k a g c b z m);exact .inr ⟨v,x⟩;rcases JR d j with⟨y,a⟩|⟨rfl,rfl⟩<;>rcases JR d f with⟨L,l⟩|⟨rfl,rfl⟩;exact s.inj i D e F k a l p q t u;exact s.inj i D e E k a g p b t u;exact s.inj i D E F k g l b q t u;rfl
end
def kL{k:IntKind}{n:Int}: ∀(l:List MapEntry) (a:List (Int×AY)) (i:Nat),l.length=a.length→(∀(j:Nat) (p:Int×AY),a[j]? =some p→ ∃e:MapEntry,l[j]? =some e∧e.key= .int k p.1)→
  (Instr.findNow (.int k) (.int k n) l i=some none/\Qf n a=none/\ ∀v,UW n v a=a++[(n,v)])\/∃j e p,Instr.findNow (.int k) (.int k n) l i=some (some (i+j,e.val))/\l[j]? =some e/\a[j]? =some p/\e.key= .int k n/\Qf n a=some p.2/\ ∀v,UW n v a=a.set j (n,v)
 |[],[],_,_,_=>.inl ⟨rfl,rfl,λ_=>rfl⟩
 |[],_::_,_,hl,_=>by simp at hl
 |_::_,[],_,hl,_=>by simp at hl
 |e::l,p::a,i,hl,h=>by
  obtain⟨z,o,r⟩:=h 0 p rfl;simp only[aE,Al]at o;subst o;have m:Instr.sameNow (.int k) (.int k n) e.key=some (n==p.1):=by rw[r];simp[Instr.sameNow]
  by_cases hn:p.1=n;refine .inr ⟨0,e,p,?_,rfl,rfl,by rw[r,hn],?_,λv=>?_⟩;simp[Instr.findNow,m,hn];simp[Qf,hn];simp[UW,hn];have c:(n==p.1)=false:=by simp;exact λe=>hn e.symm
  have b:(p.1==n)=false:=by simpa using hn
  rcases kL (k:=k) (n:=n) l a (i+1) (by simpa using hl) (λj q x=>by simpa using h (j+1) q (by simpa using x))with⟨d,f,g⟩|⟨j,s,y,d,f,g,t,u,w⟩;exact .inl ⟨by simp[Instr.findNow,m,c,d],by simp[Qf,b,f],λv=>by simp[UW,b,g]⟩;exact .inr ⟨j+1,s,y,by simp[Instr.findNow,m,c,d];omega,by simpa using f,by simpa using g,t,by simp[Qf,b,u],λv=>by simp[UW,b,w]⟩
section
variable {P:Program} {N:Nat} {o:Oper} {env:Env} {H:Ar} {K:AY->Ar->Prop}
def JT.makeMap(k:IntKind)(c:o.op= .makeMap a none)(e:K (.mp H.length) (H++[.mp k []])):JT P N o env H K:=by
 apply Cy (by rw[c];rfl);intro X h t w s Q;have b:(execOp t.eval o).run P w= .ok (.value (.map (some w.heap.size))) {w with heap:=w.heap.push (.map #[] 0)}:=by unfold execOp;rw[c];rfl
 unfold Oper.wp;rw[b,Oper.upon_value];refine⟨_,_,_,_,rfl,e,?_,s.sim.push_m (.map #[] 0) 0 (.mp k []) rfl ⟨w.heap.size, #[],by simp[Gh.at_],by simp[Gh.at_],k!,rfl,λj p d=>by simp at d⟩,HP.push _ _ _⟩;exact .mp (by simp[cx]) rfl λ_=>⟨w.heap.size,by simp[cx,Gh.at_],rfl⟩
def ABT(s:St A h N env H M w)(u:BH env c= .mp n)(r:H[n]? =some (.mp z J)):
  ∃(B:Nat) (b:Array MapEntry),M.eval c= .map (some B)/\h.io n=some B/\h.gen n=0/\w.heap[B]? =some (.map b b.size)/\b.size=J.length/\∀(j:Nat) (p:Int×AY),J[j]? =some p-> ∃e:MapEntry,b[j]? =some e/\e.born=j/\e.key= .int z p.1/\ ∀c,Bi c p.2 e.val:=by
 have g:=C8 s.env c;rw[u]at g;obtain⟨B,b,i,l,m,X,o⟩:=s.sim.bld n _ r rfl;generalize M.eval c=a at g;cases g with
 |mp t y q=>obtain⟨v,d,rfl⟩:=q l;rw[show(cx A h H w).io n=h.io n from rfl,i]at d;injection d with d;subst d;exact⟨B,b,rfl,i,l,m,X,o⟩
def ABD(s:St X h N env H M w)(d:BH env c= .int z F):M.eval c= .int z F:=by have b:=C8 s.env c;rw[d]at b;generalize M.eval c=a at b;cases b;rfl
theorem JT.mapUpdate{t U et:TypeId}{m I A:Operand}{id:Nat}{k:IntKind}{es:List (Int×AY)}{n:Int}{v:AY}(S:o.op= .mapUpdate t m I A)(hm:BH env m= .mp id)(G:BH env I= .int k n)
  (hp: ∀(x:Cx) (c:Value),Bi x (BH env A) c-> ∀y,Bi y v c) (T:P.underlying t=some (.map U et)) (l:P.underlying U=some (.int k)) (E:H[id]? =some (.mp k es)) (R:K .any (H.set id (.mp k (UW n v es)))):JT P N o env H K:=by
 apply Cy (by rw[S];rfl);intro X h a w s Q;obtain⟨B,b,q1,q2,q3,q4,q5,q6⟩:=ABT s hm E;have V:=ABD s G;have W:=hp _ _ (C8 s.env A);generalize u:a.eval A=c at W;have al:id<H.length:=q!
 have f:IsKey (.int k) (.int k n):=rfl;have q:B<w.heap.size:=(kq.1 q4).1;have z:execOp a.eval o=(do Instr.mapUpdate t (a.eval m) (a.eval I) (a.eval A);pure .skip):=by unfold execOp;rw[S]
 rcases kL (n:=n) (k:=k) b.toList es 0 q! (λj p d=>by obtain⟨e,Z,_,C,_⟩:=q6 j p d;exact⟨e,q!,C⟩)with⟨D,M,O⟩|⟨j,Y,p0,D,M,O,h4,h5,h6⟩;have g:(execOp a.eval o).run P w= .ok .skip {w with heap:=w.heap.setIfInBounds B (.map (b.push {key:=.int k n,val:=c,born:=b.size}) (b.size+1))}:=by rw[z,q1,V,u];simp[Instr.mapUpdate,run_underlying T,MapKept.run_getObj_map q4,MapKept.run_checkKey l f,MapKept.run_findKey l D,MapKept.run_setObj_map _ q4]
 unfold Oper.wp;rw[g,Oper.upon_skip];obtain⟨J,L⟩:=s.sim.setM (E':=.mp k (UW n v es)) (o':=.map (b.push {key:=.int k n,val:=c,born:=b.size}) (b.size+1))
  (w':={w with heap:=w.heap.setIfInBounds B (.map (b.push {key:=.int k n,val:=c,born:=b.size}) (b.size+1))}) E rfl rfl q2 q4 (λr e=>by cases e) rfl rfl rfl rfl (by refine⟨B,b.push {key:=.int k n,val:=c,born:=b.size},q2,q3,by simp[q],q!,λj p d=>?_⟩;rw[O]at d;rcases P7 j es.length with ar|rfl|ad;grind;rw[Cb (Ai _),Gu]at d;simp only[aE,Al]at d;subst d;exact⟨{key:=.int k n,val:=c,born:=b.size},q!,q5,rfl,W⟩;rw[Cj w!]at d;cases d)
 exact⟨_,_,_,_,rfl,R,.any _,J,L⟩;have d:b[j]? =some Y:=by simpa using M
 have ap:j<b.size:=(kq.1 d).1;have g:(execOp a.eval o).run P w= .ok .skip {w with heap:=w.heap.setIfInBounds B (.map (b.modify j λe=>{e with key:=.int k n,val:=c}) b.size)}:=by rw[z,q1,V,u];simp[Instr.mapUpdate,run_underlying T,MapKept.run_getObj_map q4,MapKept.run_checkKey l f,MapKept.run_findKey l D,d,h4,MapKept.run_keyThatStays f,MapKept.run_setObj_map _ q4]
 unfold Oper.wp;rw[g,Oper.upon_skip];obtain⟨J,L⟩:=s.sim.setM (E':=.mp k (UW n v es)) (o':=.map (b.modify j λe=>{e with key:=.int k n,val:=c}) b.size)
  (w':={w with heap:=w.heap.setIfInBounds B (.map (b.modify j λe=>{e with key:=.int k n,val:=c}) b.size)}) E rfl rfl q2 q4 (λr e=>by cases e) rfl rfl rfl rfl (by refine⟨B,b.modify j λe=>{e with key:=.int k n,val:=c},q2,q3,by simp[q],q!,λi p F=>?_⟩;rw[h6,aF]at F;split at F;grind;rename_i ao;obtain⟨e,Z,C⟩:=q6 i p F;exact⟨e,q!,C⟩)
 exact⟨_,_,_,_,rfl,R,.any _,J,L⟩
def y6(P:Program)(t:TypeId):Option (List AY):=
 match (P.info? t).bind (·.zero)with
 |some (.agg cs)=>if cs.toList.all (·.oneCell')then some (cs.toList.map nr)else none
 |_=>none
theorem AAG(h:y6 P a=some i)(w:World): ∃v,(zeroValue a).run P w= .ok v w/\ ∀x,Bi x (.agg i) v:=by unfold y6 at h;split at h;rename_i b t;split at h;rename_i c;obtain⟨z,d,t⟩:=EC.1 t;refine⟨.agg b,by simp[zeroValue,typeInfo,d,t],λx=>?_⟩;have:=vH x (.agg b);grind[zS];cases h;cases h
theorem JT.lookup{id:Nat}{k:IntKind}{es:List (Int×AY)}{n:Int}{z:List AY}(R:o.op= .lookup a c L true)(hm:BH env c= .mp id)(F:BH env L= .int k n)
  (S:P.underlying a=some (.map I W)) (f:P.underlying I=some (.int k)) (hz:y6 P W=some z) (he:H[id]? =some (.mp k es))
  (hk:K (.tup [(Qf n es).getD (.agg z),.bool (Qf n es).isSome]) H):JT P N o env H K:=by
 apply Cy (by rw[R];rfl);intro X h t w s Q;obtain⟨B,l,q1,q2,q3,q4,q5,q6⟩:=ABT s hm he;have U:=ABD s F;have g:IsKey (.int k) (.int k n):=rfl;have x:execOp t.eval o=(do pure (.value (<-Instr.lookup a (t.eval c) (t.eval L) true))):=by unfold execOp;rw[R]
 have r: ∀(G:Value) (v:AY) (b:Bool),(execOp t.eval o).run P w= .ok (.value (.tuple #[G,.bool b])) w→Bi (cx X h H w) v G→K (.tup [v,.bool b]) H→
   Oper.wp P o t w (λY m=> ∃G v D A,Y=t.put o.dst G/\K v A/\Bi (cx X D A m) v G/\JE X D A m/\HP h H w D A m) Q:=by
  intro G v b y T hK;unfold Oper.wp;rw[y,Oper.upon_value];refine⟨_,_,h,H,rfl,hK,.tup k! λj u d i O=>?_,s.sim,HP.refl _ _ _⟩;rcases j with _|_|j;grind;simp at i O;subst i O;exact .bool b;grind
 rcases kL (n:=n) (k:=k) l.toList es 0 q! (λj p i=>by obtain⟨e,q,_,C,_⟩:=q6 j p i;exact⟨e,q!,C⟩)with⟨E,Z,M⟩|⟨j,J,V,E,Z,M,h4,h5,h6⟩;obtain⟨v,T,hr⟩:=AAG hz w;refine r v (.agg z) false ?_ (hr _) q!;rw[x,q1,U];simp[Instr.lookup,run_underlying S,MapKept.run_getObj_map q4,MapKept.run_checkKey f g,MapKept.run_findKey f E,T];obtain⟨e',q,_,_,C⟩:=q6 j V M;have i:l[j]? =some J:=q!
 rw[i]at q;injection q with q;subst q;refine r J.val V.2 true ?_ (C _) q!;rw[x,q1,U];simp[Instr.lookup,run_underlying S,MapKept.run_getObj_map q4,MapKept.run_checkKey f g,MapKept.run_findKey f E]
theorem JT.range{id:Nat}{k:IntKind}{es:List (Int×AY)}(d:o.op= .range a c)(j:BH env c= .mp id)(l:P.underlying a=some (.map I W))(g:H[id]? =some (.mp k es))
  (i:K (.itp H.length id) (H++[.it es.length []])):JT P N o env H K:=by
 apply Cy (by rw[d];rfl);intro X h n w s Q;obtain⟨B,e,q1,q2,q3,q4,q5,q6⟩:=ABT s j g;have t:id<H.length:=q!
 have b:(execOp n.eval o).run P w= .ok (.value (.pointer (some ⟨w.heap.size,0,none⟩))) {w with heap:=w.heap.push (.mapIter (some B) es.length #[] es.length)}:=by unfold execOp;rw[d];simp only[q1];simp[Instr.range,run_underlying l,MapKept.run_getObj_map q4,newObj,q5];rfl
 unfold Oper.wp;rw[b,Oper.upon_value];refine⟨_,_,_,_,rfl,i,?_,s.sim.push_m (.mapIter (some B) es.length #[] es.length) B (.it es.length []) rfl ⟨w.heap.size,by simp[Gh.at_],by simp[Gh.at_],by simp[Gh.at_]⟩,HP.push _ _ _⟩;exact .itp (by simp[cx]) (by simp[cx];omega) rfl λ_=>⟨w.heap.size,by simp[cx,Gh.at_],rfl,λ_=>by simp[cx,Gh.at_,BW t,q2]⟩
def AD4{m:Nat}(s:St A h N env H M w)(F:BH env c= .itp U m)(D:H[U]? =some (.it n O))(C:H[m]? =some (.mp z J)):
  ∃(B f:Nat) (b:Array MapEntry),M.eval c= .pointer (some ⟨B,0,none⟩)/\h.io U=some B/\h.gen U=0/\w.heap[B]? =some (.mapIter (some f) n O.toArray n)/\h.cap U=f/\w.heap[f]? =some (.map b b.size)/\b.size=J.length/\∀(j:Nat) (p:Int×AY),J[j]? =some p-> ∃e:MapEntry,b[j]? =some e/\e.born=j/\e.key= .int z p.1/\ ∀c,Bi c p.2 e.val:=by
 have l:=C8 s.env c;rw[F]at l;obtain⟨B,o,q,r⟩:=s.sim.bld U _ D rfl;obtain⟨f,b,t,u,v,y,x⟩:=s.sim.bld m _ C rfl;generalize M.eval c=k at l;cases l with
 |itp E X I a=>obtain⟨G,g,rfl,d⟩:=a q;rw[show(cx A h H w).io U=h.io U from rfl,o]at g;injection g with g;subst g;have d:=d u;rw[show(cx A h H w).io m=h.io m from rfl,t]at d;injection d with d;have d:f=h.cap U:=d;subst d;exact⟨B,_,b,rfl,o,q,r,rfl,v,y,x⟩
theorem JT.next{x:Operand}{id m:Nat}{k:IntKind}{es:List (Int×AY)}{seen:List Nat}(ho:o.op= .next x false)(hx:BH env x= .itp id m)(f:H[id]? =some (.it es.length seen))(he:H[m]? =some (.mp k es))
  (z:(∀j,j<es.length->j∈seen)->K (.tup [.bool false]) H)
  (C: ∀(j:Nat) (p:Int×AY),es[j]? =some p->j∉seen->K (.tup [.bool true,.int k p.1,p.2]) (H.set id (.it es.length (seen++[j])))):JT P N o env H K:=by
 apply Cy (by rw[ho];rfl);intro X h a w s Q;obtain⟨B,v,c,q1,q2,q3,q4,qc,q5,q6,q7⟩:=AD4 s hx f he;have ap:execOp a.eval o=(do pure (.value (<-Instr.next (a.eval x) false o.type))):=by unfold execOp;rw[ho]
 have y: ∀(j:Nat) (e:MapEntry),c[j]? =some e->e.born=j/\j<es.length:=by
  intro j e q;have I:j<es.length:=by grind[Array.getElem?_eq_some_iff]
  obtain⟨e',E,T,_⟩:=q7 j _ (At I);rw[q]at E;injection E with E;subst E;exact⟨T,I⟩
 have t: ∀e∈c.toList,e.born<es.length:=λe A=>by grind[List.getElem?_of_mem]
 have M:w.heap[B]? =some (.mapIter (some v) es.length seen.toArray es.length):=q4;generalize V:Array.filter (λe:MapEntry=>!seen.toArray.contains e.born) c=L;have G: ∀e∈L.toList,e∈c.toList/\e.born∉seen:=λe A=>by rw[<-V]at A;simpa using A
 have E:L.filter (λx=>decide (x.born<es.length))=L:=Array.filter_eq_self.2 (λx hx=>by simpa using t x (G x (by simpa using hx)).1);have T:L.filter (λx=>decide (x.born>=es.length))= #[]:=by grind[Array.filter_eq_empty_iff]
 have D:(Instr.next (.pointer (some ⟨B,0,none⟩)) false o.type).run P w=((do
   let b:=(if L.isEmpty then #[none]else #[])++L.map some;match b[<-choose (.mapNext b.size)]? with
   |some (some e)=>
    setObj B (.mapIter (some v) es.length (seen.toArray.push e.born) c.size)
    pure (.tuple #[.bool true,e.key,e.val])
   |some none=>pure (.tuple #[.bool false])
   |none=>stuck "Next: no such candidate"):Sem Value).run P w:=by
  simp only[Instr.next,getObj,Sem.run_bind,Sem.run,M,q5,Result.andThen,next_test_false seen.toArray c es.length es.length t (Ai _),Kf,if_false,V,E,T,Array.append_empty];rfl
 by_cases h0:L.size=0;have W:L= #[]:=Array.eq_empty_of_size_eq_zero h0;subst W;have g:(execOp a.eval o).run P w= .ok (.value (.tuple #[.bool false])) w:=by simp_all[Sem.run_bind,Sem.run,Question.forced]
 unfold Oper.wp;rw[g,Oper.upon_value];refine⟨_,_,h,H,rfl,z λj q=>?_,.tup k! λi u d f n=>?_,s.sim,HP.refl _ _ _⟩;obtain⟨e,O,R,_⟩:=q7 j _ (At q);rcases Classical.em (j∈seen)with U|U;exact U;have:e∈(Array.filter (λe:MapEntry=>!seen.toArray.contains e.born) c).toList:=by have A:e∈c:=rX O;simp[A,R,U]
 rw[V]at this;simp at this;rcases i with _|i;simp at f n;subst f n;exact .bool false;simp at f;have ax:L.isEmpty=false:=by simp[Array.isEmpty,h0]
 obtain⟨i,l,ar,Y,Z,ad,al,ao⟩: ∃(i:Nat) (l:World),i<L.size/\l.heap=w.heap/\l.os=w.os/\l.output=w.output/\l.tape=w.tape/\(choose (Question.mapNext L.size)).run P w= .ok i l:=by by_cases hf:L.size<=1;exact⟨0,w,o!,rfl,rfl,rfl,rfl,by simp[choose,Sem.run,Question.forced,hf]⟩;exact⟨_,w.drew,Nat.mod_lt _ o!,rfl,rfl,rfl,rfl,by simp only[choose,Sem.run,Question.forced,decide_eq_true_eq,hf,if_false,Question.cut];rfl⟩
 have A:L[i]∈L.toList:=k!
 obtain⟨m1,m2⟩:=G _ A;obtain⟨j,q⟩:=Eh m1;have q:c[j]? =some L[i]:=by simpa using q
 obtain⟨O,R⟩:=y j _ q;obtain⟨e,S,c2,c3,c4⟩:=q7 j _ (At R);rw[q]at S;injection S with S;subst S;have F:B<w.heap.size:=(kq.1 q4).1;have g:(execOp a.eval o).run P w= .ok (.value (.tuple #[.bool true,.int k es[j].1,L[i].val])) {l with heap:=w.heap.setIfInBounds B (.mapIter (some v) es.length (seen++[j]).toArray es.length)}:=by
  rw[ap,q1,Sem.run_bind,D];simp only[ax,Kf,if_false,Array.empty_append,Array.size_map,Sem.run_bind,ao,Result.andThen_ok,W5,O5 ar,Bp];have J:(setObj B (.mapIter (some v) es.length (seen.toArray.push L[i].born) c.size)).run P l= .ok () {l with heap:=w.heap.setIfInBounds B (.mapIter (some v) es.length (seen++[j]).toArray es.length)}:=by simp[setObj,Sem.run,Y,M,O,q6]
  simp only[J,Result.andThen_ok,Sem.run_pure,c3]
 unfold Oper.wp;rw[g,Oper.upon_value];obtain⟨s1,s2⟩:=s.sim.setM (E':=.it es.length (seen++[j])) (o':=.mapIter (some v) es.length (seen++[j]).toArray es.length) (w':={l with heap:=w.heap.setIfInBounds B (.mapIter (some v) es.length (seen++[j]).toArray es.length)}) f rfl rfl q2 q4 (λr e=>by cases e) rfl Z al ad
  ⟨B,q2,q3,by simp[F,qc]⟩
 refine⟨_,_,_,_,rfl,C j _ (At R) (by rw[<-O];exact m2),.tup k! λi u d f n=>?_,s1,s2⟩;rcases i with _|_|_|i;simp at f n;subst f n;exact .bool true;simp at f n;subst f n;exact .int _ _;simp at f n;subst f n;exact c4 _;simp at f
theorem JT.entry{x:Operand}{id m j:Nat}{k:IntKind}{es:List (Int×AY)}{seen:List Nat}{p:Int×AY}(l:o.op= .entry x)(A:BH env x= .itp id m)(f:H[id]? =some (.it es.length (seen++[j])))(r:H[m]? =some (.mp k es))
  (v:es[j]? =some p) (y:K (.tup [.int k p.1,p.2]) H):JT P N o env H K:=by
 apply Cy (by rw[l];rfl);intro X h a w s Q;obtain⟨B,C,b,q1,q2,q3,q4,J,q5,q6,q7⟩:=AD4 s A f r;obtain⟨e,D,n,q,E⟩:=q7 j p v;have t:b.find? (λx=>x.born==j)=some e:=by
  rw[<-Array.find?_toList,<-n];refine find_born e b.toList ?_ q!;have I:b.toList.map (·.born)=List.range b.size:=by refine I5 λi=>?_;rw[CO,PK];rcases Aq i b.size with z|z;obtain⟨e,F,G,_⟩:=q7 i _ (At (by omega:i<es.length));grind;grind
  grind
 have c:(execOp a.eval o).run P w= .ok (.value (.tuple #[.int k p.1,e.val])) w:=by unfold execOp;rw[l];simp only[q1];simp[Instr.entry,getObj,Sem.run,q4,q5,q6,t,q]
 unfold Oper.wp;rw[c,Oper.upon_value];refine⟨_,_,h,H,rfl,y,.tup k! λi u d f g=>?_,s.sim,HP.refl _ _ _⟩;rcases i with _|_|i;simp at f g;subst f g;exact .int _ _;grind;grind
end
mutual
def Ty.flat:Ty->Bool
 | .list _=>false
 | .arr _ t=>t.flat
 | .prod ts=>ts.flat
 |_=>true
def RU.flat:RU->Bool
 | .one t=>t.flat
 | .cons t ts=>t.flat&&ts.flat
end
def Plain(v:AY):Prop:= ∀(x:Cx) (c:Value),Bi x v c-> ∀y,Bi y v c
theorem Plain.agg{a:List AY}(h: ∀v∈a,Plain v):Plain (.agg a):=λx c r y=>by
 cases r with
 |agg e f i=>exact .agg e f λj v d b g=>h v (BM b) x d (i j v d b g) y
mutual
theorem Ty.plain_cells: ∀(t:Ty),t.flat=true-> ∀x:t.D,∀v∈(t.enc x).cells,Plain v
 | .bool,_,b,v,d=>by simp only[Ty.enc,AY.cells,BA]at d;subst d;exact λ_ c r y=>by cases r;exact .bool _
 | .int k,_,n,v,d=>by simp only[Ty.enc,AY.cells,BA]at d;subst d;exact λ_ c r y=>by cases r;exact .int _ _
 | .str,_,s,v,d=>by
  simp only[Ty.enc,AY.cells,BA]at d;subst d;exact λ_ c r y=>by
   cases r with
   |str t e=>exact .str t e
 | .list t,h,_,_,_=>by cases h
 | .arr n t,h,a,v,d=>by simp only[Ty.enc,AY.cells,Hq]at d;obtain⟨i,_,d⟩:=d;exact t.plain_cells h _ v d
 | .prod ts,h,x,v,d=>ts.plain_cells h x v d
theorem RU.plain_cells: ∀(b:RU),b.flat=true-> ∀x:b.D,∀v∈b.cells x,Plain v
 | .one t,h,x,v,a=>t.plain_cells h x v a
 | .cons t b,h,x,v,a=>by simp only[RU.flat,BP]at h;simp only[RU.cells,An]at a;rcases a with a|a;exact t.plain_cells h.1 _ v a;exact b.plain_cells h.2 _ v a
end
theorem Ty.plain(t:Ty)(h:t.flat=true)(x:t.D):Plain (t.enc x):=by have a:=t.plain_cells h x;cases t<;>grind[Plain.agg,Ty.enc,AY.cells]
section
variable {R:Type}
def qQ(P:Program)(H:Am)(t:TypeId)(k:TV->Am->Option R):Option R:=
 match P.underlying t with
 |some (.map kt et)=>
  match P.underlying kt,xl P 1000 et with
  |some (.int kk),some ty=>k (.c (.raw (.mp H.length))) (H++[.mp false kk ty []])
  |_,_=>none
 |_=>none
def kR(P:Program)(H:Am)(t:TypeId)(m kx v:TV)(k:TV->Am->Option R):Option R:=
 match P.underlying t with
 |some (.map kt _)=>
  match m,kx with
  | .c (.raw (.mp id)),.c (.it kk n)=>
   match P.underlying kt,H[id]? with
   |some (.int k1),some (.mp false k2 ty es)=>
    if k1=kk/\k2=kk then
     match ty.flat with
     |true=>match ty.data v with|some x=>k R8 (H.set id (.mp false k2 ty (UW n x es)))|none=>none
     |false=>none
    else none
   |_,_=>none
  |_,_=>none
 |_=>none
def uF(P:Program)(H:Am)(t:TypeId)(m kx:TV)(k:TV->Am->Option R):Option R:=
 match P.underlying t with
 |some (.map kt et)=>
  match m,kx with
  | .c (.raw (.mp id)),.c (.it kk n)=>
   match P.underlying kt,H[id]?,y6 P et with
   |some (.int k1),some (.mp _ k2 ty es),some z=>
    if k1=kk/\k2=kk then
     match ty.isAgg&&AY.beqL z (ty.enc ty.zero).cells with
     |true=>k (.tup [ty.tv ((Qf n es).getD ty.zero),.c (.bl (Qf n es).isSome)]) H
     |false=>none
    else none
   |_,_,_=>none
  |_,_=>none
 |_=>none
variable {P:Program} {N:Nat} {o:Oper} {env:BV} {H:Am} {k:TV->Am->Option R} {r:R}
theorem qR(ok:PJ env H)(b:o.op= .makeMap a none)(h:qQ P H a k=some r): ∀F,mM P N o env H F k r:=by intro F;unfold qQ at h;split at h;split at h;rename_i t c _ _;have st:CC H (H++[.mp false t c []]):=CC.push H _;refine⟨_,_,JT.makeMap t b ⟨?_,?_⟩,h,Jz trivial,PH ok.heap trivial,st,Frame.push F H _⟩;show AY.mp (BC H).length=AY.mp H.length;rw[CW];rw[Ql];rfl;cases h;cases h
def nL{u:Operand}(ok:PJ env H)(E:o.op= .mapUpdate a c L u)(h:kR P H a (I9 env c) (I9 env L) (I9 env u) k=some r):mM P N o env H (List.range H.length) k r:=by
 have b:=Jj env;unfold kR at h;split at h;rename_i K I F;split at h;rename_i id J n D C;split at h;rename_i k1 q t d g i;split at h;rename_i f;obtain⟨w,A⟩:=f;subst w A;split at h;rename_i e;split at h;rename_i x G;have st:CC H (H.set id (.mp false q t (UW n x d))):=CC.set i rfl λ_ _ _ _ _ h=>by cases h
 refine⟨R8,_,JT.mapUpdate (id:=id) (k:=q) (n:=n) (v:=t.enc x) (es:=d.map λp=>(p.1,t.enc p.2)) E (by rw[b,D];rfl) (by rw[b,C];rfl) (λy m l z=>?_) F g (by rw[FX,i];rfl) ⟨rfl,?_⟩,h,eZ,UK st ok.heap trivial,st,λj B hn=>(hn (I4.2 B)).elim⟩;rw[b]at l;exact t.plain e x y m (MC G y m l) z;rw[Ni,<-vq];rfl;cases h;cases h;cases h;cases h;cases h;cases h
theorem rR(ok:PJ env H)(y:o.op= .lookup a c L true)(h:uF P H a (I9 env c) (I9 env L) k=some r): ∀F,mM P N o env H F k r:=by
 intro F;have g:=Jj env;unfold uF at h;split at h;rename_i G D A;split at h;rename_i id E n w u;split at h;rename_i k1 ro C j b z e s B;split at h;rename_i d;obtain⟨l,q⟩:=d;subst l q;split at h;rename_i m;simp at m;have f:=cT _ _ m.2;refine⟨_,H,JT.lookup (id:=id) (k:=C) (n:=n) (z:=z) (es:=b.map λp=>(p.1,j.enc p.2)) y (by rw[g,w];rfl) (by rw[g,u];rfl) A e B (by rw[FX,s];rfl) ⟨?_,rfl⟩,h,Qo λv t=>?_,ok.heap,CC.refl H,Frame.refl F H⟩;rw[vo];show _=AY.tup [(j.tv _).enc,_];rw[Ty.tv_enc];cases Qf n b with
 |none=>rw[f];rw[<-Ty.agg_enc m.1];rfl
 |some x=>rfl
 rcases A3.1 t with rfl|t;exact Ty.tv_ok _ _;simp at t;subst t;exact Jz trivial;cases h;cases h;cases h;cases h;cases h
end
inductive Tgt where
 |fn (F:FuncId)
 |yd (id:Nat)
abbrev Qr:= ∀{R:Type},Tgt->List TV->Am->(TV->Am->Option R)->Option R
def eL(ops:Array Oper)(g:Option (Nat×Bool))(env:BV):Option Bool:=
 match g with
 |none=>some true
 |some (j,want)=>
  match (ops[j]?).bind (·.dst)with
  |some d=>match env.get d with| .c (.bl b)=>some (b==want)| .tup []=>some false|_=>none
  |none=>none
def K4:List Bk->List Nat
 |[]=>[]
 | .own id _ _ _::r=>id::K4 r
 |_::r=>K4 r
def behind(H:Am)(v:TV):List Nat:=
 match v with
 | .c (.raw (.ptr id 0 0))=>match H[id]? with|some (.live false cs)=>K4 cs|_=>[]
 |v=>K4 v.refs
def HS:List Nat->BV->Am->BV×Am
 |[],env,H=>(env,H)
 |id::r,env,H=>match frz id env H with|some (e,h)=>HS r e h|none=>HS r env H
def nv:List RV->FuncId->Option RV
 |[],_=>none
 |c::r,F=>match Nat.beq c.f F with|true=>some c|false=>nv r F
def ia(env:BV)(op:Op):Option (FuncId×List TV):=
 match op with
 | .call c=>
  match c.callee with
  | .value f=>match I9 env f with| .c (.raw (.fn (.func F) first caps))=>some (F,first.map tvA++c.args.toList.map (I9 env)++caps.map tvA)|_=>none
  |_=>none
 |_=>none
def qy(env:BV)(c:Call):Option (Nat×List TV):=
 match c.callee with
 | .value f=>match I9 env f with| .c (.raw (.yf id))=>some (id,c.args.toList.map (I9 env))|_=>none
 |_=>none
def jp(cs:List RV)(env:BV)(H:Am)(op:Op):List Nat:=
 match op with
 | .call c=>
  match ia env (.call c)with
  |some (F,vs)=>match nv cs F with|some ct=>(AGj ct vs).flatMap (behind H)|none=>[]
  |none=>[]
 | .buildSlice _ _ parts=>parts.toList.flatMap λp=>K4 (I9 env p.2).refs
 | .store _ a v=>match I9 env a with| .aptr .. =>K4 (I9 env v).refs| .bptr .. =>K4 (I9 env v).refs|_=>[]
 | .slice _ x _ _ _=>K4 (I9 env x).refs
 |_=>[]
def VS(H H':Am):Am:=H++H'.drop H.length
def isNil:List R->Bool
 |[]=>true
 |_=>false
section
variable {R:Type}
def tf(cs:List RV)(env:BV)(H:Am)(op:Op):List Nat:=
 match op with
 | .store _ a _=>idT (I9 env a)
 | .mapUpdate .. =>List.range H.length
 | .call c=>
  match ia env (.call c)with
  |some (F,vs)=>match nv cs F with|some ct=>ACk ct vs|none=>(match isNil vs with|true=>[]|false=>List.range H.length)
  |none=>
   match qy env c with
   |some _=>List.range H.length
   |none=>match c with|{callee:=.builtin .append,args:=⟨[s,_]⟩,.. }=>idT (I9 env s)|_=>[]
 |_=>[]
def vM(P:Program)(cs:List RV)(call:Qr)(env:BV)(H:Am)(op:Op)(k:TV->Am->Option R):Option R:=
 match op with
 | .alloc t=>wa P H t k
 | .box _ x=>ACY H (I9 env x) k
 | .store t a v=>storeT P H t (I9 env a) (I9 env v) k
 | .buildSlice t len parts=>YU P env H t len parts k
 | .makeSlice t x y=>eR P H t (I9 env x) (I9 env y) k
 | .makeMap t none=>qQ P H t k
 | .mapUpdate t m x y=>kR P H t (I9 env m) (I9 env x) (I9 env y) k
 | .lookup t m x true=>uF P H t (I9 env m) (I9 env x) k
 | .convert s d x=>
  match kd P d with
  | .bytes=>qw P H s d (I9 env x) k
  |_=>quT P env H (.convert s d x) λv=>k v H
 | .call c=>
  match ia env (.call c)with
  |some (F,vs)=>
   match Enters P F with
   |true=>
    match nv cs F with
    |some ct=>yC ct vs H k
    |none=>match isNil vs with|true=>call (.fn F) [] (H.map D5.lock) λv H'=>k v (VS H H')|false=>call (.fn F) vs H k
   |false=>none
  |none=>
   match qy env c with
   |some (id,vs)=>call (.yd id) vs H k
   |none=>
    match c with
    |{callee:=.builtin .append,args:=⟨[s,x]⟩,argTypes:=⟨[t,t']⟩}=>match Nat.beq t t' with|true=>od P H t (I9 env s) (I9 env x) k|false=>none
    |c=>quT P env H (.call c) λv=>k v H
 |op=>quT P env H op λv=>k v H
def force(f:Bool)(v:TV)(k:TV->Option R):Option R:=
 match f with
 |true=>match v with| .c (.bl b)=>cond b (k (.c (.bl true))) (k (.c (.bl false)))|v=>k v
 |false=>k v
def guards(ops:Array Oper):List Nat:=ops.toList.filterMap λo=>o.guard.map (·.1)
def OE(j:Nat):List Nat->Bool
 |[]=>false
 |i::r=>match Nat.beq i j with|true=>true|false=>OE j r
def AEw{α:Type}(l:List α)(i:Int)(z:α):Option (List α):=if 0<=i/\i<=(l.length:Int)then some (l.take i.toNat++List.replicate (l.length-i.toNat) z)else none
def yF(o1 o2:Oper):Option (Nat×TypeId×Operand×Operand):=
 match o1.dst,o1.op,o1.guard,o2.dst,o2.op,o2.guard with
 |some d,.slice t x (some lo) none none,none,none,.call {callee:=.builtin .clear,args:=⟨[.tmp d']⟩,argTypes:=⟨[t']⟩},none=>match Nat.beq d d'&&Nat.beq t t' with|true=>some (d,t,x,lo)|false=>none
 |_,_,_,_,_,_=>none
def AEm(P:Program)(H:Am)(t:TypeId)(x lo:TV)(k:Am->Option R):Option R:=
 match x,lo with
 | .c (.own id ver _ _),.c (.it _ i)=>
  match H[id]? with
  |some (.buf false t2 l n2 ver2)=>
   match Nat.beq ver ver2,elT P t,eI P t with
   |true,some te,some (none,e,_)=>
    if h:(Ty.list t2).beq (Ty.list te)=true then
     match qz P e with
     |some z=>match te.all z with|some zd=>(AEw (α:=te.D) (Ty.cast h l) i zd).bind λl'=>k (H.set id (.buf false te l' n2 ver2))|none=>none
     |none=>none
    else none
   |_,_,_=>none
  |_=>none
 |_,_=>none
def ACg(o:Oper):List Oper->Option (Nat×TypeId×Operand×Operand)
 |o2::_=>yF o o2
 |[]=>none
def ql(P:Program)(cs:List RV)(call:Qr)(ops:Array Oper)(gs:List Nat)(sk:Bool):List Oper->Nat->BV->Am->(BV->Am->Option R)->Option R
 |[],_,env,H,k=>k env H
 |o::r,j,env,H,k=>
  match sk with
  |true=>ql P cs call ops gs false r (j+1) env H k
  |false=>
   match ACg o r with
   |some (d,t,x,lo)=>AEm P H t (I9 env x) (I9 env lo) λH'=>ql P cs call ops gs true r (j+1) (env.put d R8) H' k
   |none=>
    match eL ops o.guard env with
    |some true=>
     match HS (jp cs env H o.op) env H with
     |(env1,H1)=>vM P cs call env1 H1 o.op λv H'=>force (OE j gs) v λv'=>ql P cs call ops gs false r (j+1) (env1.putO o.dst v') H' k
    |some false=>ql P cs call ops gs false r (j+1) (env.putO o.dst (.tup [])) H k
    |none=>none
end
def lq(H:Am)(v:TV):Prop:= ∀id ver t n,Bk.own id ver t n∈v.refs-> ∀t' l n' ver',H[id]? ≠some (.buf false t' l n' ver')
structure FT(A:List Nat)(env:BV)(H:Am)(env':BV)(H':Am):Prop where
 step:CC H H'
 same: ∀t,t∉A->lq H (env.get t)->env'.get t=env.get t
def lq.step(h:CC G b)(d:e.ok G)(k:lq G e):lq b e:=by intro id a t n c;have hr:=d (.own id a t n) c;exact h.nb id hr.1 (k id a t n c)
theorem FT.refl(A:List Nat)(env:BV)(H:Am):FT A env H env H:=⟨CC.refl H,λ_ _ _=>rfl⟩
def FT.trans{A B:List Nat}{d g i:BV}{c e f:Am}(ok: ∀p∈d,p.2.ok c)(a:FT A d c g e)(b:FT B g e i f):FT (A++B) d c i f:=by refine⟨a.step.trans b.step,λt l k=>?_⟩;have j:=a.same t (λh=>l (HQ _ h)) k;rw[b.same t (λh=>l (OS _ h)) (by rw[j];exact k.step a.step (nF ok t)),j]
def FT.mono{B:List Nat}(a:FT O g b Y G)(h: ∀t,t∈O->t∈B):FT B g b Y G:=⟨a.step,λt A f=>a.same t (λq=>A (h t q)) f⟩
def tn{t u:Nat}(h:u≠t): ∀env:BV,(BV.del t env).get u=env.get u
 |[]=>rfl
 |(k,v)::r=>by simp only[BV.del];by_cases a:k=t;subst a;rw[Jy];simp only[BV.get,beq_false (Ne.symm h)];exact tn h r;rw[beq_false a];simp only[BV.get];rw[tn h r]
def mI(h:n≠N):(g.put N e).get n=g.get n:=by simp_all[BV.put,BV.get,beq_false,Ne.symm,tn]
theorem uG{p:Nat×TV}{t:Nat}: ∀{env:BV},p∈BV.del t env->p∈env
 |(k,v)::r,h=>by simp only[BV.del]at h;split at h;exact CV _ (uG h);rcases A3.1 h with rfl|h;simp;exact CV _ (uG h)
theorem Z1{d:Option Nat}(h: ∀p∈g,p.2.ok b)(H:e.ok b): ∀p∈g.putO d e,p.2.ok b:=by
 cases d with
 |none=>exact h
 |some t=>intro p a;rcases A3.1 a with rfl|a;exact H;grind[uG]
def lZ{l:List t.D}(g:b[N]? =some (.buf false t l n U))(j: ∀a f e d,u= .own a f e d-> ∀i l2 h c,b[a]? ≠some (.buf false i l2 h c)):NN N U t l u=u:=by
 cases u with
 |own a f e d=>simp only[NN];split<;>simp_all
 |_=>rfl
mutual
theorem pq{H:Am}{id n k:Nat}{t:Ty}{l:List t.D}(d:H[id]? =some (.buf false t l n k)): ∀{v:TV},lq H v->ld id k t l v=v
 | .c z,h=>by simp only[ld];rw[lZ d λa j i f e=>h a j i f (by simp[TV.refs,e])]
 | .g b,h=>by
  simp only[ld,TV.g.injEq];have: ∀b:List Bk,(∀a j i f,Bk.own a j i f∈b-> ∀s l2 q m,H[a]? ≠some (.buf false s l2 q m))->b.map (NN id k t l)=b:=by
   intro b;induction b with
   |nil=>intro _;rfl
   |cons z r p=>intro h;rw[Bo,p λa j i f o=>h a j i f (by simp[o]),lZ d λa j i f e=>h a j i f (by simp[e])]
  exact this b h
 | .tup vs,h=>by simp only[ld];rw[ny d (vs:=vs) h]
 | .aptr ..,_=>rfl
 | .bptr ..,_=>rfl
 | .vptr ..,_=>rfl
theorem ny{H:Am}{id n c:Nat}{t:Ty}{l:List t.D}(b:H[id]? =some (.buf false t l n c)): ∀{vs:List TV},lq H (.tup vs)->dg id c t l vs=vs
 |[],_=>rfl
 |v::r,h=>by simp only[dg];rw[pq b (v:=v) λa g f e d=>h a g f e (by simp only[TV.refs,TV.refsL,An];exact .inl d),ny b (vs:=r) λa g f e d=>h a g f e (by simp only[TV.refs,TV.refsL,An]at d⊢;exact .inr d)]
end
def yS{f:TV->TV}(a:f R8=R8)(t:Nat): ∀env:BV,BV.get (env.map λp=>(p.1,f p.2)) t=f (env.get t)
 |[]=>a.symm
 |(k,v)::r=>by simp only[Bo,BV.get];split;rfl;exact yS a t r
def AA7(h:frz N g b=some (Y,G))(t:Nat)(d:lq b (g.get t)):Y.get t=g.get t:=by unfold frz at h;split at h;rename_i e l n H a;obtain⟨rfl,rfl⟩:=h;rw[yS (f:=ld N H e l) rfl];exact pq a d;cases h
def PO: ∀(a:List Nat) {env:BV} {H:Am},PJ env H→PJ (HS a env H).1 (HS a env H).2∧FT [] env H (HS a env H).1 (HS a env H).2∧
  ∀N,GC N (BC H).length (B6 env) (BC H) (B6 (HS a env H).1) (BC (HS a env H).2)
 |[],env,H,ok=>⟨ok,FT.refl _ _ _,λN=>GC.refl N _ _⟩
 |id::r,env,H,ok=>by simp only[HS];split;rename_i e h b;obtain⟨f,c,j⟩:=AEs ok b;obtain⟨g,i,k⟩:=PO r f;refine⟨g,(FT.trans (A:=[]) (B:=[]) ok.env ⟨c,λt _ d=>AA7 b t d⟩ i),λN=>(j N).trans ((k N).of_le (by rw[CW,CW];exact c.len))⟩;exact PO r ok
section
variable {P:Program} {N:Nat} {R:Type}
def xv(P:Program)(args:List AY)(H:Ar)(v:AY)(H':Ar):Tgt->Prop
 | .fn F=>Ee P F args H (C4 v H')
 | .yd id=> ∀(N:Nat) (o:Oper) (c:Call) (f:Operand) (env:Env),o.op= .call c->c.callee= .value f->BH env f= .yf id->c.args.toList.map (BH env)=args->JT P N o env H (C4 v H')
def VJ(P:Program)(call:Qr):Prop:= ∀{R:Type} tg vs H (k:TV->Am->Option R) r,(∀v∈vs,v.ok H)->(∀e∈H,e.ok H)->call tg vs H k=some r->
 ∃v H',xv P (vs.map TV.enc) (BC H) v.enc (BC H') tg/\k v H'=some r/\v.ok H'/\(∀e∈H',e.ok H')/\CC H H'
theorem gr(h:eL j q g=some true){B:Prop}(a:V):Wq j q (B6 g) V B:=by unfold eL at h;grind[Wq,Vg,Tn,TV.enc,Bk.one]
theorem ln(h:eL j q g=some false){B:Prop}(b:B):Wq j q (B6 g) V B:=by unfold eL at h;unfold Wq;split at h;cases h;rename_i a c;unfold Vg;split at h;rename_i d f;simp only[f,Tn];split at h;grind[TV.enc,Bk.one];rename_i e;simp[e];exact b;cases h;cases h
theorem tz(e: ∀d b,g.get d= .c (.bl b)->Y.get d= .c (.bl b))(h:eL j q g=some true):eL j q Y=some true:=by cases q<;>grind[eL]
theorem kK: ∀{a:List RV} {F:FuncId} {c:RV},nv a F=some c->c∈a/\c.f=F
 |d::r,F,c,h=>by simp only[nv]at h;split at h;simp_all;obtain⟨b,e⟩:=kK h;grind
theorem tO{e:Op}(h:ia g e=some (S,m)):Go.Ab.callT (BH (B6 g)) e=some (.inl (S,m.map TV.enc))/\ ∀H,(∀p∈g,p.2.ok H)-> ∀v∈m,v.ok H:=by
 unfold ia at h;split at h;rename_i c;split at h;rename_i f d;split at h;rename_i G first a b
 simp at h;obtain⟨rfl,rfl⟩:=h;have j:BH (B6 g) f= .fn (.func G) first a:=by rw[Jj,b];rfl
 have k: ∀l:List AY,(l.map tvA).map TV.enc=l:=by
  intro l;conv=>rhs;rw[<-cI l]
  grind[List.map_congr_left,er]
 refine⟨?_,λH F v i=>?_⟩;simp_all[Go.Ab.callT,Jj];simp at i;grind[iH,ZU];cases h;cases h;cases h
theorem wQ{c:Call}(h:qy g c=some (N,m)):(∃f,c.callee= .value f/\BH (B6 g) f= .yf N/\c.args.toList.map (BH (B6 g))=m.map TV.enc)/\ ∀H,(∀p∈g,p.2.ok H)-> ∀v∈m,v.ok H:=by unfold qy at h;split at h;rename_i f a;split at h;rename_i i b;injection h with h;injection h with d e;subst d e;refine⟨⟨f,a,by rw[Jj,b];rfl,?_⟩,λH j v k=>?_⟩;grind[List.map_congr_left,Jj];grind[ZU];cases h;cases h
def AFK{k:TV->Am->Option R}{r:R}(ok:PJ g b)(h:quT P g b o.op (λv=>k v b)=some r): ∀F,mM P N o g b F k r:=by intro F;obtain⟨v,a,H,c⟩:=so ok h;exact⟨v,b,Du a ⟨rfl,rfl⟩,H,c,ok.heap,CC.refl b,Frame.refl F b⟩
theorem rI(H:Am):BC (H.map D5.lock)=BC H:=by grind[BC,List.map_congr_left,qN]
theorem vn(h: ∀e∈b,e.ok b): ∀e∈b.map D5.lock,e.ok (b.map D5.lock):=by
 have f: ∀id a t n,Uu b id a t n->Uu (b.map D5.lock) id a t n:=λid a t n q=>by
  refine⟨by simpa using q.1,λro y l w k c=>?_⟩;rw[CO]at c;cases j:b[id]? with
  |none=>grind
  |some e=>
   rw[j]at c;simp at c;cases e<;>simp only[D5.lock]at c<;>first|(cases c;done)|skip
   injection c with _ m v o p;subst m o p;exact q.2 _ _ _ _ _ j
 have d: ∀x:Bk,x.ok b->x.ok (b.map D5.lock):=λx i=>by
  cases x with
  |own id a t n=>exact f _ _ _ _ i
  |_=>trivial
 intro e c;obtain⟨u,r,rfl⟩:=B0.1 c;have g:=h u r;cases u with
 |dead=>trivial
 |live H s=>exact λx i=>d x (g x i)
 |buf=>exact g
 |lp=>exact g
 |mp=>exact g
theorem AAf(L: ∀e∈b,e.ok b)(st:CC (b.map D5.lock) G)(F: ∀e∈G,e.ok G):
  (∀v:TV,v.ok G->v.ok (VS b G))/\(∀e∈VS b G,e.ok (VS b G))/\CC b (VS b G)/\ ∀x:Cx,Ta x x (BC G) (BC (VS b G)):=by
 have K:b.length<=G.length:=by simpa using st.len
 have c:(VS b G).length=G.length:=by grind[VS,List.length_append,List.length_drop]
 have o: ∀j,j<b.length->(VS b G)[j]? =b[j]? :=λj p=>CK p;have I: ∀j,b.length<=j->(VS b G)[j]? =G[j]? :=λj p=>by grind[VS]
 have keep: ∀(j:Nat) (e:D5),b[j]? =some e->e≠ .dead->G[j]? =some e.lock:=λj e p a=>by apply st.ro j e.lock (by rw[CO,p];rfl);cases e<;>first|rfl|exact(a rfl).elim
 have A: ∀id f t n,Uu G id f t n->Uu (VS b G) id f t n:=λid f t n q=>by refine⟨by rw[c];exact q.1,λro P l O D d=>?_⟩;rcases Aq id b.length with h|h;rw[o id h]at d;exact q.2 _ _ _ _ _ (keep id _ d k!);rw[I id h]at d;exact q.2 _ _ _ _ _ d
 have k: ∀x:Bk,x.ok G->x.ok (VS b G):=λx C=>by
  cases x with
  |own id f t n=>exact A _ _ _ _ C
  |_=>trivial
 have B:CC b (VS b G):=by refine⟨by rw[c];exact K,λid f t n q=>⟨by rw[c];exact DO q.1 K,λro P l O D d=>?_⟩,λid e d _=>?_,λid w h=>by rw[o id w];exact h,λid w _ _ _ _ _ _ _ _ h=>by rw[o id w]at h;exact⟨_,_,h⟩⟩;rw[o id q.1]at d;exact q.2 _ _ _ _ _ d;grind
 refine⟨λv N x C=>k x (N x C),λe d=>?_,B,λx=>⟨by rw[CW,CW,c],λj Q p=>?_⟩⟩;rcases An.1 d with d|d;exact B.ent (L e d);have E:=F e (OT d);cases e with
 |dead=>trivial
 |live H s=>exact λx C=>k x (E x C)
 |buf=>exact E
 |lp=>exact E
 |mp=>exact E
 rw[FX]at p;cases J:(VS b G)[j]? with
 |none=>grind
 |some y=>
  rw[J]at p;simp at p;subst p;have same:(BC G)[j]? =some y.enc->y.enc= .dead\/(∃g s u,(BC G)[j]? =some (.live g s)/\y.enc= .live g u/\u.length=s.length/\ ∀(i:Nat) (z:AY),u[i]? =some z-> ∃v,s[i]? =some v/\Conv x x v z)\/((BC G)[j]? =some y.enc/\ ∀g s,y.enc≠ .live g s):=λh=>by
   cases y with
   |dead=>exact .inl rfl
   |live H s=>exact .inr (.inl ⟨_,_,_,h,rfl,rfl,λi z h=>⟨z,h,λ_ r=>r⟩⟩)
   |buf H t l m f=>exact .inr (.inl ⟨_,_,_,h,rfl,rfl,λi z h=>⟨z,h,λ_ r=>r⟩⟩)
   |lp=>exact .inr (.inr ⟨h,λ_ _ h=>by cases h⟩)
   |mp=>exact .inr (.inr ⟨h,λ_ _ h=>by cases h⟩)
  rcases Aq j b.length with h|h;rw[o j h]at J;by_cases M:y= .dead;subst M;exact .inl rfl;grind[FX,qN];grind[FX]
theorem nt{u:List RV}(y: ∀c∈u,c.Ok P){i:Qr}(l:VJ P i){k:TV->Am->Option R}{r:R}(ok:PJ g b)(h:vM P u i g b o.op k=some r):mM P N o g b (tf u g b o.op) k r:=by
 have s: ∀t,o.op=t->quT P g b t (λv=>k v b)=some r-> ∀F,mM P N o g b F k r:=λt e h=>AFK ok q!;generalize a:o.op=t at h;unfold vM at h;split at h;exact tK ok a h;exact wk ok a h;exact uc ok a h;exact k9 ok a h;exact nK ok a h;grind[qR];exact nL ok a h;grind[rR];split at h;exact qx ok a h;grind;rename_i c;split at h;rename_i F q m;obtain⟨K,C⟩:=tO m;split at h;rename_i x;split at h;rename_i L n;obtain⟨M,O⟩:=kK n;obtain⟨v,d,q1,q2,q3,q4,q5,q6⟩:=u6 (y L M) (C b ok.env) ok.heap h;rw[O]at q1;exact⟨v,d,mA q! x q1,q2,q3,q4,q5,by simp only[tf,m,n];exact q6⟩;rename_i n;split at h;rename_i H;have A:q=[]:=by cases q<;>first|rfl|cases H
 subst A;obtain⟨v,d,q1,q2,q3,q4,q5⟩:=l (.fn F) [] (b.map D5.lock) _ r (λv Q=>by cases Q) (vn ok.heap) h;obtain⟨E,G,I,J⟩:=AAf ok.heap q5 q4;have B:Ee P F [] (BC b) (C4 v.enc (BC d)):=by grind[xv,rI]
 refine⟨v,VS b d,JT.after (mA q! x B) λX W w _=>?_,q2,E v q3,G,I,?_⟩;have hr:=(J (cx X W (BC d) w)).onto;exact⟨hr,λc r=>r.later hr.later⟩;simp only[tf,m,n];exact λj p _=>CK p;rename_i H;obtain⟨v,d,q1,q2,q3,q4,q5⟩:=l (.fn F) q b k r (C b ok.env) ok.heap h;have z:=H;exact⟨v,d,mA (by rw[a];exact K) x q1,q2,q3,q4,q5,by simp only[tf,m,n,z];exact λj p hn=>(hn (I4.2 p)).elim⟩;cases h;rename_i m;split at h;rename_i id q D;obtain⟨⟨f,S,T,U⟩,V⟩:=wQ D;obtain⟨v,d,q1,q2,q3,q4,q5⟩:=l (.yd id) q b k r (V b ok.env) ok.heap h;exact⟨v,d,q1 N o c f (B6 g) a S T U,q2,q3,q4,q5,by simp only[tf,m,D];exact λj p hn=>(hn (I4.2 p)).elim⟩;grind[rD,Nat.eq_of_beq_eq_true,tf];grind
theorem kN{k:TV->Option R}{r:R}(h:force D e k=some r):k e=some r:=by unfold force at h;grind
def lR(ops:List Oper):List Nat:=ops.filterMap (·.dst)
def pX{b:Oper}{d:Nat}(h:yF o b=some (d,a,L,c)):o.dst=some d/\o.op= .slice a L (some c) none none/\o.guard=none/\b.dst=none/\b.op= .call {callee:=.builtin .clear,args:= #[.tmp d],argTypes:= #[a]}/\b.guard=none:=by unfold yF at h;split at h;rename_i e f g i j k;split at h<;>simp_all;cases h
def sK{a:Ty}{z:List AY}{b:a.D}(h:Dm z (a.enc b).cells): ∀n:Nat,Dm (List.replicate n z).flatten (a.E.cl (List.replicate n b))
 |0=>Dm.refl _
 |n+1=>by exact Dm.append h (sK h n)
theorem wo{o1 o2:Oper}{d:Nat}{t:TypeId}{x lo:Operand}{env:BV}{H:Am}{k:Am→Option R}{r:R}(ok:PJ env H)(hc:yF o1 o2=some (d,t,x,lo))(h:AEm P H t (I9 env x) (I9 env lo) k=some r):
  ∃v G,JT P N o1 (B6 env) (BC H) (C4 v (BC H))/\JT P N o2 ((B6 env).put d v) (BC H) (C4 (.tup []) (BC G))/\k G=some r/\(∀e∈G,e.ok G)/\CC H G:=by
 obtain⟨_,c2,_,c4,U,_⟩:=pX hc;unfold AEm at h;split at h;rename_i id c t0 n0 kk i hx Z;split at h;rename_i a l b ap y;split at h;rename_i te e ax hb al F;split at h;rename_i S;split at h;rename_i z hz;split at h;rename_i zd ao;obtain⟨w,o,h⟩:=EC.1 h;have T:=DN hb;subst T;have u:=Ty.beq_eq _ _ S;injection u with u;subst u;have B:(Ty.cast S l:List a.D)=l:=rfl;rw[B]at o;have hr:Uu H id c t0 n0:=by have:=ZU ok.env x;rw[hx]at this;exact this (.own id c t0 n0) (by simp[TV.refs])
 obtain⟨_,q⟩:=hr.2 _ _ _ _ _ y;obtain⟨rfl,rfl⟩:=q rfl;have hn:b=l.length:=ok.heap _ (BM y);obtain⟨e',I,M⟩:=gS al;rw[I]at F;injection F with F;injection F with _ F;injection F with X Y;subst X Y;obtain⟨z1,z2⟩:=Xt hz;have p:=Fy ao;have C:(lvs z).length=a.sz:=by rw[<-p.1,a.enc_len]
 unfold AEw at o;split at o;rename_i hi;injection o with o;have O:CC H (H.set id (.buf false a w b c)):=CC.set y rfl λ_ _ _ _ _ e=>q!
 have J:D5.ok (H.set id (.buf false a w b c)) (.buf false a w b c):=by show b=w.length;grind
 have m:(BC H)[id]? =some (.live b (a.E.cl l)):=by rw[FX,y];rfl
 have A:id<(BC H).length:=q!
 have ex:BH (B6 env) x= .sl id b a.sz 0 b:=by rw[Jj,hx];rfl
 have el:BH (B6 env) lo= .int kk i:=by rw[Jj,Z];rfl
 have W:Sg (BC H) id b=true:=by simp[Sg,m]
 have s: ∀v,BH ((B6 env).put d v) (.tmp d)=v:=λv=>by simp[BH,Env.put,Env.get]
 have j:=a.E.clen l;have Q:a.E.sz=a.sz:=rfl;rw[Q]at j;have ad:CU P (B6 env) (BC H) o1.op=some (if i.toNat=0 then .sl id b a.sz 0 b else if i.toNat=b then .vs a.sz []else .sl id b a.sz (0+i.toNat*a.sz) (b-i.toNat)):=by
  rw[c2];have b1:WH 0 (some (AY.int kk i))=some i.toNat:=by grind[WH,qT]
  have b2: ∀n,WH n none=some n:=λ_=>rfl;simp only[CU,ex,el,Bp,Option.map_none,iF,b1,b2,I];rw[if_pos ⟨trivial,a.sz_pos,o!,Ai _,Ai _,W,k!⟩];grind
 have g: ∀V,a.E.cl l=V->(BC H).set id (.live b V)=BC H:=λV ar=>by apply I5;grind
 have f:Dm (Vm (a.E.cl l) (i.toNat*a.sz) (List.replicate (b-i.toNat) (lvs z)).flatten) (a.E.cl w):=by
  have e1:a.E.cl w=a.E.cl (l.take i.toNat)++a.E.cl (List.replicate (b-i.toNat) zd):=by grind[UQ.cl]
  have e2:(a.E.cl l).take (i.toNat*a.sz)=a.E.cl (l.take i.toNat):=by
   have e3:a.E.cl l=a.E.cl (l.take i.toNat)++a.E.cl (l.drop i.toNat):=by grind[List.take_append_drop,UQ.cl]
   have e4:(a.E.cl (l.take i.toNat)).length=i.toNat*a.sz:=by rw[a.E.clen,Ba,Q];grind
   grind
  have e5:(a.E.cl l).drop (i.toNat*a.sz+(List.replicate (b-i.toNat) (lvs z)).flatten.length)=[]:=by apply iQ;simp[C];rw[<-Gt];grind
  unfold Vm;rw[e1,e2,e5,Dr];exact(Dm.refl _).append (sK p _)
 have L:JT P N o2 ((B6 env).put d (if i.toNat=0 then .sl id b a.sz 0 b else if i.toNat=b then .vs a.sz []else .sl id b a.sz (0+i.toNat*a.sz) (b-i.toNat))) (BC H) (C4 (.tup []) (BC (H.set id (.buf false a w b c)))):=by
  have e6:BC (H.set id (.buf false a w b c))=(BC H).set id (.live b (a.E.cl w)):=by rw[Ni];rfl
  rw[e6];by_cases h0:i.toNat=0;rw[if_pos h0];refine JT.set_less A ?_ f;have:=JT.clear (N:=N) (K:=C4 (.tup []) _) U c4 I M z1 C (s (.sl id b a.sz 0 b)) m (by rw[j,hn];omega) ⟨rfl,rfl⟩;grind;rw[if_neg h0];by_cases h1:i.toNat=b;rw[if_pos h1];have e7:w=l:=t!
  rw[e7,g _ rfl];exact oW U (QC I).1 (s _) ⟨rfl,rfl⟩;rw[if_neg h1];refine JT.set_less A ?_ f;have:=JT.clear (N:=N) (K:=C4 (.tup []) _) U c4 I M z1 C (s (.sl id b a.sz (0+i.toNat*a.sz) (b-i.toNat))) m (by rw[j,<-hn,EQ,<-Gt];apply P9;omega) ⟨rfl,rfl⟩;grind
 exact⟨_,_,Du ad ⟨rfl,rfl⟩,L,h,UK O ok.heap J,O⟩;grind;cases h;cases h;cases h;cases h;cases h;cases h
def ACB:GC N (BC b).length ((B6 g).put n v) (BC b) (B6 (g.put n R8)) (BC b):=by
 refine VN rfl λX d w s=>⟨Ta.refl _ _,λt f m=>?_⟩
 rw[gT]at m;rcases A3.1 m with e|m;injection e with a H;subst a H;exact⟨v,Jx,λc _=>.any c⟩;exact⟨f,CV _ m,λ_ r=>r⟩
theorem Sh{J:List RV}(m: ∀c∈J,c.Ok P){p:Qr}(l:VJ P p){D:Array Oper}{gs:List Nat}: ∀(os:List Oper) (j:Nat) (env:BV) (H:Am) (k:BV→Am→Option R) (r:R),PJ env H→ql P J p D gs false os j env H k=some r→
  ∃f i,Vp P N D os (B6 env) (BC H) (λe h=>e=B6 f/\h=BC i)/\k f i=some r/\PJ f i/\FT (lR os) env H f i
 |[],j,env,H,k,r,ok,h=>⟨env,H,⟨_,_,GC.refl _ _ _,rfl,rfl⟩,h,ok,FT.refl _ _ _⟩
 |o::os,j,env,H,k,r,ok,h=>by
  simp only[ql]at h;have B: ∀{e:BV} {h:Am} {v:TV},FT (lR [o]) e h (e.putO o.dst v) h:=by
   intro e h v;refine⟨CC.refl h,λt U _=>?_⟩;cases hd:o.dst with
   |none=>rfl
   |some d=>refine mI λe=>U ?_;simp[lR,hd,e]
  have z: ∀t,t∈lR [o]++lR os->t∈lR (o::os):=by grind[lR]
  split at h;rename_i d t x lo y;cases os with
  |nil=>cases y
  |cons o2 E=>
   have hc:=y;obtain⟨c1,c2,c3,c4,c5,c6⟩:=pX hc;obtain⟨v,C,M,w2,T,W,st⟩:=wo (N:=N) ok hc h;have g:PJ (env.put d R8) C:=⟨Z1 (d:=some d) (st.env ok.env) eZ,W⟩
   obtain⟨f,i,L,Y,F,G⟩:=Sh m l E (j+1+1) _ C k r g T;refine⟨f,i,⟨B6 env,BC H,GC.refl N _ _,?_⟩,Y,F,?_⟩;rw[c3];apply JT.mono M;rintro u _ ⟨rfl,rfl⟩;rw[c1];refine⟨(B6 env).put d u,BC H,GC.refl N _ _,?_⟩;rw[c6];apply JT.mono w2;rintro _ _ ⟨rfl,rfl⟩;rw[c4];exact Vp.weak ACB L;have Z:FT (lR [o]) env H (env.put d R8) C:=by exact⟨st,λu hu _=>mI λe=>hu (by simp[lR,c1,e])⟩
   refine(FT.trans ok.env Z G).mono λu hu=>?_;grind[lR,List.mem_cons_of_mem]
  split at h;rename_i S;obtain⟨K,t1,M⟩:=PO (jp J env H o.op) ok;generalize HS (jp J env H o.op) env H=q at h K t1 M;obtain⟨env1,C⟩:=q;obtain⟨v,I,e1,e2,e3,e4,e5,_⟩:=nt (N:=N) m l K h;have O:=kN e2;have g:PJ (env1.putO o.dst v) I:=⟨Z1 (e5.env K.env) e3,e4⟩
  obtain⟨f,i,L,E,F,G⟩:=Sh m l os (j+1) _ I k r g O;refine⟨f,i,?_,E,F,?_⟩;refine⟨B6 env1,BC C,M N,gr ?_ ?_⟩;exact tz (λd b hb=>by rw[t1.same d (λh=>by cases h) (by rw[hb];intro id al t n hm;simp[TV.refs]at hm),hb]) S;exact λrr X h0 a w s Q=>VH (e1 rr X h0 a w s Q) (by rintro a' w' ⟨c,u,h',ad,ha,⟨rfl,rfl⟩,V,hs,hx⟩;exact⟨c,_,h',_,ha,by show Vp P N D os ((B6 env1).putO o.dst v.enc) (BC I) _;rw[<-Wj];exact L,V,hs,hx⟩);have Z:FT (lR [o]) env1 C (env1.putO o.dst v) I:=by exact⟨e5,λt U T=>(B (h:=C)).same t U T⟩
  have:=(FT.trans (A:=[]) ok.env t1 (FT.trans K.env Z G))
  exact this.mono z;rename_i S;have g:PJ (env.putO o.dst (.tup [])) H:=⟨Z1 ok.env (Qo λv V=>by cases V),ok.heap⟩
  obtain⟨f,i,L,E,F,G⟩:=Sh m l os (j+1) _ H k r g h;refine⟨f,i,⟨B6 env,BC H,GC.refl N _ _,ln S ?_⟩,E,F,(FT.trans ok.env B G).mono z⟩;have:(B6 env).putO o.dst (.tup [])=B6 (env.putO o.dst (.tup [])):=by rw[Wj];rfl
  grind;cases h
end
end Go.Ab
