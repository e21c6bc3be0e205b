/- Texts of wip, joined and shortened by wip/tools/pack.py; nothing is assumed. -/
import Derived.Test.YtghpjojfhamomaaGreatK2
import Derived.Laws.IdiomRangeMap
noncomputable section
set_option linter.all false
namespace Go.Ab
def VM(H:Aq)(id ver:Nat)(t:Ty)(n:Nat):Prop:=
 id<H.length/\ ∀ro t' l n' ver',H[id]? =some (.buf ro t' l n' ver')->ver<=ver'/\(ver=ver'->t'=t/\n'=n)
def Bu.ok(H:Aq):Bu->Prop
 | .own id ver t n=>VM H id ver t n
 |_=>True
def lok(H:Aq)(cs:List Bu):Prop:= ∀x∈cs,x.ok H
mutual
def TV.refs:TV->List Bu
 | .c x=>[x]
 | .g cs=>cs
 | .aptr .. =>[]
 | .bptr id ver t n _ _=>[.own id ver t n]
 | .vptr cs _=>cs
 | .tup vs=>TV.refsL vs
def TV.refsL:List TV->List Bu
 |[]=>[]
 |v::r=>v.refs++TV.refsL r
end
def TV.ok(H:Aq)(v:TV):Prop:=lok H v.refs
def D0.ok(H:Aq):D0->Prop
 | .live _ cs=>lok H cs
 | .buf _ _ l n _=>n=l.length
 | .dead=>True
 | .lp _ _ _ env _ _ _ _=> ∀p∈env,∀id ver t n,Bu.own id ver t n∉p.2.refs
 | .mp .. =>True
structure QH(env:Bf)(H:Aq):Prop where
 env: ∀p∈env,p.2.ok H
 heap: ∀e∈H,e.ok H
variable {a I W:TypeId}{N n U:Nat}{b G:Aq}{c L:Operand}{d:List Bu}{e T:TV}{P:Program}{t:Ty}{g Y:Bf}{i Q:List AZ}{w:World}{j:Array Oper}{m:List TV}{p Z:A0}{o:Oper}{q:Option (Nat×Bool)}{h:Gh}{s:Env}{u:AZ}{X:Nat->Prop}{v:Bu}{z:IntKind}{A:Bool}{x y:Cx}{B:Nat→Prop}{C:Option TV}{D:D0}{E:Array (Nat×Operand)}{F:Int}{J:List (Int×AZ)}{R:Type}{M:Act}{O:List Nat}{S:FuncId}{V:Prop}
theorem Iz{H:List Bu}:lok b (d++H)↔lok b d/\lok b H:=by grind[lok]
theorem AEZ:lok b []:=λ_ h=>by cases h
def ud{v:TV}: ∀{l:List TV},v∈l-> ∀x∈v.refs,x∈TV.refsL l
 |w::r,a,x,hx=>by simp only[TV.refsL,An];rcases Au.1 a with rfl|a;exact .inl hx;exact .inr (ud a x hx)
def oX(h:(TV.tup m).ok b)(H:e∈m):e.ok b:=λx c=>h x (by simp only[TV.refs];exact ud H x c)
def Q7{H:Aq}: ∀{vs:List TV},(∀v∈vs,v.ok H)->(TV.tup vs).ok H
 |[],_=>λx a=>by simp[TV.refs,TV.refsL]at a
 |v::r,h=>by have:=Q7 (vs:=r) λw b=>h w (by simp[b]);intro x a;simp only[TV.refs,TV.refsL,An]at a;rcases a with a|a;exact h v q! x a;exact this x a
theorem oL(h: ∀p∈g,p.2.ok b)(t:Nat):(g.get t).ok b:=by
 induction g with
 |nil=>intro x a;simp only[Bf.get,Us,TV.refs,BC]at a;subst a;trivial
 |cons p r H=>grind[Bf.get]
theorem zn(v:Value):(ACH v).ok b:=by
 cases v with
 |pointer p=>cases p<;>trivial
 |slice a l c=>
  cases a with
  |some _=>trivial
  |none=>
   match l,c with
   |0,0=>trivial
   |0,_+1=>trivial
   |_+1,_=>trivial
 |_=>trivial
def fm:Us.ok b:=λx a=>by simp only[Us,TV.refs,BC]at a;subst a;trivial
theorem Js{H:Aq}(h:v.ok H):(TV.c v).ok H:=λy a=>by grind[TV.refs]
theorem AF5(v:Value):(cvT v).ok b:=by
 cases v with
 |agg a=>
  simp only[cvT];cases h:a.toList.all (·.oneCell')with
  |false=>exact fm
  |true=>intro x H;grind[TV.refs,zn]
 |_=>exact Js (zn _)
theorem eT{H:Aq}(h: ∀p∈g,p.2.ok H)(x:Operand):(JG g x).ok H:=by
 cases x with
 |tmp t=>exact oL h t
 |const v=>exact AF5 v
 |global _=>exact fm
 |func f=>exact Js trivial
theorem Gq(a b:List Bu):lvs (a++b)=lvs a++lvs b:=XO
theorem HY(x:Bu)(b:List Bu):lvs (x::b)=x.enc++lvs b:=H6
theorem dC: ∀a:List Bu,(lvs a).length=ADZ a
 |[]=>rfl
 |x::r=>by rw[HY,Aa,x.enc_len,dC r];rfl
def OM: ∀{c:List Bu} {n:Nat} {a b:List Bu},Wb c n=some (a,b)->c=a++b/\(lvs a).length=n
 |c,0,a,b,h=>by cases c<;>simp only[Wb]at h<;>obtain⟨rfl,rfl⟩:=h<;>exact⟨rfl,rfl⟩
 |x::r,n+1,a,b,h=>by simp only[Wb]at h;split at h;rename_i e;split at h;rename_i g i f;obtain⟨rfl,rfl⟩:=h;obtain⟨j,d⟩:=OM f;rw[HY,Aa,d,x.enc_len];simp_all;cases h;cases h
mutual
theorem Ty.lvs_enc: ∀(t:Ty) (x:t.D),lvs (t.lvs x)=(t.enc x).cells
 | .bool,_=>rfl
 | .int _,_=>rfl
 | .str,_=>rfl
 | .list _,_=>rfl
 | .arr n t,a=>by simp only[Ty.lvs,lvs,H6,jR,C0,Bu.enc]
 | .prod ts,x=>by simp only[Ty.lvs,Ty.enc,AZ.cells];exact ts.lvs_cells x
theorem Rl.lvs_cells: ∀(a:Rl) (x:a.D),Go.Ab.lvs (a.lvs x)=a.cells x
 | .one t,x=>by simp only[Rl.lvs,Rl.cells];exact t.lvs_enc x
 | .cons t a,x=>by simp only[Rl.lvs,Rl.cells];rw[Gq,t.lvs_enc,a.lvs_cells]
end
mutual
theorem Ty.lvs_ok{H:Aq}: ∀(t:Ty) (x:t.D),lok H (t.lvs x)
 | .bool,_=>λy b=>by simp only[Ty.lvs,BC]at b;subst b;trivial
 | .int _,_=>λy b=>by simp only[Ty.lvs,BC]at b;subst b;trivial
 | .str,_=>λy b=>by simp only[Ty.lvs,BC]at b;subst b;trivial
 | .list _,_=>λy b=>by simp only[Ty.lvs,BC]at b;subst b;trivial
 | .arr n t,a=>λy b=>by simp only[Ty.lvs,BC]at b;subst b;trivial
 | .prod ts,x=>by simp only[Ty.lvs];exact ts.lvs_ok x
theorem Rl.lvs_ok{H:Aq}: ∀(a:Rl) (x:a.D),lok H (a.lvs x)
 | .one t,x=>by simp only[Rl.lvs];exact t.lvs_ok x
 | .cons t a,x=>by simp only[Rl.lvs];exact Iz.2 ⟨t.lvs_ok _,a.lvs_ok _⟩
end
def L6(h:v.scalar=true):v.enc=[v.one]:=by
 cases v with
 |ar n t a=>cases h
 |_=>rfl
def Bu.scalar_cells(h:v.scalar=true):v.one.cells=[v.one]:=by
 cases v with
 |ar n t a=>cases h
 |raw x=>cases x<;>first|rfl|cases h
 |_=>rfl
theorem Q8(h:part P a d N=some e):
  (∃n,tI P a=some (true,n)/\N+n<=(lvs d).length/\e.enc= .agg (((lvs d).drop N).take n)\/tI P a=some (false,n)/\(lvs d)[N]? =some e.enc)/\ ∀H,lok H d->e.ok H:=by
 unfold part at h;split at h;rename_i t r l;obtain⟨rfl,j⟩:=OM l;split at h;rename_i n i;split at h;rename_i b c g;obtain⟨rfl,k⟩:=OM g;injection h with h;subst h;refine⟨⟨n,.inl ⟨i,?_,?_⟩⟩,λH f=>?_⟩;simp only[Gq,Aa];omega;simp only[TV.enc,Gq,AZ.agg.injEq];rw[<-j,PV,<-k,VT];exact(Iz.1 (Iz.1 f).2).1;cases h;rename_i n i;split at h;rename_i x r;split at h;rename_i m;injection h with h;subst h;refine⟨⟨n,.inr ⟨i,?_⟩⟩,λH f=>Js ((Iz.1 f).2 x q!)⟩;rw[Gq,HY,L6 m,Ch o!];simp[j,TV.enc];cases h;cases h;cases h;cases h
def jm(h:part P a d N=some e)
  (hr: ∀n,N+n<=(lvs d).length->Pr p u n=some (((lvs d).drop N).take n)):gA P a p u=some e.enc:=by
 obtain⟨⟨n,t|t⟩,_⟩:=Q8 h;obtain⟨i,g,c⟩:=t;simp only[gA,i,hr n g,Bo,c];obtain⟨i,c⟩:=t;have k:N<(lvs d).length:=by rcases Aw N (lvs d).length with f|f;exact f;rw[Cj f]at c;cases c
 simp only[gA,i,hr 1 o!,AD];rw[List.head?_take,List.head?_drop,c];rfl
theorem pO(h:Wa b N=some d): ∃ro,b[N]? =some (.live ro d):=by grind[Wa]
theorem FU(H:Aq)(id:Nat):(BL H)[id]? =(H[id]?).map D0.enc:=CM
theorem sC(h:Wa b N=some d):(BL b)[N]? =some (.live 0 (lvs d)):=by obtain⟨ro,H⟩:=pO h;rw[FU,H];rfl
def AEX(H: ∀e∈b,e.ok b)(h:Wa b N=some d):lok b d:=by obtain⟨ro,c⟩:=pO h;exact H _ (BN c)
def yN{l:List t.D}(h:gj b N n t=some l): ∃ro a,b[N]? =some (.buf ro t l a n):=by unfold gj at h;split at h;rename_i ro i j a d e;split at h;rename_i g;have c:=Db g;subst c;split at h;rename_i f;have H:=f;have:=Ty.beq_eq i t H;subst this;injection h with h;refine⟨ro,a,?_⟩;rw[e,<-h];rfl;cases h;cases h;cases h
def mC{l:List t.D}(d: ∀e∈b,e.ok b)(hr:VM b N U t n)(h:gj b N U t=some l):(BL b)[N]? =some (.live n (t.E.cl l))/\l.length=n:=by obtain⟨ro,f,H⟩:=yN h;obtain⟨_,c⟩:=hr.2 _ _ _ _ _ H;obtain⟨_,rfl⟩:=c rfl;have:f=l.length:=d _ (BN H);refine⟨?_,this.symm⟩;rw[FU,H];rfl
def yI{a:G9 (n+1) t.D}(h:ABz d N n t=some a): ∃c b,d=c++(.ar n t a::b)/\(lvs c).length=N:=by unfold ABz at h;split at h;rename_i c l m k b i;split at h;rename_i j;have:=Ty.beq_eq _ _ j;injection this with e f;subst e f;injection h with h;obtain⟨e,f⟩:=OM i;refine⟨c,b,?_,f⟩;rw[e,<-h];rfl;cases h;cases h
theorem av(n:Nat)(t:Ty)(a:G9 (n+1) t.D):(Bu.ar n t a).enc=dT (n+1) t.E a:=rfl
section
variable {P:Program} {R:Type} {H:Aq} {k:TV->Option R} {r:R}
theorem V8(h:okT C k=some r): ∃v,C=some v/\k v=some r:=by unfold okT at h;grind
theorem fo(v:AZ):(tvA v).enc=v:=by cases v<;>rfl
theorem jC(v:AZ):(tvA v).ok H:=by cases v<;>exact Js trivial
theorem iq{o:Option AZ}(h:okA o k=some r): ∃v,o=some v/\k (tvA v)=some r:=by unfold okA at h;grind
theorem jc{o:Option R}(h:cond A none o=some r):A=false/\o=some r:=k!
theorem pP(C: ∀t∈H,t.ok H)(D:e.ok H)(h:loadT P H a e k=some r): ∃u,gA P a (BL H) e.enc=some u.enc/\k u=some r/\u.ok H:=by
 unfold loadT at h;split at h;rename_i id g;split at h;rename_i B q;obtain⟨u,f,o⟩:=V8 h;refine⟨u,jm f λn c=>?_,o,(Q8 f).2 H (AEX C q)⟩;grind[TV.enc,Bu.one,Pr,sC];cases h;rename_i B d;obtain⟨u,f,o⟩:=V8 h;refine⟨u,jm f λn c=>?_,o,(Q8 f).2 H D⟩;simp only[TV.enc,Pr];grind;rename_i id p n b i g;split at h;rename_i B q;split at h;rename_i v G;obtain⟨t,z,h⟩:=D2.1 h;obtain⟨u,f,o⟩:=V8 h;obtain⟨j,d,rfl,s⟩:=yI G;refine⟨u,jm f λm c=>?_,o,(Q8 f).2 H (b.lvs_ok t)⟩;rw[b.lvs_enc,b.enc_len]at c;obtain⟨w,x⟩:=ABw b.E (lvs j) (lvs d) z c;have F:lvs (j++(.ar n b v::d))=lvs j++dT (n+1) b.E v++lvs d:=by rw[Gq,HY,av,Ax]
 simp only[TV.enc,Pr,sC q,F];have y:p+i.toNat*b.sz+g=(lvs j).length+i.toNat*b.E.sz+g:=by rw[s];rfl
 rw[y,if_pos ⟨trivial,w⟩,x,b.lvs_enc];rfl;cases h;cases h;rename_i id A b n i g;split at h;rename_i l q;obtain⟨t,z,h⟩:=D2.1 h;obtain⟨u,f,o⟩:=V8 h;obtain⟨y,_⟩:=mC C (D (.own id A b n) (by simp[TV.refs])) q;refine⟨u,jm f λm c=>?_,o,(Q8 f).2 H (b.lvs_ok t)⟩;rw[b.lvs_enc,b.enc_len]at c;obtain⟨w,x⟩:=AFu b.E z c;simp only[TV.enc,Pr,y];rw[if_pos ⟨trivial,w⟩];show some (List.take m (List.drop (i.toNat*b.E.sz+g) (b.E.cl l)))=_;rw[x,b.lvs_enc];rfl;cases h;cases h
theorem yK{i:BinOp}(h:AFv P i a e T k=some r): ∃u,wU P i a e.enc T.enc=some u.enc/\k u=some r/\u.ok H:=by
 unfold AFv at h;split at h;rename_i n x o b;simp only[TV.enc,Bu.one,wU];split at h;obtain⟨c,h⟩:=jc h;have d: ¬b<0:=by simpa using c
 refine⟨_,?_,h,Js trivial⟩;grind[iz,TV.enc,Bu.one];obtain⟨c,h⟩:=jc h;have d: ¬b<0:=by simpa using c
 refine⟨_,?_,h,Js trivial⟩;grind[iz,TV.enc,Bu.one];split at h;rename_i t;obtain⟨c,h⟩:=jc h;have d: ¬b=0:=by simpa using c
 refine⟨_,?_,h,Js trivial⟩;grind[ng,TV.enc,Bu.one];cases h;split at h;rename_i t;obtain⟨c,h⟩:=jc h;have d: ¬b=0:=by simpa using c
 refine⟨_,?_,h,Js trivial⟩;grind[ng,TV.enc,Bu.one];cases h;grind[iq,jC,fo];rename_i x b;simp only[TV.enc,Bu.one,wU];split at h;split at h;rename_i t;exact⟨_,by simp only[if_pos t,TV.enc,Bu.one],h,Js trivial⟩;cases h;split at h;rename_i t;exact⟨_,by simp only[if_pos t,TV.enc,Bu.one],h,Js trivial⟩;cases h;cases h;rename_i x b;simp only[TV.enc,Bu.one,wU];split at h;obtain⟨s,j,h⟩:=D2.1 h;exact⟨_,by simp only[u7,TV.enc,Bu.one];exact AGL j,h,Js trivial⟩;grind[iq,fo,jC];rename_i l bs;split at h;rename_i m f;split at h;rename_i g;simp only[TV.enc,wU,f,if_pos g];split at h;exact⟨_,by simp only[TV.enc,Bu.one,eqT],h,Js trivial⟩;exact⟨_,by simp only[TV.enc,Bu.one,eqT],h,Js trivial⟩;cases h;cases h;cases h;cases h
def ABW{a:UnOp}(h:unT a e k=some r): ∃u,unV a e.enc=some u.enc/\k u=some r/\u.ok H:=by unfold unT at h;split at h;obtain⟨e,b,h⟩:=iq h;exact⟨_,by rw[fo];exact b,h,jC e⟩;cases h
def AG0(l:List Int):(Ty.int .u8).E.cl l=l.map (vL .u8).f:=by
 unfold Tu.cl;induction l with
 |nil=>rfl
 |cons n l a=>simp only[Bi,H6,a];rfl
def AAn:Wf P p I a (.int z F)=Wf P [] I a (.int z F):=by unfold Wf;cases kd P a<;>rfl
def AAo{s:List UInt8}:Wf P p I a (.str s)=Wf P [] I a (.str s):=by unfold Wf;cases kd P a<;>rfl
def wZ(g: ∀d∈H,d.ok H)(c:e.ok H)(h:ACF P H I a e k=some r): ∃u,Wf P (BL H) I a e.enc=some u.enc/\k u=some r/\u.ok H:=by
 unfold ACF at h;split at h;rename_i l;split at h;rename_i b;exact⟨_,ACr l b.1 b.2,h,Js trivial⟩;cases h;rename_i id f n;split at h;rename_i b;split at h;rename_i l j;obtain⟨i,hn⟩:=mC g (c (.own id f (.int .u8) n) (by simp[TV.refs])) j;refine⟨_,?_,h,Js trivial⟩;simp only[TV.enc,Bu.one,Wf,b.1,b.2,if_true,rowsOf,i];rw[if_pos ⟨trivial,rfl,by rw[(Ty.int .u8).E.clen,hn];show 0+n<=n*1;omega⟩];have:((Ty.int .u8).E.cl l).length=n:=by rw[(Ty.int .u8).E.clen,hn];exact Nat.mul_one n
 rw[jP,<-this,Hk,AG0];exact congrArg (Option.map AZ.str) (wG l);cases h;cases h;obtain⟨e,c,h⟩:=iq h;exact⟨_,by rw[fo];exact AAn.trans c,h,jC e⟩;obtain⟨e,c,h⟩:=iq h;exact⟨_,by rw[fo];exact AAo.trans c,h,jC e⟩;cases h
end
section
variable {P:Program} {R:Type} {H:Aq} {k:TV->Option R} {r:R}
theorem iK(h:Wa H N=some d):S2 (BL H) N 0=true:=by simp[S2,sC h]
def vJ{l:List t.D}(b: ∀e∈H,e.ok H)(hr:VM H N U t n)(h:gj H N U t=some l):S2 (BL H) N n=true:=by simp[S2,(mC b hr h).1]
theorem oC(x: ∀s∈H,s.ok H)(g:e.ok H)(h:lJ P H N n e k=some r): ∃u,Vc P (BL H) N n e.enc=some u.enc/\k u=some r/\u.ok H:=by
 unfold lJ at h;split at h;rename_i B t f z;split at h;cases h;rename_i hn;have d:f≠0:=λs=>t!
 unfold Vc;simp only[z,if_neg d];split at h;rename_i id o;split at h;rename_i p c;exact⟨_,by simp only[TV.enc,Bu.one,shift,iK c,if_true],h,Js trivial⟩;cases h;rename_i p q;split at h;rename_i a b A;obtain⟨rfl,y⟩:=OM A;refine⟨_,?_,h,(Iz.1 g).2⟩;simp only[TV.enc,shift];rw[if_pos (by simp only[Aa,Gq];omega),Gq,Ax,<-y,PV];cases h;rename_i id m f w i o;split at h;rename_i p c;refine⟨_,?_,h,λ_ h=>by cases h⟩;grind[TV.enc,shift,iK];cases h;rename_i id j w f i o;split at h;rename_i l c;refine⟨_,?_,h,g⟩;simp only[TV.enc,shift,vJ x (g (.own id j w f) (by simp[TV.refs])) c,if_true,dN];cases h;cases h;cases h
theorem vp(h:part P a d N=some e)(c: ∀t,N+t<=(lvs d).length->n+t<=i.length/\(i.drop n).take t=((lvs d).drop N).take t):sQ P a i n=some e.enc:=by grind[Q8,sQ,List.head?_take,List.head?_drop]
theorem vN(d:e.ok H)(h:yU P N n e k=some r): ∃u,rI P N n e.enc=some u.enc/\k u=some r/\u.ok H:=by unfold yU at h;split at h;rename_i s t f g a;obtain⟨u,c,b⟩:=V8 h;refine⟨u,?_,b,(Q8 c).2 H d⟩;simp only[rI,a,TV.enc];grind[vp];cases h
theorem qY{a:G9 n R}{x:R}(h:Gk a F=some x):0<=F/\F<n:=by obtain⟨c,j,rfl,_⟩:=nO h;grind
theorem oP(s: ∀t∈H,t.ok H)(C:e.ok H)(h:lR P H a e T k=some r): ∃u,Vh P (BL H) a e.enc T.enc=some u.enc/\k u=some r/\u.ok H:=by
 unfold lR at h;split at h;rename_i L T;simp only[TV.enc,Bu.one,Vh];split at h;rename_i len z sz p;simp only[p];split at h;rename_i id D;split at h;rename_i G m;split at h;rename_i F n b v g K;split at h;rename_i d;obtain⟨rfl,rfl⟩:=d;obtain⟨t,c,h⟩:=D2.1 h;refine⟨_,?_,h,λ_ h=>by cases h⟩;rw[if_pos (qY c)];simp only[TV.enc,Bu.one,shift,iK m,if_true,Sl];cases h;cases h;cases h;rename_i n b v M g;split at h;rename_i d;obtain⟨rfl,rfl⟩:=d;obtain⟨t,c,h⟩:=D2.1 h;refine⟨_,?_,h,b.lvs_ok t⟩;rw[if_pos (qY c)];obtain⟨_,o,q,_⟩:=AB1 b.E c [] [];simp only[Bw,C0,BX,EK]at o q;have B:T.toNat*b.sz+b.sz<=(dT (n+1) b.E v).length:=o;simp only[TV.enc,shift,HY,av];rw[if_pos k!];rw[b.lvs_enc,Ax,nY o!];have y:(dT (n+1) b.E v).drop (T.toNat*b.sz)=(b.enc t).cells++(dT (n+1) b.E v).drop (T.toNat*b.sz+b.sz):=by rw[<-Lw];have I:((dT (n+1) b.E v).drop (T.toNat*b.sz)).take b.sz=(b.enc t).cells:=q;grind[List.take_append_drop]
 rw[y,Ax];rfl;cases h;cases h;rename_i z sz p;simp only[p];split at h;rename_i b l;split at h;rename_i d;subst d;obtain⟨t,c,h⟩:=D2.1 h;obtain⟨q1,q2⟩:=AIM (f:=b.enc) c;refine⟨_,?_,h,b.lvs_ok t⟩;simp only[TV.enc,Bu.one];rw[if_pos ⟨q1,trivial⟩,q2,b.lvs_enc,C0];rfl;cases h;rename_i id j b n;split at h;rename_i l m;split at h;rename_i d;subst d;obtain⟨t,c,h⟩:=D2.1 h;have hr:=C (.own id j b n) (by simp[TV.refs]);obtain⟨J,hn⟩:=mC s hr m;refine⟨.bptr id j b n T 0,?_,h,λx w=>by simp only[TV.refs,BC]at w;subst w;exact hr⟩;obtain⟨_,_,_,_,A,o,_,_⟩:=qx b.E c;simp only[TV.enc,Bu.one];rw[if_pos ⟨A,o!,trivial,vJ s hr m⟩,EK,Sl];cases h;cases h;cases h;cases h;cases h
theorem mQ{e:TypeId}{sz:Nat}{cs:List Bu}{i:Int}(b:lok H cs): ∀{m j:Nat},vD P e sz cs i k m j=some r-> ∃u,(0<=i/\i<((j+m:Nat):Int))/\sQ P e (lvs cs) (i.toNat*sz)=some u.enc/\k u=some r/\u.ok H
 |m+1,j,h=>by
  simp only[vD]at h;cases a:decide (i=Int.ofNat j)with
  |true=>
   rw[a]at h;have f:i=(j:Int):=k!
   obtain⟨u,d,c⟩:=V8 h;refine⟨u,o!,?_,c,(Q8 d).2 H b⟩;grind[vp]
  |false=>rw[a]at h;obtain⟨u,q1,q2⟩:=mQ b (m:=m) (j:=j+1) h;grind
theorem vV(A:e.ok H)(h:yZ P a e T k=some r): ∃u,il P a e.enc T.enc=some u.enc/\k u=some r/\u.ok H:=by
 unfold yZ at h;split at h;rename_i B T;split at h;rename_i n c v;split at h;rename_i len x sz o;split at h;rename_i z;obtain⟨rfl,rfl⟩:=z;obtain⟨t,p,h⟩:=D2.1 h;obtain⟨u,q,f⟩:=V8 h;refine⟨u,?_,f,(Q8 q).2 H (c.lvs_ok t)⟩;simp only[TV.enc,Bu.one,il,o];rw[if_pos (qY p)];refine vp q λm d=>?_;rw[c.lvs_enc,c.enc_len,EK]at d;obtain⟨j,l⟩:=ABw c.E (off:=0) [] [] p (m:=m) (by rw[EK];exact d);simp at j l;have w:lvs [Bu.ar n c v]=dT (n+1) c.E v:=by grind[av,lvs]
 rw[w,c.lvs_enc,jP];exact⟨j,l⟩;cases h;cases h;rename_i g _;split at h;rename_i len x sz o;split at h;obtain⟨u,q1,q2,q3⟩:=mQ (cs:=g) (H:=H) A h;grind[TV.enc,Bu.one,il];cases h;cases h;rename_i s;split at h;rename_i f;obtain⟨b,y,h⟩:=D2.1 h;exact⟨_,by simp only[TV.enc];exact AHG y f,h,Js trivial⟩;cases h;cases h;cases h
theorem mB{d:Nat}(h:AAf d C=some F)(a:0<=F):Wo d (C.map TV.enc)=some F.toNat:=by unfold AAf at h;grind[Wo,TV.enc,Bu.one,sK]
theorem wB{i m:Option TV}(h:zO P a e C i m k=some r): ∃u,jA P (BL H) a e.enc (C.map TV.enc) (i.map TV.enc) (m.map TV.enc)=some u.enc/\k u=some r/\u.ok H:=by unfold zO at h;split at h;cases h;split at h;rename_i s;split at h;rename_i l w g b;split at h;rename_i y;obtain⟨x,c,h⟩:=D2.1 h;refine⟨_,?_,h,Js trivial⟩;unfold Rk at c;split at c;rename_i v;simp only[TV.enc,Bu.one,jA,mB (d:=0) g v.1,mB b (nR v.1 v.2.1)];grind;cases c;cases h;cases h;rename_i z f;split at h;rename_i l w A sz g b q;split at h;rename_i y;obtain⟨x,c,h⟩:=D2.1 h;refine⟨_,?_,h,Js trivial⟩;unfold aX at c;split at c;rename_i v;have t:(f.map z.enc).length=f.length:=B7 _;have n:=mB (d:=0) g v.1;have o:=mB b (nR v.1 v.2.1);have p:Wo f.length none=some f.length:=rfl;simp only[TV.enc,Bu.one,jA,t,n,o,p,q];grind[List.map_take,List.map_drop];cases c;cases h;cases h;cases h
def yh(d: ∀t∈H,t.ok H)(g:e.ok H)(h:AGF P H a e k=some r): ∃u,sB P (BL H) a e.enc=some u.enc/\k u=some r/\u.ok H:=by unfold AGF at h;split at h;rename_i s v;exact⟨_,by simp only[sB,v,TV.enc,Bu.one],h,Js trivial⟩;rename_i n t v;exact⟨_,by simp only[sB,v,TV.enc,Bu.one],h,Js trivial⟩;rename_i b l t v;exact⟨_,by simp only[sB,v,TV.enc,Bu.one,B7],h,Js trivial⟩;rename_i t id c b n v;split at h;rename_i l f;refine⟨_,?_,h,Js trivial⟩;simp only[sB,v,TV.enc,Bu.one];cases h;rename_i t v;exact⟨_,by simp only[sB,v,TV.enc,Bu.one],h,Js trivial⟩;cases h
end
def YX(h:e.words=some d):e.enc.solid=true/\e.enc.cells=lvs d/\ ∀H,e.ok H->lok H d:=by unfold TV.words at h;split at h;rename_i x;split at h;rename_i a;simp at a;injection h with h;subst h;refine⟨a.2,?_,λH b=>b⟩;rw[HY,L6 a.1];exact Bu.scalar_cells a.1;cases h;injection h with h;subst h;exact⟨rfl,rfl,λH b=>b⟩;cases h
theorem jp{f c:List Bu}{e n:Nat}(h:ABR d e f n=some c)(hn:(lvs f).length=n):lvs c=WA (lvs d) e (lvs f)/\e+n<=(lvs d).length/\ ∀H,lok H d->lok H f->lok H c:=by unfold ABR at h;split at h;rename_i a r i;obtain⟨rfl,l⟩:=OM i;split at h;rename_i m b g;obtain⟨rfl,o⟩:=OM g;refine⟨?_,by simp only[Gq,Aa];omega,λH j k=>?_⟩;grind[WA,Gq];grind[Iz];cases h;cases h
mutual
theorem Ty.zlvs_ok{H:Aq}: ∀t:Ty,lok H t.zlvs
 | .bool=>λy a=>by simp only[Ty.zlvs,BC]at a;subst a;trivial
 | .int _=>λy a=>by simp only[Ty.zlvs,BC]at a;subst a;trivial
 | .str=>λy a=>by simp only[Ty.zlvs,BC]at a;subst a;trivial
 | .list _=>λy a=>by simp only[Ty.zlvs,BC]at a;subst a;trivial
 | .arr n t=>λy a=>by simp only[Ty.zlvs,BC]at a;subst a;trivial
 | .prod b=>by simp only[Ty.zlvs];exact b.zlvs_ok
theorem Rl.zlvs_ok{H:Aq}: ∀a:Rl,lok H a.zlvs
 | .one t=>by simp only[Rl.zlvs];exact t.zlvs_ok
 | .cons t a=>by simp only[Rl.zlvs];exact Iz.2 ⟨t.zlvs_ok,a.zlvs_ok⟩
end
def AA1(v:AZ):(uN v).enc=[v]:=by cases v<;>rfl
theorem ACd(v:AZ):(uN v).ok b:=by cases v<;>trivial
theorem oR: ∀z:List AZ,lvs (z.map uN)=z
 |[]=>rfl
 |v::r=>by rw[Bi,HY,oR r,AA1];rfl
theorem AAI(z:List AZ):lok b (z.map uN):=λx a=>by grind[ACd]
theorem Ya(h:su P a=some d):YY P a=some (lvs d)/\ ∀H,lok H d:=by unfold su at h;split at h;rename_i z b;split at h;rename_i e t;split at h;rename_i c;injection h with h;subst h;exact⟨by rw[b,jV _ _ c],λH=>e.zlvs_ok⟩;grind[oR,AAI];grind[oR,AAI];cases h
theorem rJ{p:ZT}: ∀{a:List (Nat×TV)} {c b:List Bu},wu p c a=some b->pH p (lvs c) (a.map λq=>(q.1,q.2.enc))=some (lvs b)/\ ∀H,lok H c->(∀q∈a,q.2.ok H)->lok H b
 |[],c,b,h=>by simp only[wu,Am]at h;subst h;exact⟨rfl,λH h _=>h⟩
 |(i,v)::r,c,b,h=>by simp only[wu]at h;split at h;rename_i m size z t l;split at h;rename_i k;have e:=Db k;split at h;rename_i s d;obtain⟨x,y,o⟩:=YX l;obtain⟨u,w,n⟩:=jp d (by rw[dC,e]);obtain⟨q1,q2⟩:=rJ h;refine⟨?_,λH g f=>q2 H (n H g (o H (f (i,v) q!))) λq j=>f q (by simp[j])⟩;grind[pH,dC];cases h;cases h;cases h
section
variable {P:Program} {R:Type} {env:Bf} {H:Aq} {k:TV->Option R} {r:R}
theorem wV{v:List (Nat×TV)}(h:yO P a v=some e):qj P a (v.map λq=>(q.1,q.2.enc))=some e.enc/\((∀q∈v,q.2.ok H)->e.ok H):=by unfold yO at h;split at h;rename_i z p t j;obtain⟨k,f⟩:=Ya t;rw[Sn]at h;obtain⟨g,c,rfl⟩:=h;obtain⟨i,b⟩:=rJ c;refine⟨?_,λd=>b H (f H) d⟩;grind[qj,TV.enc];cases h
def oe: ∀{l:List TV} {m:List AZ},sU l=some m->m=l.map TV.enc
 |[],m,h=>by simp only[sU,Am]at h;subst h;rfl
 | .c x::r,m,h=>by simp only[sU]at h;split at h;rename_i b _ a;injection h with h;subst h;rw[Bi,<-oe a];rfl;cases h
 | .g _::_,m,h=>by simp[sU]at h
 | .aptr .. ::_,m,h=>by simp[sU]at h
 | .bptr .. ::_,m,h=>by simp[sU]at h
 | .vptr .. ::_,m,h=>by simp[sU]at h
 | .tup _::_,m,h=>by simp[sU]at h
def uT(h:mmT A e T k=some r): ∃u,mmV A [e.enc,T.enc]=some u.enc/\k u=some r/\u.ok H:=by unfold mmT at h;split at h;exact⟨_,by simp only[TV.enc,Bu.one,mmV],h,Js trivial⟩;cases h
def yp{z:TV}(h:AGG e T z k=some r): ∃u,mm3 e.enc T.enc z.enc=some u.enc/\k u=some r/\u.ok H:=by unfold AGG at h;split at h;exact⟨_,by simp only[TV.enc,Bu.one,mm3],h,Js trivial⟩;cases h
theorem uc{F:Op}(ok:QH env H)(h:quT P env H F k=some r): ∃v,Cb P (CA env) (BL H) F=some v.enc/\k v=some r/\v.ok H:=by
 have j: ∀x,(JG env x).ok H:=eT ok.env;have g:=K0 env;unfold quT at h;split at h;grind[Cb];grind[Cb];rename_i c a b;split at h;rename_i t K;have w:BM (CA env) c= .bool t:=by rw[g,K];rfl
 grind[Cb,Bool.false_eq_true];cases h;obtain⟨u,d,e⟩:=pP ok.heap (j _) h;grind[Cb];rename_i x;split at h;grind[BM,CA,Cb,iK,TV.enc,Bu.one,Js];grind[BM,CA,Cb,TV.enc,Bu.one,Js];grind[BM,CA,lvs,Cb,TV.enc];grind[BM,CA,Cb,iK,TV.enc];rename_i id D G n i B s;split at h;rename_i l A;have w:BM (CA env) x= .ptr id n (i.toNat*G.sz+B):=by rw[g,s];rfl
 have:=j x;rw[s]at this;exact⟨_,by simp only[Cb,w,vJ ok.heap (this (.own id D G n) (by simp[TV.refs])) A,if_true,TV.enc],h,this⟩;cases h;cases h;simp_all[yK,Cb];obtain⟨u,d,e⟩:=ABW (H:=H) h;exact⟨u,by simp only[Cb,g,d],e⟩;obtain⟨u,d,e⟩:=wZ ok.heap (j _) h;exact⟨u,by simp only[Cb,g,d],e⟩;obtain⟨u,d,e⟩:=oC ok.heap (j _) h;exact⟨u,by simp only[Cb,g,d],e⟩;obtain⟨u,d,e⟩:=vN (j _) h;exact⟨u,by simp only[Cb,g,d],e⟩;obtain⟨u,d,e⟩:=oP ok.heap (j _) h;exact⟨u,by simp only[Cb,g,d],e⟩;obtain⟨u,d,e⟩:=vV (H:=H) (j _) h;exact⟨u,by simp only[Cb,g,d],e⟩;rename_i t x Q O R;obtain⟨u,d,e⟩:=wB (H:=H) h;have q: ∀o:Option Operand,o.map (BM (CA env))=(o.map (JG env)).map TV.enc:=by
  intro o;cases o with
  |none=>rfl
  |some y=>simp only[Bo,g]
 exact⟨u,by simp only[Cb,g,q,d],e⟩;rename_i x i;split at h;rename_i N s;split at h;rename_i v z;have w:BM (CA env) x= .tup (N.map TV.enc):=by rw[g,s];simp only[TV.enc,rF]
 have E:=j x;rw[s]at E;exact⟨v,by simp only[Cb,w,CM,z,Bo],h,oX E (BN z)⟩;cases h;cases h;rename_i f a b;split at h;rename_i l m A L;refine⟨_,?_,h,Js trivial⟩;have q: ∀o:List Operand,o.map (BM (CA env))=(o.map (JG env)).map TV.enc:=by intro o;rw[Mh];exact Mg λy _=>g y
 simp only[Cb,q,<-oe A,<-oe L,TV.enc,Bu.one];cases h;rename_i t C;obtain⟨v,z,h⟩:=V8 h;obtain⟨I,J⟩:=wV (H:=H) z;refine⟨v,?_,h,J λq M=>?_⟩;simp only[Cb];rw[<-I,Mh];congr 1;exact Mg λp _=>by simp only[Function.comp,g]
 obtain⟨p,_,rfl⟩:=Bv.1 M;exact j _;obtain⟨u,d,e⟩:=yh ok.heap (j _) h;exact⟨u,by simp only[Cb,g,d],e⟩;obtain⟨u,d,e⟩:=uT (H:=H) h;exact⟨u,by simp only[Cb,g,d],e⟩;obtain⟨u,d,e⟩:=uT (H:=H) h;exact⟨u,by simp only[Cb,g,d],e⟩;obtain⟨u,d,e⟩:=yp (H:=H) h;exact⟨u,by simp only[Cb,g,d],e⟩;cases h
end
def Conv(x y:Cx)(v v':AZ):Prop:= ∀c,Br x v c->Br y v' c
def Tq(x y:Cx)(H H2:A0):Prop:=
 H2.length=H.length/\ ∀(j:Nat) (e':Fl),H2[j]? =some e'->e'= .dead\/
  (∃g cs cs',H[j]? =some (.live g cs)/\e'= .live g cs'/\cs'.length=cs.length/\ ∀(i:Nat) (v':AZ),cs'[i]? =some v'-> ∃v,cs[i]? =some v/\Conv x y v v')\/
  (H[j]? =some e'/\ ∀g cs,e'≠ .live g cs)
theorem Tq.refl(x:Cx)(H:A0):Tq x x H H:=by
 refine⟨rfl,λj a d=>?_⟩;cases a with
 |live g c=>exact .inr (.inl ⟨g,c,c,d,rfl,rfl,λi v b=>⟨v,b,λ_ r=>r⟩⟩)
 |_=>grind
theorem Tq.own{H d:A0}{h:Gh}(hr:Tq x y H d): ∀B,owned h d B->owned h H B:=by rintro B ⟨j,f,i,c,a⟩;rcases hr.2 j f i with b|⟨g,k,e,b,_⟩|⟨b,_⟩;grind;exact⟨j,_,b,q!,a⟩;exact⟨j,_,b,c,a⟩
def Tq.later{h:Gh}{H a:A0}{w:World}{x y:Cx}(hr:Tq x y H a):(cx X h H w).Later (cx X h a w):={size:=Ao _,keep:=λ_ _ _ _=>rfl,own:=λB _ b=>b.imp _root_.id (hr.own B),n:=by simp[cx,hr.1],gen:=λ_ _=>Ao _,same:=λ_ _ _=>⟨rfl,rfl⟩}
theorem JF.rel{X:Nat->Prop}(s:JF X h p w)(hr:Tq (cx X h p w) (cx X h Z w) p Z):JF X h Z w:=by
 have y:=hr.own (h:=h);have M:(cx X h p w).Later (cx X h Z w):=hr.later;have back: ∀{j:Nat} {e:Fl},Z[j]? =some e->e≠ .dead-> ∃N,p[j]? =some N/\N≠ .dead:=by intro j e l ad;rcases hr.2 j e l with a|⟨g,z,C,a,_⟩|⟨a,_⟩;grind;grind;grind
 refine⟨λB n=>⟨(s.out B n).1,λho=>(s.out B n).2 (y B ho)⟩,λj Q C l=>?_,λj L l=>?_,λi j e e' B a c J K O D=>?_,s.bldKeep λj e l n=>?_⟩;rcases hr.2 j _ l with a|⟨g,z,o,a,c,O,D⟩|⟨_,a⟩;cases a;injection c with R S;subst R S;obtain⟨I,W⟩:=s.live j Q z a;refine⟨I,?_⟩;rcases W with⟨k,h0⟩|⟨B,A,T,P,f,k,V,q,H,G,b⟩;refine .inl ⟨k,?_⟩;grind;refine .inr ⟨B,A,T,P,f,k,V,q,o!,G,λi v' Y=>?_⟩;obtain⟨v,hv,U⟩:=D i v' Y;obtain⟨p1,p2,p3⟩:=b i v hv;exact⟨p1,p2,U _ p3⟩;grind;rcases hr.2 j _ l with a|⟨g,z,o,_,c,_⟩|⟨a,_⟩;cases a;cases c;obtain⟨I,B,r,q1,q2,q3,q4,q5,q6,q7,q8,q9⟩:=s.lp j L a;exact⟨I,B,r,q1,q2,q3,q4,q5,q6,q7,q8,λt v m=>⟨(q9 t v m).1,(q9 t v m).2.later M⟩⟩;obtain⟨d,E,F⟩:=back a J;obtain⟨d',u,x⟩:=back c K;exact s.inj i j _ _ B E u F x O D;refine⟨?_,rfl,rfl,rfl,λ_ _ _ _ _=>rfl⟩;rcases hr.2 j _ l with a|⟨g,z,o,_,c,_⟩|⟨a,_⟩;subst a;cases n;subst c;cases n;exact a
theorem Tq.onto(hr:Tq (cx X h p w) (cx X h p w) p Z):Tq (cx X h p w) (cx X h Z w) p Z:=by have e:(cx X h p w).Later (cx X h Z w):=hr.later;refine⟨hr.1,λj k H=>?_⟩;rcases hr.2 j k H with d|⟨g,f,b,d,l,m,n⟩|d;grind;refine .inr (.inl ⟨g,f,b,d,l,m,λi q o=>?_⟩);obtain⟨v,q1,q2⟩:=n i q o;exact⟨v,q1,λc r=>(q2 c r).later e⟩;grind
def Vm{env2:Env}(f:Z.length=p.length)(hr: ∀X h w,JF X h p w→Tq (cx X h p w) (cx X h Z w) p Z∧ ∀t c,(t,c)∈env2→ ∃v,(t,v)∈s∧Conv (cx X h p w) (cx X h Z w) v c):
  GF N p.length s p env2 Z:=by
 refine⟨o!,λX h a w H=>?_⟩;obtain⟨q1,q2⟩:=hr X h w H.sim;refine⟨h,⟨H.sim.rel q1,λt c m=>?_,H.size⟩,λ_ _=>⟨rfl,rfl,rfl⟩,q1.own⟩;obtain⟨v,d,e⟩:=q2 t c m;exact⟨(H.env t v d).1,e _ (H.env t v d).2⟩
def Tq.ext{X:Nat->Prop}{c:Gh}{H a b:A0}{d:World}(hr:Tq x y H b)(e:He c a d h H w):He c a d h b w where
 os:=e.os
 tape:=e.tape
 output:=e.output
 size:=e.size
 keep:=e.keep
 n:=by rw[hr.1];exact e.n
 gen:=e.gen
 same:=e.same
 fresh B hB:=e.fresh B (hr.own B hB)
 loops:=e.loops
def JE.after{N:Nat}{H:A0}{v f:AZ}{H1 b:A0}(h:JE P N o s H (C8 v H1))
  (hr: ∀X h w,JF X h H1 w->Tq (cx X h H1 w) (cx X h b w) H1 b/\Conv (cx X h H1 w) (cx X h b w) v f):JE P N o s H (C8 f b):=by
 intro r X g a w p Q;apply Vk (h r X g a w p Q);rintro n l ⟨c,u,d,m,i,⟨rfl,rfl⟩,j,e,k⟩;obtain⟨q1,q2⟩:=hr X d l e;exact⟨c,_,d,_,i,⟨rfl,rfl⟩,q2 _ j,e.rel q1,Tq.ext (X:=X) q1 k⟩
def JE.before{N:Nat}{env2:Env}{H H2:A0}{K:AZ->A0->Prop}(b:GF N H.length s H env2 H2)(h:JE P N o env2 H2 K):JE P N o s H K:=by intro r X g a w x Q;obtain⟨f,q,j,l⟩:=b.2 X g a w x;apply Vk (h r X f a w q Q);rintro t u ⟨c,v,e,d,i,k,n,m,p⟩;exact⟨c,v,e,d,i,k,n,m,(GF.ext rfl b.1 j l (He.refl g H w)).trans p⟩
def EW.before{args args2:List AZ}{H H2:A0}{K:AZ→A0→Prop}(hn:args2.length=args.length)
  (hr: ∀X h w,JF X h H w->Tq (cx X h H w) (cx X h H2 w) H H2/\ ∀(j:Nat) (b:AZ),args2[j]? =some b-> ∃v,args[j]? =some v/\Conv (cx X h H w) (cx X h H2 w) v b)
  (h:EW P S args2 H2 K):EW P S args H K:=by
 intro X g w a s n k;obtain⟨q1,q2⟩:=hr X g w s;refine(h X g w a (s.rel q1) o! λj b c m l=>?_).mono ?_;obtain⟨v,o,d⟩:=q2 j b m;exact d _ (k j v c o l);rintro e t ⟨c,v,i,f,rfl,q,r,p,x⟩;exact⟨c,v,i,f,rfl,q,r,p,(Tq.ext (X:=X) q1 (He.refl g H w)).trans x⟩
def Wn(v v':AZ):Prop:= ∀(x:Cx) (c:Value),Br x v c->Br x v' c
def Wn.refl(v:AZ):Wn v v:=λ_ _ h=>h
def Wn.nil{sz:Nat}(h:0<sz):Wn .nils (.vs sz []):=λ_ _ r=>r.nil_vs h
def Dg(cs cs':List AZ):Prop:=cs'.length=cs.length/\ ∀(i:Nat) (v':AZ),cs'[i]? =some v'-> ∃v,cs[i]? =some v/\Wn v v'
theorem Dg.refl(a:List AZ):Dg a a:=⟨rfl,λ_ v h=>⟨v,h,.refl v⟩⟩
theorem Dg.append{b f:List AZ}(c:Dg i Q)(g:Dg b f):Dg (i++b) (Q++f):=by refine⟨by simp[c.1,g.1],λa j h=>?_⟩;rcases Aw a Q.length with d|d;rw[CT d]at h;obtain⟨v,q1,q2⟩:=c.2 a j h;grind;rw[Ch d]at h;obtain⟨v,q1,q2⟩:=g.2 _ j h;exact⟨v,by rw[Ch (by rw[<-c.1];exact d),<-c.1];exact q1,q2⟩
theorem Dg.one{b:AZ}(h:Wn u b):Dg [u] [b]:=⟨rfl,λi v a=>by
 match i,a with
 |0,a=>grind
 |i+1,a=>simp at a⟩
def Dg.agg{b a:List AZ}(h:Dg b a):Wn (.agg b) (.agg a):=by
 intro x c r;cases r with
 |agg i e hr=>refine .agg (by rw[i,h.1]) e λj k d g f=>?_;obtain⟨v,q1,q2⟩:=h.2 j k g;exact q2 _ _ (hr j v d q1 f)
mutual
def Ty.mk:(t:Ty)->List Bu->Option (t.D×List Bu)
 | .bool,.bl b::r=>some (b,r)
 | .int k,.it k' n::r=>if k=k' then some (n,r)else none
 | .str,.st s::r=>some (s,r)
 | .list t,.ls t' l::r=>if h:(Ty.list t').beq (Ty.list t)=true then some (Ty.cast h l,r)else none
 | .list _,.nil::r=>some ([],r)
 | .arr n t,.ar n' t' a::r=>if h:(Ty.arr n' t').beq (Ty.arr n t)=true then some (Ty.cast h a,r)else none
 | .prod ts,ls=>ts.mk ls
 |_,_=>none
def Rl.mk:(ts:Rl)->List Bu->Option (ts.D×List Bu)
 | .one t,ls=>t.mk ls
 | .cons t ts,ls=>
  match t.mk ls with
  |some (x,r)=>match ts.mk r with|some (y,r')=>some ((x,y),r')|none=>none
  |none=>none
end
mutual
theorem Ty.mk_spec: ∀(t:Ty) (b:List Bu) (x:t.D) (r:List Bu),t.mk b=some (x,r)-> ∃a,b=a++r/\Dg (lvs a) (t.enc x).cells
 | .bool,b,x,r,h=>by
  cases b with
  |nil=>simp[Ty.mk]at h
  |cons y b=>
   cases y<;>simp only[Ty.mk]at h<;>try (cases h;done)
   simp only[Am,EY]at h;obtain⟨rfl,rfl⟩:=h;exact⟨[_],rfl,Dg.refl _⟩
 | .int k,b,x,r,h=>by
  cases b with
  |nil=>simp[Ty.mk]at h
  |cons y b=>
   cases y<;>simp only[Ty.mk]at h<;>try (cases h;done)
   split at h;rename_i f;subst f;simp only[Am,EY]at h;obtain⟨rfl,rfl⟩:=h;exact⟨[_],rfl,Dg.refl _⟩;cases h
 | .str,b,x,r,h=>by
  cases b with
  |nil=>simp[Ty.mk]at h
  |cons y b=>
   cases y<;>simp only[Ty.mk]at h<;>try (cases h;done)
   simp only[Am,EY]at h;obtain⟨rfl,rfl⟩:=h;exact⟨[_],rfl,Dg.refl _⟩
 | .list t,b,x,r,h=>by
  cases b with
  |nil=>simp[Ty.mk]at h
  |cons y b=>
   cases y<;>simp only[Ty.mk]at h<;>try (cases h;done)
   split at h;rename_i c;simp only[Am,EY]at h;obtain⟨rfl,rfl⟩:=h;refine⟨[_],rfl,?_⟩;have d:((Ty.list t).enc (Ty.cast c ‹_›))=_:=bw c _;rw[d];exact Dg.refl _;cases h;simp only[Am,EY]at h;obtain⟨rfl,rfl⟩:=h;exact⟨[_],rfl,Dg.one (Wn.nil t.sz_pos)⟩
 | .arr n t,b,x,r,h=>by
  cases b with
  |nil=>simp[Ty.mk]at h
  |cons y b=>
   cases y<;>simp only[Ty.mk]at h<;>try (cases h;done)
   split at h;rename_i c;simp only[Am,EY]at h;obtain⟨rfl,rfl⟩:=h;refine⟨[_],rfl,?_⟩;have d:((Ty.arr n t).enc (Ty.cast c ‹_›))=_:=bw c _;rw[d];have e: ∀y:Bu,lvs [y]=y.enc:=λy=>by rw[HY];simp[lvs]
   rw[e];exact Dg.refl _;cases h
 | .prod ts,b,x,r,h=>ts.mk_spec b x r (by simpa only[Ty.mk]using h)
theorem Rl.mk_spec: ∀(d:Rl) (c:List Bu) (x:d.D) (r:List Bu),d.mk c=some (x,r)-> ∃a,c=a++r/\Dg (lvs a) (d.cells x)
 | .one t,c,x,r,h=>t.mk_spec c x r (by simpa only[Rl.mk]using h)
 | .cons t d,c,x,r,h=>by simp only[Rl.mk]at h;split at h;rename_i y e f;split at h;rename_i z k g;simp only[Am,EY]at h;obtain⟨rfl,rfl⟩:=h;obtain⟨a,rfl,i⟩:=t.mk_spec c y e f;obtain⟨b,rfl,j⟩:=d.mk_spec e z k g;exact⟨a++b,by rw[Ax],by rw[Gq];exact i.append j⟩;cases h;cases h
end
def Ty.isAgg:Ty->Bool
 | .arr .. =>true
 | .prod _=>true
 |_=>false
def Ty.all(t:Ty)(ls:List Bu):Option t.D:=
 match t.mk ls with
 |some (x,[])=>some x
 |_=>none
theorem Fs{x:t.D}(h:t.all d=some x):Dg (Go.Ab.lvs d) (t.enc x).cells:=by unfold Ty.all at h;split at h;rename_i y c;obtain⟨a,rfl,b⟩:=t.mk_spec d y [] c;grind;cases h
def Ty.data(t:Ty)(v:TV):Option t.D:=
 match v with
 | .c x=>match t.isAgg|| !x.scalar with|true=>none|false=>t.all [x]
 | .g cs=>match t.isAgg with|true=>t.all cs|false=>none
 |_=>none
def Ty.scalar_cells(h:t.isAgg=false)(x:t.D):(t.enc x).cells=[t.enc x]:=by cases t<;>first|rfl|cases h
def Ty.agg_enc(h:t.isAgg=true)(x:t.D):t.enc x= .agg (t.enc x).cells:=by cases t<;>first|rfl|cases h
def L7{v:TV}{x:t.D}(h:t.data v=some x):Wn v.enc (t.enc x):=by unfold Ty.data at h;split at h;rename_i y;split at h;cases h;rename_i a;simp at a;have:=Fs h;rw[t.scalar_cells a.1,HY,L6 a.2]at this;obtain⟨u,b,c⟩:=this.2 0 _ rfl;simp at b;subst b;exact c;rename_i d;split at h;rename_i a;have:=(Fs h).agg;rw[<-t.agg_enc a]at this;exact this;cases h;cases h
def Ty.tv(t:Ty)(x:t.D):TV:=
 match t,x with
 | .bool,b=>.c (.bl b)
 | .int k,n=>.c (.it k n)
 | .str,s=>.c (.st s)
 | .list t,l=>.c (.ls t l)
 | .arr n t,a=>.g [.ar n t a]
 | .prod ts,x=>.g (ts.lvs x)
def Ty.tv_enc(t:Ty)(x:t.D):(t.tv x).enc=t.enc x:=by
 cases t with
 |arr n t=>
  have a: ∀y:Bu,Go.Ab.lvs [y]=y.enc:=λy=>by rw[HY];simp[Go.Ab.lvs]
  simp only[Ty.tv,TV.enc,a];rfl
 |prod b=>simp only[Ty.tv,TV.enc,b.lvs_cells];rfl
 |_=>rfl
def Ty.tv_ok(t:Ty)(x:t.D):(t.tv x).ok b:=by
 cases t with
 |prod a=>exact a.lvs_ok x
 |_=>exact Js trivial
def D0.ro:D0->Bool
 | .dead=>false
 | .live b _=>b
 | .buf b _ _ _ _=>b
 | .lp b _ _ _ _ _ _ _=>b
 | .mp b _ _ _=>b
def D0.isLp:D0->Bool
 | .lp .. =>true
 |_=>false
def LpS(H H':Aq):Prop:= ∀(id:Nat),id<H.length-> ∀ro F n env ps a b s,H'[id]? =some (.lp ro F n env ps a b s)-> ∃ro0 s0,H[id]? =some (.lp ro0 F n env ps a b s0)
def LpS.refl(H:Aq):LpS H H:=λ_ _ _ _ _ _ _ _ _ _ h=>⟨_,_,h⟩
def D0.lock:D0->D0
 | .dead=>.dead
 | .live _ cs=>.live true cs
 | .buf _ t l n ver=>.buf true t l n ver
 | .lp _ F n env ps a b s=>.lp true F n env ps a b s
 | .mp _ k t es=>.mp true k t es
theorem sD(e:D0):e.lock.enc=e.enc:=by cases e<;>rfl
structure CR(H H':Aq):Prop where
 len:H.length<=H'.length
 refs: ∀id ver t n,VM H id ver t n->VM H' id ver t n
 ro: ∀(id:Nat) (e:D0),H[id]? =some e->e.ro=true->H'[id]? =some e
 nb: ∀id,id<H.length->(∀t l n ver,H[id]? ≠some (.buf false t l n ver))-> ∀t l n ver,H'[id]? ≠some (.buf false t l n ver)
 lp:LpS H H'
theorem CR.refl(H:Aq):CR H H:=⟨Ao _,λ_ _ _ _ h=>h,λ_ _ h _=>h,λ_ _ h=>h,.refl H⟩
def CR.trans{a b c:Aq}(h:CR a b)(k:CR b c):CR a c:=⟨Dc h.len k.len,λid d t n q=>k.refs id d t n (h.refs id d t n q),λid e q r=>k.ro id e (h.ro id e q r) r,λid q r=>k.nb id (DN q h.len) (h.nb id q r),λid q _ _ _ _ _ _ _ _ r=>by obtain⟨g,i,f⟩:=k.lp id (DN q h.len) _ _ _ _ _ _ _ _ r;exact h.lp id q _ _ _ _ _ _ _ _ f⟩
def CR.leaf(h:CR G b)(k:v.ok G):v.ok b:=by
 cases v with
 |own id a t n=>exact h.refs id a t n k
 |_=>trivial
def CR.lok(h:CR b G)(k:lok b d):lok G d:=λx c=>h.leaf (k x c)
def CR.tv(h:CR b G)(k:e.ok b):e.ok G:=h.lok k
def CR.ent(h:CR b G)(k:D.ok b):D.ok G:=by
 cases D with
 |live H d=>exact h.lok k
 |buf H t l n c=>exact k
 |dead=>trivial
 |lp=>exact k
 |mp=>exact k
def CR.env{H a:Aq}(h:CR H a){env:Bf}(k: ∀p∈env,p.2.ok H): ∀p∈env,p.2.ok a:=λp b=>h.tv (k p b)
theorem CR.push(H:Aq)(e:D0):CR H (H++[e]):=by refine⟨q!,λid g t n h=>⟨by have:=h.1;simp;omega,λro f l d a b=>?_⟩,λid i b hr=>?_,λid c h=>k!,λid c _ _ _ _ _ _ _ _ h=>k!⟩;rw[CT h.1]at b;exact h.2 ro f l d a b;grind
def CR.set{H:Aq}{id:Nat}{r:D0}(o:H[id]? =some D)(hr:D.ro=false)
  (y: ∀ro t l n k,r= .buf ro t l n k-> ∃d v p f,D= .buf d t v p f/\(f<k\/(f=k/\p=n)))
  (B: ∀ro F n env z a b s,r= .lp ro F n env z a b s-> ∃d w,D= .lp d F n env z a b w:=by intro _ _ _ _ _ _ _ _ h;cases h):CR H (H.set id r):=by
 have m:id<H.length:=by rcases Aw id H.length with u|u;exact u;rw[Cj u]at o;cases o
 refine⟨q!,λj k t n h=>⟨by simpa using h.1,λro I l G A g=>?_⟩,λj E g x=>?_,λj g h t l n k i=>?_,λj g _ _ _ _ _ _ _ _ i=>?_⟩;by_cases c:j=id;subst c;rw[H7 m]at g;injection g with g;obtain⟨d,v,p,f,q1,q2⟩:=y _ _ _ _ _ g;subst q1;obtain⟨C,e⟩:=h.2 _ _ _ _ _ o;rcases q2 with q2|⟨rfl,rfl⟩;exact⟨o!,λD=>o!⟩;exact⟨C,e⟩;rw[D8 (λD=>c D.symm)]at g;exact h.2 _ _ _ _ _ g;have c:j≠id:=by rintro rfl;rw[o]at g;injection g with g;subst g;rw[hr]at x;cases x
 rw[D8 (λD=>c D.symm)];exact g;by_cases c:j=id;subst c;rw[H7 m]at i;injection i with i;obtain⟨d,v,p,f,q1,_⟩:=y _ _ _ _ _ i;subst q1;have:d=false:=hr;subst this;exact h _ _ _ _ o;rw[D8 (λD=>c D.symm)]at i;exact h _ _ _ _ i;by_cases c:j=id;subst c;rw[H7 m]at i;injection i with i;obtain⟨d,w,q⟩:=B _ _ _ _ _ _ _ _ i;exact⟨d,w,by rw[o,q]⟩;rw[D8 (λD=>c D.symm)]at i;exact⟨_,_,i⟩
theorem PR{H:Aq}(h: ∀x∈H,x.ok H)(b:D.ok (H++[D])): ∀x∈H++[D],x.ok (H++[D]):=by intro x a;rcases An.1 a with a|a;exact(CR.push H D).ent (h x a);grind
def Ug{H:Aq}{id:Nat}(d:CR H (H.set id D))(h: ∀x∈H,x.ok H)(c:D.ok (H.set id D)): ∀x∈H.set id D,x.ok (H.set id D):=by intro x b;rcases OW b with b|rfl;exact d.ent (h x b);exact c
def Frame(F:List Nat)(H H':Aq):Prop:= ∀j,j<H.length->j∉F->H'[j]? =H[j]?
def Frame.refl(F:List Nat)(H:Aq):Frame F H H:=λ_ _ _=>rfl
def Frame.push(F:List Nat)(H:Aq)(e:D0):Frame F H (H++[e]):=λ_ a _=>CT a
theorem Frame.set{F:List Nat}{H:Aq}{id:Nat}(h:id∈F):Frame F H (H.set id D):=λj _ hn=>D8 λq:id=j=>hn k!
def idT:TV->List Nat
 | .c (.raw a)=>oN a
 | .c (.own id _ _ _)=>[id]
 | .aptr id .. =>[id]
 | .bptr id .. =>[id]
 |_=>[]
theorem AET(v:TV):oN v.enc=idT v:=by
 cases v with
 |c x=>
  cases x with
  |_=>rfl
 |_=>rfl
def Q1(H:Aq)(e:D0):BL (H++[e])=BL H++[e.enc]:=by simp[BL]
theorem Nd(H:Aq)(id:Nat)(e:D0):BL (H.set id e)=(BL H).set id e.enc:=by simp[BL]
theorem Cc(H:Aq):(BL H).length=H.length:=B7 _
section
variable {R:Type}
def storeT(P:Program)(H:Aq)(t:TypeId)(p v:TV)(k:TV->Aq->Option R):Option R:=
 match v.words,tI P t with
 |some ws,some (_,n)=>
  match Nat.beq (ADZ ws) n with
  |false=>none
  |true=>
   match p with
   | .c (.raw (.ptr id 0 off))=>
    match H[id]? with
    |some (.live false cs)=>match ABR cs off ws n with|some cs'=>k Us (H.set id (.live false cs'))|none=>none
    |_=>none
   | .aptr id base m te i off=>
    match H[id]? with
    |some (.live false cs)=>
     match Wb cs base with
     |some (pre,.ar m' te' a::post)=>
      if h:(Ty.arr m' te').beq (Ty.arr m te)=true then
       (Gk (n:=m+1) (Ty.cast h a) i).bind λe=>
        match ABR (te.lvs e) off ws n with
        |some ls=>match te.all ls with|some e'=>k Us (H.set id (.live false (pre++(.ar m te (WF (n:=m+1) (Ty.cast h a) i e')::post))))|none=>none
        |none=>none
      else none
     |_=>none
    |_=>none
   | .bptr id ver te _ i off=>
    match H[id]? with
    |some (.buf false te' l n' ver')=>
     match Nat.beq ver ver' with
     |true=>
      if h:(Ty.list te').beq (Ty.list te)=true then
       (ix (α:=te.D) (Ty.cast h l) i).bind λe=>
        match ABR (te.lvs e) off ws n with
        |some ls=>match te.all ls with|some e'=>k Us (H.set id (.buf false te (FT (α:=te.D) (Ty.cast h l) i e') n' ver'))|none=>none
        |none=>none
      else none
     |false=>none
    |_=>none
   |_=>none
 |_,_=>none
theorem xm{b d:List AZ}(h:N+d.length<=Q.length):WA (i++Q++b) (i.length+N) d=i++WA Q N d++b:=by
 unfold WA;have e:(i++Q++b).take (i.length+N)=i++Q.take N:=by rw[Ax,kg,BR o!,Xh,dL o!]
 have f:(i++Q++b).drop (i.length+N+d.length)=Q.drop (N+d.length)++b:=by grind[List.drop_drop,List.drop_left]
 grind
theorem Tq.set_less{H m n:A0}{f cs':List AZ}(k:N<H.length)(s:m=H.set N (.live U f))(t:n=H.set N (.live U cs'))(o:Dg f cs')(d:x.Later y):Tq x y m n:=by
 subst s t;refine⟨q!,λj p a=>?_⟩;by_cases b:j=N;subst b;rw[H7 k]at a;injection a with a;subst a;refine .inr (.inl ⟨U,f,cs',k!,rfl,o.1,λi l h=>?_⟩);obtain⟨v,q1,q2⟩:=o.2 i l h;exact⟨v,q1,λc r=>q2 _ _ (r.later d)⟩;rw[D8 (λe=>b e.symm)]at a;cases p with
 |live q c0=>exact .inr (.inl ⟨q,c0,c0,k!,rfl,rfl,λi l h=>⟨l,h,λc r=>r.later d⟩⟩)
 |_=>grind
theorem fX(l:Z.length=p.length)(i: ∀(j:Nat) (e:Fl),Z[j]? =some e->e≠ .dead-> ∃a,p[j]? =some a/\a≠ .dead):(cx X h p w).Later (cx X h Z w):={size:=Ao _,keep:=λ_ _ _ _=>rfl,gen:=λ_ _=>Ao _,same:=λ_ _ _=>⟨rfl,rfl⟩,n:=by simp[cx,l],own:=λB _ m=>m.imp _root_.id (λ⟨j,e,k,d,c⟩=>by obtain⟨a,f,g⟩:=i j e k d;exact⟨j,a,f,g,c⟩)}
theorem JE.set_less{N:Nat}{b cs':List AZ}(d:n<p.length)(h:JE P N o s p (C8 u (p.set n (.live U b))))(f:Dg b cs'):JE P N o s p (C8 u (p.set n (.live U cs'))):=by
 refine JE.after h λX e w _=>?_;have a:(cx X e (p.set n (.live U b)) w).Later (cx X e (p.set n (.live U cs')) w):=by grind[fX]
 exact⟨Tq.set_less d rfl rfl f a,λc r=>r.later a⟩
theorem G2{l:List R}{x:R}(h:l[N]? =some x):N<l.length:=k!
variable {P:Program} {N:Nat} {o:Oper} {env:Bf} {H:Aq} {k:TV->Aq->Option R} {r:R}
def nL(P:Program)(N:Nat)(o:Oper)(env:Bf)(H:Aq)(F:List Nat)(k:TV->Aq->Option R)(r:R):Prop:=
 ∃v H',JE P N o (CA env) (BL H) (C8 v.enc (BL H'))/\k v H'=some r/\v.ok H'/\(∀e∈H',e.ok H')/\CR H H'/\Frame F H H'
theorem wC(ok:QH env H)(ho:o.op= .store a c L)(h:storeT P H a (JG env c) (JG env L) k=some r):nL P N o env H (idT (JG env c)) k r:=by
 have W:=K0 env;have a1:(JG env L).ok H:=eT ok.env L;have ao:(JG env c).ok H:=eT ok.env c;unfold storeT at h;split at h;rename_i ws b n hw ht;obtain⟨w1,Z,w3⟩:=YX hw;split at h;cases h;rename_i hn;have f:(lvs ws).length=n:=by grind[dC,Nat.eq_of_beq_eq_true]
 have S:tI P a=some (b,(JG env L).enc.cells.length):=k!
 split at h;rename_i id d G;split at h;rename_i cs u;split at h;rename_i M hs;obtain⟨s1,s2,s3⟩:=jp hs f;have C:(BL H)[id]? =some (.live 0 (lvs cs)):=by rw[FU,u];rfl
 have j:CR H (H.set id (.live false M)):=CR.set u rfl λ_ _ _ _ _ h=>by cases h
 refine⟨Us,_,JE.store ho (id:=id) (g:=0) (off:=d) (v:=(JG env L).enc) (by rw[W,G];rfl) (W L) w1 C S (by rw[Z,f];exact s2) ⟨rfl,?_⟩,h,fm,Ug j ok.heap (j.lok (s3 H (ok.heap _ (BN u)) (w3 H a1))),j,Frame.set (by rw[G];exact BC.2 rfl)⟩;rw[Nd,Z,<-s1];rfl;cases h;cases h;rename_i id A m te i d G;split at h;rename_i cs u;split at h;rename_i w X t x p hs;split at h;rename_i hb;have U:=Ty.beq_eq _ _ hb;injection U with hm T;subst hm T;obtain⟨e,hg,h⟩:=D2.1 h;split at h;rename_i ls R;split at h;rename_i O B;obtain⟨ad,J⟩:=OM hs;obtain⟨s1,s2,_⟩:=jp R f;have s:=Fs B;have q:(Ty.cast hb x:G9 (X+1) t.D)=x:=rfl;rw[q]at hg h;obtain⟨h0,I,rfl,rfl⟩:=nO hg;obtain⟨y,c2,q1,q2,q3⟩:=qi t.E x I;have C:(BL H)[id]? =some (.live 0 (lvs w++y++(t.enc (x I)).cells++(c2++lvs p))):=by rw[FU,u,ad];show some (Fl.live 0 (lvs (w++(.ar X t x::p))))=_;rw[Gq,HY,av,q1];simp only[Ax];rfl
 have j:CR H (H.set id (.live false (w++(.ar X t (WF (n:=X+1) x (I.val:Int) O)::p)))):=CR.set u rfl λ_ _ _ _ _ h=>by cases h
 have al:lok H cs:=ok.heap _ (BN u);rw[ad]at al;obtain⟨o1,o2⟩:=Iz.1 al;refine⟨Us,_,?_,h,fm,Ug j ok.heap (j.lok (Iz.2 ⟨o1,λz hz=>?_⟩)),j,Frame.set (by rw[G];exact BC.2 rfl)⟩;have F:d+(lvs ws).length<=(t.enc (x I)).cells.length:=by rw[f,<-t.lvs_enc];exact s2
 have st:=JE.store (P:=P) (N:=N) (K:=C8 .any ((BL H).set id (.live 0 (WA (lvs w++y++(t.enc (x I)).cells++(c2++lvs p)) (A+(I.val:Int).toNat*t.sz+d) (JG env L).enc.cells)))) ho (id:=id) (g:=0)
  (off:=A+(I.val:Int).toNat*t.sz+d) (v:=(JG env L).enc) (by rw[W,G];rfl) (W L) w1 C S (by rw[Z,f];simp only[Aa,q2,J];have:t.E.sz=t.sz:=rfl;rw[f]at F;simp only[Dd,this];omega) ⟨rfl,rfl⟩
 have ea:A+(I.val:Int).toNat*t.sz+d=(lvs w++y).length+d:=by rw[Aa,J,q2,Dd];rfl
 rw[Z,ea,xm F]at st;have Q:=JE.set_less (cs':=lvs (w++(.ar X t (WF (n:=X+1) x (I.val:Int) O)::p))) (by rw[Cc];exact G2 u) st (by rw[Gq,HY,av,q3 O];simp only[Ax];refine(Dg.refl _).append ((Dg.refl _).append (Dg.append ?_ (Dg.refl _)));rw[<-t.lvs_enc,<-s1];exact s);rw[Nd];exact Q;rcases Au.1 hz with rfl|hz;trivial;exact o2 z (by simp[hz]);cases h;cases h;cases h;cases h;cases h;rename_i id V te nn i d G;split at h;rename_i t l Y a2 u;split at h;rename_i hv;have a0:=Db hv;subst a0;split at h;rename_i hb;have U:=Ty.beq_eq _ _ hb;injection U with T;subst T;obtain⟨e,hg,h⟩:=D2.1 h;split at h;rename_i ls R;split at h;rename_i O B;obtain⟨s1,s2,_⟩:=jp R f;have s:=Fs B;have q:(Ty.cast hb l:List t.D)=l:=rfl;rw[q]at hg h;obtain⟨y,c2,q1,q2,q3,q4,_,q5⟩:=qx t.E hg;have hr:VM H id V t nn:=by rw[G]at ao;exact ao (.own id V t nn) (by simp[TV.refs])
 obtain⟨_,ax⟩:=hr.2 _ _ _ _ _ u;obtain⟨_,rfl⟩:=ax rfl;have ap:Y=l.length:=ok.heap _ (BN u);have C:(BL H)[id]? =some (.live Y (y++(t.enc e).cells++c2)):=by rw[FU,u];show some (Fl.live Y (t.E.cl l))=_;rw[q1];rfl
 have j:CR H (H.set id (.buf false t (FT l i O) Y V)):=CR.set u rfl λ_ _ _ _ _ h=>by cases h;exact⟨_,_,_,_,rfl,.inr ⟨rfl,rfl⟩⟩
 refine⟨Us,_,?_,h,fm,Ug j ok.heap ((sF ap.symm).symm),j,Frame.set (by rw[G];exact BC.2 rfl)⟩;have F:d+(lvs ws).length<=(t.enc e).cells.length:=by rw[f,<-t.lvs_enc];exact s2
 have st:=JE.store (P:=P) (N:=N) (K:=C8 .any ((BL H).set id (.live Y (WA (y++(t.enc e).cells++c2) (i.toNat*t.sz+d) (JG env L).enc.cells)))) ho (id:=id) (g:=Y)
  (off:=i.toNat*t.sz+d) (v:=(JG env L).enc) (by rw[W,G];rfl) (W L) w1 C S (by rw[Z,f];simp only[Aa,q2];have:t.E.sz=t.sz:=rfl;rw[f]at F;rw[this];omega) ⟨rfl,rfl⟩
 have ea:i.toNat*t.sz+d=y.length+d:=by rw[q2];rfl
 rw[Z,ea,xm F]at st;have Q:=JE.set_less (cs':=t.E.cl (FT l i O)) (by rw[Cc];exact G2 u) st (by unfold FT;rw[q5 O];refine Dg.append (Dg.append (Dg.refl _) ?_) (Dg.refl _);rw[<-t.lvs_enc,<-s1];exact s);rw[Nd];exact Q;cases h;cases h;cases h;cases h;cases h;cases h;cases h
end
section
variable {R:Type}
def yG(P:Program)(H:Aq)(t:TypeId)(k:TV->Aq->Option R):Option R:=
 match su P t with
 |some z=>k (.c (.raw (.ptr H.length 0 0))) (H++[.live false z])
 |none=>none
def ADz(H:Aq)(v:TV)(k:TV->Aq->Option R):Option R:=
 match v.words with
 |some ws=>k (.c (.raw (.ptr H.length 0 0))) (H++[.live false ws])
 |none=>none
def kP(t:Ty):List TV->Option (List t.D)
 |[]=>some []
 |v::r=>match t.data v,kP t r with|some x,some xs=>some (x::xs)|_,_=>none
def elT(P:Program)(t:TypeId):Option Ty:=
 match eI P t with
 |some (none,e,sz)=>
  match zT P 1000 e with
  |some te=>if sz=te.sz/\Rj P e=true then some te else none
  |none=>none
 |_=>none
def fb(len:Nat)(te:Ty)(parts:Array (Nat×Operand))(vs:List TV):Bool:=
 decide (parts.toList.map (·.1)=List.range len)&&(vs.all λv=>match v.words with|some ws=>Nat.beq (ADZ ws) te.sz|none=>false)&&Nat.ble len 4096&&Nat.ble te.sz 4096
def Y7(P:Program)(env:Bf)(H:Aq)(t:TypeId)(len:Nat)(parts:Array (Nat×Operand))(k:TV->Aq->Option R):Option R:=
 match elT P t with
 |some te=>
  match fb len te parts (parts.toList.map λp=>JG env p.2)with
  |true=>match kP te (parts.toList.map λp=>JG env p.2)with|some xs=>k (.c (.own H.length 0 te xs.length)) (H++[.buf false te xs xs.length 0])|none=>none
  |false=>none
 |none=>none
def o0(P:Program)(env:Bf)(t:TypeId)(len:Nat)(parts:Array (Nat×Operand))(k:TV->Option R):Option R:=
 match elT P t with
 |some te=>
  match fb len te parts (parts.toList.map λp=>JG env p.2)with
  |true=>match kP te (parts.toList.map λp=>JG env p.2)with|some xs=>k (.c (.ls te xs))|none=>none
  |false=>none
 |none=>none
def fY(P:Program)(H:Aq)(t:TypeId)(x y:TV)(k:TV->Aq->Option R):Option R:=
 match eI P t,x,y with
 |some (none,e,_),.c (.it _ l),.c (.it _ c)=>
  match elT P t,su P e with
  |some te,some z=>match te.all z with|some zd=>(mk zd l c).bind λr=>k (.c (.own H.length 0 te r.length)) (H++[.buf false te r r.length 0])|none=>none
  |_,_=>none
 |_,_,_=>none
def sn(P:Program)(H:Aq)(src dst:TypeId)(x:TV)(k:TV->Aq->Option R):Option R:=
 match P.underlying src,P.underlying dst,x with
 |some _,some (.slice e),.c (.st s)=>
  match P.underlying e with
  |some (.int .u8)=>k (.c (.own H.length 0 (.int .u8) (Sh s).length)) (H++[.buf false (.int .u8) (Sh s) (Sh s).length 0])
  |_=>none
 |_,_,_=>none
def ADF(H:Aq)(te:Ty)(v:TV):Option (List te.D):=
 match v with
 | .c (.ls te' l)=>if h:(Ty.list te').beq (Ty.list te)=true then some (Ty.cast h l)else none
 | .c (.own id ver te' _)=>if h:(Ty.list te').beq (Ty.list te)=true then(match gj H id ver te' with|some l=>some (Ty.cast (t:=.list te') (t':=.list te) h l)|none=>none)else none
 | .c .nil=>some []
 |_=>none
def py(P:Program)(H:Aq)(t:TypeId)(s x:TV)(k:TV->Aq->Option R):Option R:=
 match elT P t with
 |some te=>
  match ADF H te x with
  |some xs=>
   match s with
   | .c .nil=>(app [] xs).bind λr=>k (.c (.own H.length 0 te r.length)) (H++[.buf false te r r.length 0])
   | .c (.own id ver te' _)=>
    match H[id]? with
    |some (.buf false t2 l _ ver')=>
     match Nat.beq ver ver' with
     |true=>
      if h:(Ty.list t2).beq (Ty.list te)=true/\(Ty.list te').beq (Ty.list te)=true then
       (app (α:=te.D) (Ty.cast h.1 l) xs).bind λr=>k (.c (.own id (ver+1) te r.length)) (H.set id (.buf false te r r.length (ver+1)))
      else none
     |false=>none
    |_=>none
   |_=>none
  |none=>none
 |none=>none
variable {P:Program} {N:Nat} {o:Oper} {env:Bf} {H:Aq} {k:TV->Aq->Option R} {r:R}
theorem sL{H:Aq}{l:List t.D}:(TV.c (.own H.length N t l.length)).ok (H++[.buf A t l l.length N]):=by refine Js ⟨q!,λd h f g b e=>?_⟩;grind
def qG(H:Aq)(b:Ty)(n a:Nat):(TV.c (.own H.length a b n)).enc= .sl (BL H).length n b.sz 0 n:=by rw[Cc];rfl
def u5(ok:QH env H)(b:o.op= .alloc a)(h:yG P H a k=some r):nL P N o env H [] k r:=by
 unfold yG at h;split at h;rename_i z d;obtain⟨e,f⟩:=Ya d;refine⟨_,_,?_,h,Js trivial,PR ok.heap (f _),CR.push _ _,Frame.push _ _ _⟩;have t:(TV.c (.raw (.ptr H.length 0 0))).enc= .ptr (BL H).length 0 0:=by rw[Cc];rfl
 rw[t,Q1];exact JE.alloc b e ⟨rfl,rfl⟩;cases h
def yM(ok:QH env H)(b:o.op= .box a c)(h:ADz H (JG env c) k=some r):nL P N o env H [] k r:=by
 unfold ADz at h;split at h;rename_i i d;obtain⟨e,f,g⟩:=YX d;refine⟨_,_,?_,h,Js trivial,PR ok.heap ((CR.push _ _).lok (g H (eT ok.env c))),CR.push _ _,Frame.push _ _ _⟩;have t:(TV.c (.raw (.ptr H.length 0 0))).enc= .ptr (BL H).length 0 0:=by rw[Cc];rfl
 rw[t,Q1];exact JE.box b (K0 env c) e ⟨rfl,by rw[f];rfl⟩;cases h
def lI{t:Ty}: ∀{b:List TV} {a:List t.D},kP t b=some a->Dg (b.map TV.enc) (a.map t.enc)
 |[],a,h=>by simp only[kP,Am]at h;subst h;exact Dg.refl _
 |v::r,a,h=>by simp only[kP]at h;split at h;rename_i x e c d;injection h with h;subst h;have:=lI d;exact(Dg.one (L7 c)).append this;cases h
def iL{t:Ty}: ∀{e:List TV} {b:List t.D},kP t e=some b->Dg ((e.map TV.enc).flatMap AZ.cells) (t.E.cl b)
 |[],b,h=>by simp only[kP,Am]at h;subst h;exact Dg.refl _
 |v::r,b,h=>by simp only[kP]at h;split at h;rename_i x k a g;injection h with h;subst h;have i:=iL g;refine Dg.append ?_ i;unfold Ty.data at a;split at a;rename_i y;split at a;cases a;rename_i d;simp at d;have c:=Fs a;rw[HY,L6 d.2,<-Bu.scalar_cells d.2]at c;have f:lvs ([]:List Bu)=[]:=rfl;rw[f,C0]at c;exact c;rename_i j;split at a;exact Fs a;cases a;cases a;cases h
theorem iM(h:elT P a=some t): ∃e,eI P a=some (none,e,t.sz)/\Rj P e=true:=by grind[elT]
theorem sR(h:elT P a=some t)(c:fb N t E (E.toList.map λp=>JG env p.2)=true):
  SZ P (CA env) a N E=some (t.sz,(E.toList.map λp=>JG env p.2).map TV.enc):=by
 obtain⟨e,k,l⟩:=iM h;unfold fb at c;simp only[BW,decide_eq_true_eq]at c;obtain⟨⟨⟨f,g⟩,i⟩,j⟩:=c;have d:(E.toList.map λp=>BM (CA env) p.2)=(E.toList.map λp=>JG env p.2).map TV.enc:=by grind[List.map_congr_left,K0]
 unfold SZ;simp only[k,d];refine if_pos ⟨t.sz_pos,l,f,?_,OX i,OX j⟩;rw[GB];intro v n;obtain⟨u,m,rfl⟩:=Bv.1 n;have:=GB.1 g u m;split at this<;>simp_all[YX,dC]
theorem AAr{b:List t.D}(h:kP t m=some b):b.length=m.length:=by have:=(lI h).1;grind
theorem Tq.push_less{H:A0}(n:Dg i Q)(d:x.Later y):Tq x y (H++[.live N i]) (H++[.live N Q]):=by
 refine⟨q!,λj o e=>?_⟩;rcases Aw j H.length with b|b;rw[CT b]at e;cases o with
 |live p c0=>exact .inr (.inl ⟨p,c0,c0,k!,rfl,rfl,λg m h=>⟨m,h,λc r=>r.later d⟩⟩)
 |_=>grind
 have k:=G2 e;simp at k;have l:j=H.length:=o!
 subst l;simp at e;subst e;refine .inr (.inl ⟨N,i,Q,q!,rfl,n.1,λg m h=>?_⟩);obtain⟨v,q1,q2⟩:=n.2 g m h;exact⟨v,q1,λc r=>q2 _ _ (r.later d)⟩
theorem JE.push_less(h:JE P N o s p (C8 u (p++[.live n i])))(E:Dg i Q):JE P N o s p (C8 u (p++[.live n Q])):=by
 refine JE.after h λX f w _=>?_;have b:(cx X f (p++[.live n i]) w).Later (cx X f (p++[.live n Q]) w):=by refine fX q! λj e l k=>?_;grind
 exact⟨Tq.push_less E b,λc r=>r.later b⟩
def mD(ok:QH env H)(f:o.op= .buildSlice a n E)(h:Y7 P env H a n E k=some r):nL P N o env H [] k r:=by unfold Y7 at h;split at h;rename_i i d;split at h;rename_i g;split at h;rename_i j c;have e:=sR d g;have b:=AAr c;refine⟨_,_,?_,h,sL,PR ok.heap rfl,CR.push _ _,Frame.push _ _ _⟩;rw[qG,Q1];have:=TO (N:=N) (H:=BL H) (K:=C8 _ _) f e ⟨rfl,rfl⟩;rw[B7,<-b]at this;exact JE.push_less this (iL c);cases h;cases h;cases h
theorem AFC{a:Ty}{vs:List AZ}{l:List a.D}(h:Dg vs (l.map a.enc))(I:Dg (vs.flatMap AZ.cells) (a.E.cl l))(z: ∀v∈vs,v.cells.length=a.sz):Wn (.vs a.sz vs) (.vs a.sz (l.map a.enc)):=by
 intro x c L;cases L with
 |vs f t o w C p=>
  have hn:(l.map a.enc).length=vs.length:=h.1;rw[<-hn];have key: ∀(j:Nat) (e:AZ) (i:Nat) (v:AZ),(l.map a.enc)[j]? =some e->e.cells[i]? =some v-> ∃b k,vs[j]? =some b/\b.cells[i]? =some k/\Wn k v:=by
   intro j e i v d m;obtain⟨b,q1,_⟩:=h.2 j e d;have g: ∀u∈l.map a.enc,u.cells.length=a.sz:=λu J=>by obtain⟨y,_,rfl⟩:=Bv.1 J;exact a.enc_len y
   have A:=mb g j e i v d m;obtain⟨k,r,s⟩:=I.2 _ v A;have H:i<a.sz:=by grind
   have F:=z b (BN q1);have G:b.cells[i]? =some (b.cells[i]'(by omega)):=As (by omega);have M:=mb z j b i _ q1 G;grind
  refine Br.vs f (by grind) o (λj e d=>?_) (λn=>?_) λj e i v d m=>?_;obtain⟨y,_,rfl⟩:=Bv.1 (BN d);exact a.enc_len y;obtain⟨B,q,q1,q2,q3,q4⟩:=C (λe=>n (EZ (by grind)));refine⟨B,q,q1,q2,q3,λj e i v d m=>?_⟩;obtain⟨b,k,r,s,_⟩:=key j e i v d m;grind;obtain⟨b,k,r,s,K⟩:=key j e i v d m;exact K _ _ (p j b i k r s)
def oS(ok:QH env H)(s:o.op= .makeSlice a c L)(h:fY P H a (JG env c) (JG env L) k=some r):nL P N o env H [] k r:=by
 have i:=K0 env;unfold fY at h;split at h;rename_i e sz Q l O t j v w;split at h;rename_i b z d A;split at h;rename_i y f;obtain⟨I,q,h⟩:=D2.1 h;obtain⟨M,m,u⟩:=iM d;rw[j]at m;obtain⟨rfl,rfl⟩:=m;obtain⟨J,R⟩:=Ya A;have x:=Fs f;obtain⟨⟨C,D,F⟩,p,G⟩:=AIN b.E y q;refine⟨_,_,?_,h,sL,PR ok.heap rfl,CR.push _ _,Frame.push _ _ _⟩;rw[qG,Q1];have g:(lvs z).length=b.sz:=by rw[<-x.1,b.enc_len]
 have:=JE.makeSlice (N:=N) (H:=BL H) (K:=C8 _ _) s j b.sz_pos u J g (by rw[i,v];rfl) (by rw[i,w];rfl) C D F ⟨rfl,rfl⟩;rw[p]at this;apply JE.push_less this;rw[<-G,p];induction I.length with
 |zero=>exact Dg.refl _
 |succ n B=>exact Dg.append x B
 cases h;cases h;cases h
def so(ok:QH env H)(j:o.op= .convert I a c)(h:sn P H I a (JG env c) k=some r):nL P N o env H [] k r:=by have f:=K0 env;unfold sn at h;split at h;rename_i u e s l g m;split at h;rename_i i;refine⟨_,_,?_,h,sL,PR ok.heap rfl,CR.push _ _,Frame.push _ _ _⟩;rw[qG,Q1];obtain⟨b,d⟩:=AHH s;have:=oE (N:=N) (H:=BL H) (K:=C8 _ _) j l g i (by rw[f,m];rfl) ⟨rfl,rfl⟩;rw[d,b]at this;exact this;cases h;cases h
theorem zG{f:List t.D}(k: ∀d∈H,d.ok H)(p:e.ok H)(h:ADF H t e=some f):NV (BL H) t.sz e.enc=some (f.length,t.E.cl f):=by unfold ADF at h;split at h;rename_i a l;split at h;rename_i g;have c:=Ty.beq_eq _ _ g;injection c with b;subst b;injection h with h;have j:=h;subst j;simp only[TV.enc,Bu.one,NV,B7];rfl;cases h;rename_i id i a n;split at h;rename_i g;have c:=Ty.beq_eq _ _ g;injection c with b;subst b;split at h;rename_i l m;injection h with h;have j:l=f:=h;obtain⟨q,r⟩:=mC k (p (.own id i a n) (by simp[TV.refs])) m;have s:=a.E.clen l;have o:a.E.sz=a.sz:=rfl;grind[TV.enc,Bu.one,NV];cases h;cases h;injection h with h;subst h;rfl;cases h
theorem tC(ok:QH env H)(R:o.op= .call {callee:=.builtin .append,args:= #[c,L],argTypes:= #[a,I]})(Y:a=I)(h:py P H a (JG env c) (JG env L) k=some r):nL P N o env H (idT (JG env c)) k r:=by
 subst Y;have x:=K0 env;unfold py at h;split at h;rename_i te C;obtain⟨e,Q,S⟩:=iM C;split at h;rename_i w M;have v:=zG ok.heap (eT ok.env L) M;rw[<-x]at v;split at h;rename_i b;obtain⟨l,u,X⟩:=D2.1 h;obtain⟨W,j⟩:=lz u;rw[Bw]at j;subst j;refine⟨_,_,?_,X,sL,PR ok.heap rfl,CR.push _ _,Frame.push _ _ _⟩;rw[qG,Q1];have:=bu (N:=N) (H:=BL H) (K:=C8 _ _) R Q te.sz_pos S (by rw[x,b];rfl) v k! ⟨rfl,rfl⟩;exact this;rename_i id g al n b;split at h;rename_i d l J T t;split at h;rename_i Z;have G:=Db Z;subst G;split at h;rename_i y;have F:=Ty.beq_eq _ _ y.1;injection F with p;have s:=Ty.beq_eq _ _ y.2;injection s with q;subst q;subst p;obtain⟨l2,u,h⟩:=D2.1 h;have f:(Ty.cast y.1 l:List d.D)=l:=rfl;rw[f]at u;obtain⟨W,rfl⟩:=lz u;have hr:VM H id g d n:=by have:=eT ok.env c;rw[b]at this;exact this (.own id g d n) (by simp[TV.refs])
 obtain⟨_,A⟩:=hr.2 _ _ _ _ _ t;obtain⟨_,rfl⟩:=A rfl;have z:J=l.length:=ok.heap _ (BN t);have i:(BL H)[id]? =some (.live J (d.E.cl l)):=by rw[FU,t];rfl
 have m:CR H (H.set id (.buf false d (l++w) (l++w).length (g+1))):=CR.set t rfl λ_ _ _ _ _ h=>by cases h;exact⟨_,_,_,_,rfl,.inl (Nat.lt_succ_self _)⟩
 refine⟨_,_,?_,h,Js ⟨k!,λad I l' n2 U hg=>?_⟩,Ug m ok.heap rfl,m,Frame.set (by rw[b];exact BC.2 rfl)⟩;have O:=d.E.clen l;have B:d.E.sz=d.sz:=rfl;rw[B]at O;have:=Rg (N:=N) (H:=BL H) (g':=J+w.length) (K:=C8 _ _) R Q d.sz_pos S (by rw[x,b];rfl) i (by rw[O,z]) v k! (by rcases VU w.length with V|V;grind;exact .inl o!) ⟨rfl,rfl⟩;grind[Nd,List.length_append,Tu.cl,TV.enc,Bu.one,D0.enc];grind;cases h;cases h;cases h;cases h;cases h;cases h
end
def NK(id ver:Nat)(t:Ty)(l:List t.D):Bu->Bu
 | .own id' ver' t' n=>match Nat.beq id id'&&Nat.beq ver ver' with|true=>.ls t l|false=>.own id' ver' t' n
 |x=>x
mutual
def mj(id ver:Nat)(t:Ty)(l:List t.D):TV->TV
 | .c x=>.c (NK id ver t l x)
 | .g cs=>.g (cs.map (NK id ver t l))
 | .tup vs=>.tup (eW id ver t l vs)
 | .aptr a b n te i o=>.aptr a b n te i o
 | .bptr a v te n i o=>.bptr a v te n i o
 | .vptr cs post=>.vptr cs post
def eW(id ver:Nat)(t:Ty)(l:List t.D):List TV->List TV
 |[]=>[]
 |v::r=>mj id ver t l v::eW id ver t l r
end
def QQ(id ver:Nat)(t:Ty)(l:List t.D):D0->D0
 | .live false cs=>.live false (cs.map (NK id ver t l))
 |e=>e
def frz(id:Nat)(env:Bf)(H:Aq):Option (Bf×Aq):=
 match H[id]? with
 |some (.buf false t l _ ver)=>some (env.map λp=>(p.1,mj id ver t l p.2),(H.map (QQ id ver t l)).set id .dead)
 |_=>none
def S4(x y:Cx)(a b:List AZ):Prop:=b.length=a.length/\ ∀(i:Nat) (v':AZ),b[i]? =some v'-> ∃v,a[i]? =some v/\Conv x y v v'
theorem S4.append{b f:List AZ}(c:S4 x y i Q)(g:S4 x y b f):S4 x y (i++b) (Q++f):=by refine⟨by simp[c.1,g.1],λa j h=>?_⟩;rcases Aw a Q.length with d|d;rw[CT d]at h;obtain⟨v,q1,q2⟩:=c.2 a j h;grind;rw[Ch d]at h;obtain⟨v,q1,q2⟩:=g.2 _ j h;exact⟨v,by rw[Ch (by rw[<-c.1];exact d),<-c.1];exact q1,q2⟩
def S4.later{x y:Cx}(l:x.Later y)(a:List AZ):S4 x y a a:=⟨rfl,λ_ v h=>⟨v,h,λ_ r=>r.later l⟩⟩
theorem S4.one{b:AZ}(h:Conv x y u b):S4 x y [u] [b]:=⟨rfl,λi v a=>by
 match i,a with
 |0,a=>grind
 |i+1,a=>simp at a⟩
def S4.agg{x y:Cx}{b a:List AZ}(h:S4 x y b a):Conv x y (.agg b) (.agg a):=by
 intro c r;cases r with
 |agg i e hr=>refine .agg (by rw[i,h.1]) e λj k d g f=>?_;obtain⟨v,q1,q2⟩:=h.2 j k g;exact q2 _ (hr j v d q1 f)
def S4.tup{x y:Cx}{b a:List AZ}(h:S4 x y b a):Conv x y (.tup b) (.tup a):=by
 intro c r;cases r with
 |tup g hr=>refine .tup (by rw[g,h.1]) λj i d f e=>?_;obtain⟨v,q1,q2⟩:=h.2 j i f;exact q2 _ (hr j v d q1 e)
section
variable {x y:Cx} {H:Aq} {id n ver:Nat} {t:Ty} {l:List t.D} (lat:x.Later y) (hid:H[id]? =some (.buf false t l n ver)) (hc:Conv x y (.sl id n t.sz 0 n) (.vs t.sz (l.map t.enc)))
include lat hid hc
theorem mh(e:v.ok H):S4 x y v.enc (NK id ver t l v).enc/\Conv x y v.one (NK id ver t l v).one:=by
 have same: ∀w:Bu,S4 x y w.enc w.enc/\Conv x y w.one w.one:=λw=>⟨.later lat _,λ_ r=>r.later lat⟩
 cases v with
 |own f b h g=>simp only[NK];split;rename_i a;simp only[BW]at a;have c:=Db a.1;have d:=Db a.2;subst c d;obtain⟨_,q⟩:=e.2 _ _ _ _ _ hid;obtain⟨rfl,rfl⟩:=q rfl;exact⟨.one hc,hc⟩;grind
 |_=>exact same _
def oH: ∀{a:List Bu},lok H a->S4 x y (lvs a) (lvs (a.map (NK id ver t l)))
 |[],_=>.later lat _
 |z::r,h=>by rw[Bi,HY,HY];exact(mh lat hid hc (h z q!)).1.append (oH λw b=>h w (by simp[b]))
mutual
theorem rQ: ∀{v:TV},v.ok H->Conv x y v.enc (mj id ver t l v).enc
 | .c z,h=>(mh lat hid hc (h z (by simp[TV.refs]))).2
 | .g cs,h=>(oH lat hid hc h).agg
 | .tup vs,h=>S4.tup (pJ (vs:=vs) h)
 | .aptr ..,_=>λ_ r=>r.later lat
 | .bptr ..,_=>λ_ r=>r.later lat
 | .vptr ..,_=>λ_ r=>r.later lat
theorem pJ: ∀{vs:List TV},(TV.tup vs).ok H->S4 x y (TV.encL vs) (TV.encL (eW id ver t l vs))
 |[],_=>.later lat _
 |v::r,h=>by simp only[TV.encL,eW];have a:v.ok H:=oX h q!;have b:(TV.tup r).ok H:=Q7 λw c=>oX h (by simp[c]);exact(S4.one (rQ a)).append (pJ b)
end
end
def rP{l:List t.D}(c:CR G b)(d:v.ok G):(NK N n t l v).ok b:=by
 cases v with
 |own f e h g=>simp only[NK];split;trivial;exact c.leaf d
 |_=>exact c.leaf d
def zu{l:List t.D}(H:CR G b)(h:lok G d):lok b (d.map (NK N n t l)):=λz f=>by obtain⟨w,e,rfl⟩:=Bv.1 f;exact rP H (h w e)
mutual
theorem wy{H d:Aq}{id b:Nat}{t:Ty}{l:List t.D}(a:CR H d): ∀{v:TV},v.ok H->(mj id b t l v).ok d
 | .c z,h=>Js (rP a (h z (by simp[TV.refs])))
 | .g cs,h=>zu a h
 | .tup vs,h=>uH a h
 | .aptr ..,h=>a.lok h
 | .bptr ..,h=>a.lok h
 | .vptr ..,h=>a.lok h
theorem uH{H c:Aq}{id b:Nat}{t:Ty}{l:List t.D}(d:CR H c): ∀{e:List TV},(TV.tup e).ok H->(TV.tup (eW id b t l e)).ok c
 |[],_=>λz i=>by simp[eW,TV.refs,TV.refsL]at i
 |v::r,h=>by have f:v.ok H:=oX h q!;have g:(TV.tup r).ok H:=Q7 λw a=>oX h (by simp[a]);refine Q7 λw a=>?_;simp only[eW]at a;rcases Au.1 a with rfl|a;exact wy d f;exact oX (uH d g) a
end
theorem ACU{l:List t.D}(f:b[N]? =some (.buf false t l n U)):CR b ((b.map (QQ N U t l)).set N .dead):=by
 have s:=G2 f;refine⟨q!,λj y x v h=>⟨by simpa using h.1,λro K E F u c=>?_⟩,λj e c hr=>?_,λj m h x l2 v y a=>?_,λj m _ _ _ _ _ _ _ _ a=>?_⟩;by_cases d:j=N;grind;rw[D8 (λe=>d e.symm),CM]at c;cases a:b[j]? with
 |none=>grind
 |some e=>
  rw[a]at c;simp only[Bo,Am]at c;cases e with
  |live H k=>cases H<;>simp[QQ]at c
  |dead=>cases c
  |lp=>cases c
  |mp=>cases c
  |buf H q o p r=>simp only[QQ]at c;exact h.2 _ _ _ _ _ (by rw[a,c])
 have d:j≠N:=by rintro rfl;rw[f]at c;injection c with c;subst c;cases hr
 rw[D8 (λe=>d e.symm),CM,c];cases e with
 |live H k=>cases H with|true=>rfl|false=>cases hr
 |dead=>cases hr
 |buf H q o p r=>rfl
 |lp=>rfl
 |mp=>rfl
 by_cases d:j=N;grind;rw[D8 (λe=>d e.symm),CM]at a;cases g:b[j]? with
 |none=>rw[g]at a;cases a
 |some e=>
  rw[g]at a;simp only[Bo,Am]at a;cases e with
  |live H k=>cases H<;>simp[QQ]at a
  |dead=>cases a
  |lp=>cases a
  |mp=>cases a
  |buf H q o p r=>grind[QQ]
 by_cases d:j=N;grind[List.getElem?_set_self];rw[D8 (λe=>d e.symm),CM]at a;cases g:b[j]? with
 |none=>rw[g]at a;cases a
 |some e=>
  rw[g]at a;simp only[Bo,Am]at a;cases e with
  |live H k=>cases H<;>simp[QQ]at a
  |dead=>cases a
  |buf H q o p r=>cases a
  |mp=>cases a
  |lp w z G C I A B J=>injection a with _ q2 q3 q4 q5 q6 q7 _;subst q2 q3 q4 q5 q6 q7;exact⟨_,_,rfl⟩
theorem AGB{id:Nat}{env env2:Bf}{H K:Aq}(ok:QH env H)(h:frz id env H=some (env2,K)):QH env2 K/\CR H K/\ ∀N,GF N (BL H).length (CA env) (BL H) (CA env2) (BL K):=by
 unfold frz at h;split at h;rename_i t l n i d;simp only[Am,EY]at h;obtain⟨rfl,rfl⟩:=h;have G:=G2 d;have A:=ACU d;have hn:n=l.length:=ok.heap _ (BN d);refine⟨⟨λp M=>?_,λe R=>?_⟩,A,λN=>?_⟩;obtain⟨q,z,rfl⟩:=Bv.1 M;exact wy A (ok.env q z);rcases OW R with R|rfl;obtain⟨k,S,rfl⟩:=Bv.1 R;have F:=ok.heap k S;cases k with
 |live b D=>
  cases b with
  |true=>exact A.lok F
  |false=>exact zu A F
 |dead=>trivial
 |buf b Q P T U=>exact F
 |lp=>exact F
 |mp=>exact F
 trivial;have u:(BL H)[id]? =some (.live n (t.E.cl l)):=by rw[FU,d];rfl
 refine Vm (by simp[BL]) λX g w s=>?_;have C: ∀j,(BL ((H.map (QQ id i t l)).set id .dead))[j]? =if j=id then some .dead else(H[j]?).map λe=>(QQ id i t l e).enc:=by intro j;rw[FU];by_cases v:j=id;subst v;rw[if_pos rfl,H7 (by simpa using G)];rfl;grind
 have back: ∀(j:Nat) (e:Fl),(BL ((H.map (QQ id i t l)).set id .dead))[j]? =some e->e≠ .dead->j≠id/\ ∃k,(BL H)[j]? =some k/\k≠ .dead:=by
  intro j e a f;rw[C]at a;split at a;injection a with a;exact(f a.symm).elim;rename_i v;refine⟨v,?_⟩;cases z:H[j]? with
  |none=>rw[z]at a;cases a
  |some k=>
   refine⟨k.enc,by rw[FU,z];rfl,λL=>f ?_⟩;rw[z]at a;simp only[Bo,Am]at a;cases k with
   |live b D=>simp[D0.enc]at L
   |dead=>exact a.symm
   |buf b Q P T U=>simp[D0.enc]at L
   |lp=>simp[D0.enc]at L
   |mp=>simp[D0.enc]at L
 have y:(cx X g (BL H) w).Later (cx X g (BL ((H.map (QQ id i t l)).set id .dead)) w):=fX (by simp[BL]) λj e a f=>(back j e a f).2;have hO: ∀B,g.io id=some B-> ¬(cx X g (BL ((H.map (QQ id i t l)).set id .dead)) w).O B:=by rintro B I (hX|⟨j,e,a,f,J⟩);exact(s.out B hX).2 ⟨id,_,u,q!,I⟩;obtain⟨v,k,Y,Z⟩:=back j e a f;exact v (s.inj j id _ _ B Y u Z q! J I)
 have o:Conv (cx X g (BL H) w) (cx X g (BL ((H.map (QQ id i t l)).set id .dead)) w) (.sl id n t.sz 0 n) (.vs t.sz (l.map t.enc)):=λc r=>Br.froze s u (AGK t.E l) (by rw[hn];exact B7 _) y rfl hO r;refine⟨⟨by simp[BL],λj e' a=>?_⟩,λtt v' m=>?_⟩;rw[C]at a;split at a;injection a with a;exact .inl a.symm;cases z:H[j]? with
 |none=>rw[z]at a;cases a
 |some k=>
  rw[z]at a;simp only[Bo,Am]at a;have x:(BL H)[j]? =some k.enc:=by rw[FU,z];rfl
  cases k with
  |live b D=>
   refine .inr (.inl ?_);cases b with
   |true=>simp only[QQ,D0.enc]at a;exact⟨0,lvs D,lvs D,x,a.symm,rfl,(S4.later y _).2⟩
   |false=>simp only[QQ,D0.enc]at a;obtain⟨V,W⟩:=oH y d o (ok.heap _ (BN z));exact⟨0,lvs D,_,x,a.symm,V,W⟩
  |dead=>exact .inl a.symm
  |buf b Q P T U=>simp only[QQ,D0.enc]at a;exact .inr (.inl ⟨T,Q.E.cl P,Q.E.cl P,x,a.symm,rfl,(S4.later y _).2⟩)
  |lp=>subst a;exact .inr (.inr ⟨x,λ_ _ h=>by cases h⟩)
  |mp=>subst a;exact .inr (.inr ⟨x,λ_ _ h=>by cases h⟩)
 simp only[CA,Mh,Bv]at m;obtain⟨p,M,e⟩:=m;simp only[Function.comp,EY]at e;obtain⟨rfl,rfl⟩:=e;exact⟨p.2.enc,Bv.2 ⟨p,M,rfl⟩,rQ y d o (ok.env p M)⟩;cases h
@[reducible] def DL:List Ty->Type
 |[]=>Unit
 |[t]=>t.D
 |t::u::r=>t.D×DL (u::r)
def inp:(ts:List Ty)->List TV->Option (DL ts)
 |[],[]=>some ()
 |[t],[v]=>t.data v
 |t::u::r,v::vs=>
  match t.data v,inp (u::r) vs with
  |some x,some y=>some (x,y)
  |_,_=>none
 |_,_=>none
def wF:(ts:List Ty)->DL ts->List TV
 |[],_=>[]
 |[t],x=>[t.tv x]
 |t::u::r,x=>t.tv x.1::wF (u::r) x.2
def kv:(ts:List Ty)->DL ts->List AZ
 |[],_=>[]
 |[t],x=>[t.enc x]
 |t::u::r,x=>t.enc x.1::kv (u::r) x.2
def one:List TV->TV
 |[v]=>v
 |vs=>.tup vs
def oY:List AZ->AZ
 |[v]=>v
 |vs=>.tup vs
def Kx(bt:Ty):(rs:List Ty)->DL (rs++[bt])->DL rs×bt.D
 |[],y=>((),y)
 |[_],y=>(y.1,y.2)
 |_::u::r,y=>((y.1,(Kx bt (u::r) y.2).1),(Kx bt (u::r) y.2).2)
inductive S5 where
 |c2 (f:FuncId) (te:Ty) (ds rs:List Ty) (post:List AZ) (g:List te.D->DL ds->Option (DL (rs++[.list te])))
 |cl (f:FuncId) (t:Ty)
 |c0 (f:FuncId) (ds rs:List Ty) (g:DL ds->Option (DL rs))
 |c1 (f:FuncId) (pos:Nat) (bt:Ty) (ds rs:List Ty) (g:bt.D->DL ds->Option (DL (rs++[bt])))
def S5.f:S5->FuncId
 | .c0 f .. =>f
 | .c1 f .. =>f
 | .c2 f .. =>f
 | .cl f _=>f
def fnB:AZ->AZ->Bool
 | .fn (.func F) [] [],.fn (.func G) [] []=>Nat.beq F G
 |_,_=>false
def AF9{w:AZ}(h:fnB u w=true):u=w:=by unfold fnB at h;split at h<;>simp_all
def ua:List TV->List AZ->Bool
 |[],[]=>true
 | .c (.raw v)::r,w::s=>fnB v w&&ua r s
 |_,_=>false
def xZ: ∀{l:List TV} {p:List AZ},ua l p=true->l.map TV.enc=p
 |[],[],_=>rfl
 |[],_::_,h=>by simp[ua]at h
 |v::r,[],h=>by cases v<;>simp[ua]at h
 |v::r,w::s,h=>by unfold ua at h;split at h;rename_i e;cases e;rename_i c d;injection c with a1 a2;injection d with a b;subst a1 a2 a b;simp only[BW]at h;rw[Bi,xZ h.2];exact congrArg (· ::_) (AF9 h.1);cases h
def VL:Nat->AZ->List AZ->List AZ
 |0,v,l=>v::l
 |n+1,v,x::l=>x::VL n v l
 |_+1,v,[]=>[v]
def S5.Ok(P:Program):S5->Prop
 | .c2 f te ds rs post g=> ∀l x y,g l x=some y->(Kx (.list te) rs y).2.length=l.length-> ∀H id,H[id]? =some (.live l.length (te.E.cl l))->
  EW P f (.sl id l.length te.sz 0 l.length::(kv ds x++post)) H (C8 (oY (kv rs (Kx (.list te) rs y).1)) (H.set id (.live l.length (te.E.cl (Kx (.list te) rs y).2))))
 | .cl f t=> ∀(l:List t.D) (H:Aq),(∀e∈H,e.ok H)->(l=[]->EW P f [.vs t.sz []] (BL H) (C8 (.vs t.sz []) (BL (H++[.dead]))))/\
  ∀r,l≠ []->app [] l=some r->EW P f [.vs t.sz (l.map t.enc)] (BL H) (C8 (.sl H.length r.length t.sz 0 r.length) (BL (H++[.buf false t r r.length 0])))
 | .c0 f ds rs g=> ∀x y,g x=some y-> ∀H,EW P f (kv ds x) H (C8 (oY (kv rs y)) H)
 | .c1 f pos bt ds rs g=> ∀b x y,g b x=some y-> ∀H id,H[id]? =some (.live 0 (bt.enc b).cells)->EW P f (VL pos (.ptr id 0 0) (kv ds x)) H (C8 (oY (kv rs (Kx bt rs y).1)) (H.set id (.live 0 (bt.enc (Kx bt rs y).2).cells)))
section
variable {R:Type}
def zh(c:S5)(vs:List TV)(H:Aq)(k:TV->Aq->Option R):Option R:=
 match c with
 | .c0 _ ds rs g=>match inp ds vs with|some x=>(g x).bind λy=>k (one (wF rs y)) H|none=>none
 | .c1 _ pos bt ds rs g=>
  match vs[pos]? with
  |some (.c (.raw (.ptr id 0 0)))=>
   match H[id]? with
   |some (.live false cs)=>
    match bt.all cs,inp ds (vs.take pos++vs.drop (pos+1))with
    |some b,some x=>(g b x).bind λy=>k (one (wF rs (Kx bt rs y).1)) (H.set id (.live false (bt.lvs (Kx bt rs y).2)))
    |_,_=>none
   |_=>none
  |_=>none
 | .c2 _ te ds rs post g=>
  match vs with
  | .c (.own id ver _ _)::r=>
   match H[id]? with
   |some (.buf false t l n' ver')=>
    match Nat.beq ver ver' with
    |true=>
     if h:(Ty.list t).beq (Ty.list te)=true then
      match inp ds (r.take ds.length),ua (r.drop ds.length) post with
      |some x,true=>(g (Ty.cast h l) x).bind λy=>
       cond (Nat.beq (Kx (.list te) rs y).2.length n') (k (one (wF rs (Kx (.list te) rs y).1)) (H.set id (.buf false te (Kx (.list te) rs y).2 n' ver'))) none
      |_,_=>none
     else none
    |false=>none
   |_=>none
  |_=>none
 | .cl _ t=>
  match vs with
  |[.c (.ls te l)]=>
   if h:(Ty.list te).beq (Ty.list t)=true then
    cond (decide (((l.length:Nat):Int)=0)) (k (.c (.ls t [])) (H++[.dead])) ((app (α:=t.D) [] (Ty.cast h l)).bind λr=>k (.c (.own H.length 0 t r.length)) (H++[.buf false t r r.length 0]))
   else none
  |[.c .nil]=>k (.c (.ls t [])) (H++[.dead])
  |_=>none
def ZQ: ∀(a:List Ty) (x:DL a),(wF a x).map TV.enc=kv a x
 |[],_=>rfl
 |[t],x=>by simp only[wF,kv,Bi,HF,t.tv_enc]
 |t::u::r,x=>by simp only[wF,kv,Bi,t.tv_enc,ZQ (u::r)]
theorem lh{H:Aq}: ∀(b:List Ty) (x:DL b),∀v∈wF b x,v.ok H
 |[],_,v,a=>by simp[wF]at a
 |[t],x,v,a=>by simp only[wF,BC]at a;subst a;exact t.tv_ok x
 |t::u::r,x,v,a=>by simp only[wF,Au]at a;rcases a with rfl|a;exact t.tv_ok _;exact lh (u::r) x.2 v a
def qF(a:List TV):(one a).enc=oY (a.map TV.enc):=by
 match a with
 |[]=>rfl
 |[v]=>rfl
 |v::w::r=>simp only[one,oY,TV.enc,rF,Bi]
def vf(h: ∀v∈m,v.ok b):(one m).ok b:=by
 match m,h with
 |[],h=>exact Q7 h
 |[v],h=>exact h v q!
 |v::w::r,h=>exact Q7 h
def YP: ∀{a:List Ty} {b:List TV} {x:DL a},inp a b=some x->Dg (b.map TV.enc) (kv a x)
 |[],[],x,h=>Dg.refl _
 |[t],[v],x,h=>Dg.one (L7 h)
 |t::u::r,v::b,x,h=>by simp only[inp]at h;split at h;rename_i y z c d;injection h with h;subst h;exact(Dg.one (L7 c)).append (YP d);cases h
 |[],_::_,x,h=>by simp[inp]at h
 |[t],[],x,h=>by simp[inp]at h
 |[t],_::_::_,x,h=>by simp[inp]at h
 |_::_::_,[],x,h=>by simp[inp]at h
theorem rY: ∀{n:Nat} {a:List AZ} {v:AZ} {b:List AZ},a[n]? =some v->Dg (a.take n++a.drop (n+1)) b->Dg a (VL n v b)
 |0,u::a,v,b,h,hl=>by simp at h;subst h;exact(Dg.one (Wn.refl u)).append hl
 |n+1,u::a,v,b,h,hl=>by
  cases b with
  |nil=>have:=hl.1;simp at this
  |cons d b=>
   have c:Wn u d:=by obtain⟨w,q1,q2⟩:=hl.2 0 d rfl;grind
   have e:Dg (a.take n++a.drop (n+1)) b:=⟨by have:=hl.1;simpa using this,λi g f=>hl.2 (i+1) g f⟩
   exact(Dg.one c).append (rY h e)
def AED(c:S5)(vs:List TV):List Nat:=
 match c with
 | .c0 .. =>[]
 | .c1 _ pos .. =>match vs[pos]? with|some v=>idT v|none=>[]
 | .c2 .. =>match vs[0]? with|some v=>idT v|none=>[]
 | .cl .. =>[]
def AIG(c:S5)(vs:List TV):List TV:=
 match c with
 | .c2 .. =>vs.drop 1
 |_=>vs
def wX{c:S5}(hc:c.Ok P){k:TV→Aq→Option R}{r:R}(hv: ∀v∈m,v.ok b)(K: ∀e∈b,e.ok b)(h:zh c m b k=some r):
  ∃v O,EW P c.f (m.map TV.enc) (BL b) (C8 v.enc (BL O))/\k v O=some r/\v.ok O/\(∀e∈O,e.ok O)/\CR b O/\Frame (AED c m) b O:=by
 unfold zh at h;split at h;rename_i f S A g;split at h;rename_i x hx;obtain⟨y,hy,h⟩:=D2.1 h;refine⟨_,b,?_,h,vf (lh A y),K,CR.refl b,Frame.refl _ _⟩;rw[qF,ZQ];have hl:=YP hx;refine EW.before (args2:=kv S x) (H2:=BL b) hl.1 (λX g0 w s=>⟨⟨rfl,λj e' p=>?_⟩,λj Z p=>?_⟩) (hc x y hy _);cases e' with
 |dead=>exact .inl rfl
 |live g1 L=>exact .inr (.inl ⟨g1,L,L,p,rfl,rfl,λi v hi=>⟨v,hi,λ_ r=>r⟩⟩)
 |_=>exact .inr (.inr ⟨p,q!⟩)
 obtain⟨v,q1,q2⟩:=hl.2 j Z p;exact⟨v,q1,λd W=>q2 _ _ W⟩;cases h;rename_i f pos J S A g;split at h;rename_i id hp;split at h;rename_i cs o;split at h;rename_i H x hb hx;obtain⟨y,hy,h⟩:=D2.1 h;have G:CR b (b.set id (.live false (J.lvs (Kx J A y).2))):=CR.set o rfl λ_ _ _ _ _ h=>by cases h
 refine⟨_,_,?_,h,vf (lh A _),Ug G K (J.lvs_ok _),G,Frame.set (by simp only[AED,hp];exact BC.2 rfl)⟩;rw[qF,ZQ,Nd];have C:id<(BL b).length:=by rw[Cc];exact G2 o
 have hl:=YP hx;have ap:=Fs hb;have a:Dg (m.map TV.enc) (VL pos (.ptr id 0 0) (kv S x)):=by refine rY ?_ (by rw[<-List.map_take,<-ka,<-Jm];exact hl);rw[CM,hp];rfl
 have D:=hc H x y hy ((BL b).set id (.live 0 (J.enc H).cells)) id (by rw[H7 C]);rw[Xg]at D;have e1:(D0.live false (J.lvs (Kx J A y).2)).enc= .live 0 (J.enc (Kx J A y).2).cells:=by simp only[D0.enc,J.lvs_enc]
 rw[e1];refine EW.before a.1 (λX g0 w s=>?_) D;have ad:BL b=(BL b).set id (.live 0 (lvs cs)):=by
  have:(BL b)[id]? =some (.live 0 (lvs cs)):=by rw[FU,o];rfl
  apply Is;intro j;by_cases F:j=id;subst F;rw[H7 C,this];rw[D8 (λe=>F e.symm)]
 have ao:(cx X g0 (BL b) w).Later (cx X g0 ((BL b).set id (.live 0 (J.enc H).cells)) w):=by refine fX q! λj e p ar=>?_;by_cases F:j=id;subst F;exact⟨.live 0 (lvs cs),by rw[FU,o];rfl,q!⟩;rw[D8 (λe=>F e.symm)]at p;exact⟨e,p,ar⟩
 refine⟨Tq.set_less C ad rfl ap ao,λj Z p=>?_⟩;obtain⟨v,q1,q2⟩:=a.2 j Z p;exact⟨v,q1,λd W=>q2 _ _ (W.later ao)⟩;cases h;cases h;cases h;rename_i f Y S A N g;split at h;rename_i id B t0 n0 r0;split at h;rename_i t l V ax o;split at h;rename_i hb;have al:=Db hb;subst al;split at h;rename_i I;have n:=Ty.beq_eq _ _ I;injection n with n;subst n;split at h;rename_i x hx hp;obtain⟨y,hy,h⟩:=D2.1 h;have z:(Ty.cast I l:List t.D)=l:=rfl;rw[z]at hy;have hn:V=l.length:=K _ (BN o);have hr:VM b id B t0 n0:=hv _ Iq (.own id B t0 n0) (by simp[TV.refs]);obtain⟨_,q⟩:=hr.2 _ _ _ _ _ o;obtain⟨rfl,rfl⟩:=q rfl;cases T:Nat.beq (Kx (.list t) A y).2.length V with
 |false=>rw[T]at h;cases h
 |true=>
  rw[T]at h;have M:(Kx (.list t) A y).2.length=V:=Db T;have G:CR b (b.set id (.buf false t (Kx (.list t) A y).2 V B)):=CR.set o rfl λ_ _ _ _ _ e=>by cases e;exact⟨_,_,_,_,rfl,.inr ⟨rfl,rfl⟩⟩
  refine⟨_,_,?_,h,vf (lh A _),Ug G K M.symm,G,Frame.set (by simp[AED,idT])⟩;rw[qF,ZQ,Nd];have hl:=YP hx;have U:=xZ hp;have a:Dg ((TV.c (.own id B t V)::r0).map TV.enc) (.sl id l.length t.sz 0 l.length::(kv S x++N)):=by
   rw[Bi,<-D1 S.length r0,Jm,U];have e1:(TV.c (.own id B t V)).enc= .sl id l.length t.sz 0 l.length:=by rw[<-hn];rfl
   rw[e1];rw[<-qe];rw[<-qe (l:=kv S x++N)];exact(Dg.refl _).append (hl.append (Dg.refl _))
  have D:=hc l x y hy (by rw[M,hn]) (BL b) id (by rw[FU,o,<-hn];rfl);have e2:(D0.buf false t (Kx (.list t) A y).2 V B).enc= .live l.length (t.E.cl (Kx (.list t) A y).2):=by rw[<-hn];rfl
  rw[e2];refine EW.before a.1 (λX g0 w s=>⟨⟨rfl,λj e' p=>?_⟩,λj Z p=>?_⟩) D;cases e' with
  |dead=>exact .inl rfl
  |live g1 L=>exact .inr (.inl ⟨g1,L,L,p,rfl,rfl,λi v hi=>⟨v,hi,λ_ r=>r⟩⟩)
  |_=>exact .inr (.inr ⟨p,q!⟩)
  obtain⟨v,q1,q2⟩:=a.2 j Z p;exact⟨v,q1,λd W=>q2 _ _ W⟩
 cases h;cases h;cases h;cases h;cases h;rename_i f t;have same: ∀{args u:List AZ} {Q:AZ->A0->Prop},Dg args u->EW P f u (BL b) Q->EW P f args (BL b) Q:=λa D=>by
  refine EW.before a.1 (λX g0 w s=>⟨⟨rfl,λj e' p=>?_⟩,λj Z p=>?_⟩) D;cases e' with
  |dead=>exact .inl rfl
  |live g1 L=>exact .inr (.inl ⟨g1,L,L,p,rfl,rfl,λi v hi=>⟨v,hi,λ_ r=>r⟩⟩)
  |_=>exact .inr (.inr ⟨p,q!⟩)
  obtain⟨v,q1,q2⟩:=a.2 j Z p;exact⟨v,q1,λd W=>q2 _ _ W⟩
 split at h;rename_i Y l;split at h;rename_i I;have n:=Ty.beq_eq _ _ I;injection n with n;subst n;have z:(Ty.cast I l:List Y.D)=l:=rfl;rw[z]at h;cases hz:decide (((l.length:Nat):Int)=0)with
 |true=>
  rw[hz]at h;have h0:l=[]:=by
   have:((l.length:Nat):Int)=0:=by simpa using hz
   exact EZ o!
  subst h0;refine⟨TV.c (Bu.ls Y []),b++[D0.dead],?_,h,Js trivial,PR K trivial,CR.push _ _,Frame.push _ _ _⟩;exact(hc [] b K).1 rfl
 |false=>
  rw[hz]at h;have h0:l≠ []:=by rintro rfl;simp at hz
  obtain⟨r,hr,h⟩:=D2.1 h;have e:D0.ok (b++[.buf false Y r r.length 0]) (.buf false Y r r.length 0):=rfl;have q:=(hc l b K).2 r h0 hr;refine⟨TV.c (Bu.own b.length 0 Y r.length),b++[D0.buf false Y r r.length 0],?_,h,sL,PR K e,CR.push _ _,Frame.push _ _ _⟩;exact q
 cases h;refine⟨TV.c (Bu.ls t []),b++[D0.dead],?_,h,Js trivial,PR K trivial,CR.push _ _,Frame.push _ _ _⟩;exact same (Dg.one (Wn.nil t.sz_pos)) ((hc [] b K).1 rfl);cases h
end
section
variable {P:Program} {N:Nat} {o:Oper} {env:Env} {H:A0} {K:AZ->A0->Prop}
def rM{sz:Nat}{rows:List AZ}(n:o.op= .binOp .eql a c (.const (.slice none 0 0)) I)(E:P.underlying a=some (.slice W))(F:BM env c= .vs sz rows)
  (C: ∀b,(rows≠ []->b=false)->K (.bool b) H):JE P N o env H K:=by
 apply C1 (by rw[n];rfl);intro X h e w s Q;have l:=Df s.env c;rw[F]at l;generalize i:e.eval c=cx0 at l;cases l with
 | @vs sz rows t cap f m D p z J=>
  have k:=run_underlying E w;have g:(execOp e.eval o).run P w= .ok (.value (.bool t.isNone)) w:=by
   unfold execOp;rw[n];have r:e.eval (.const (.slice none 0 0))= .slice none 0 0:=rfl;have u:(eqGuard .eql a c (.const (.slice none 0 0)) (.slice t rows.length cap) (.slice none 0 0)).run P w= .ok () w:=by unfold eqGuard;simp
   have v:(Op.equal a (.slice t rows.length cap) (.slice none 0 0)).run P w= .ok t.isNone w:=by
    have y: ∃d,Op.maxDepth=d+1:=⟨9999,rfl⟩
    obtain⟨d,A⟩:=y;unfold Op.equal;rw[A];cases t<;>simp[Op.equalIn,k]
   simp only[i,r,Sem.run_bind,u,Result.andThen_ok,binOp,v,Sem.run_pure]
  unfold Oper.wp;rw[g,Oper.upon_value];refine⟨_,_,h,H,rfl,C t.isNone (λj=>?_),.bool _,s.sim,He.refl _ _ _⟩;obtain⟨B,G,q,_⟩:=z j;rw[q];rfl
def JE.clear{t e:TypeId}{x:Operand}{id g l n sz:Nat}(ho:o.op= .call {callee:=.builtin .clear,args:= #[x],argTypes:= #[t]})(hd:o.dst=none)(he:eI P t=some (none,e,sz))(bN:Rj P e=true)(hz:YY P e=some Q)(W:Q.length=sz)
  (hx:BM env x= .sl id g sz l n) (E:H[id]? =some (Fl.live g i)) (a4:l+n*sz<=i.length) (hk:K (.tup []) (H.set id (.live g (WA i l (List.replicate n Q).flatten)))):JE P N o env H K:=by
 apply C1 (by rw[ho];rfl);intro X h a w s z;obtain⟨b1,b,hi⟩:=QP he;obtain⟨M,zv,v,b4,a',b2⟩:=Tp bN;have a2:=jt hi v;obtain⟨i',y,a0,a8,a6⟩:=dD (cx X h H w) hz;have:i'=M:=by rw[v]at a0;exact(BP a0).symm
 subst this;have:y=zv:=by rw[a']at a8;exact(BP a8).symm
 subst this;have A:y.cells.size=sz:=by rw[b2,a2]
 have rx:=Df s.env x;rw[hx]at rx;have R:=run_underlying b1 w;have S:(List.replicate n Q).flatten.length=n*sz:=by simp[W]
 obtain⟨ar,ao⟩:=s.sim.live id g i E;have b0: ∃ad cap,a.eval x= .slice ad n cap/\(n≠0-> ∃B,h.io id=some B/\ad=some ⟨B,l,none⟩):=by
  generalize a.eval x=c at rx;cases rx with
  |sl h1 h2 h3 hc=>rcases hc ar with⟨_,q2,_,q4⟩|⟨B,cap,q1,_,_,q4⟩;exact⟨none,0,by rw[q4,q2],λbG=>(bG q2).elim⟩;exact⟨_,cap,q4,λ_=>⟨B,q1,rfl⟩⟩
 obtain⟨ad,cap,Z,bb⟩:=b0;have a1:id<H.length:=by rcases Aw id H.length with h2|h2;exact h2;rw[Cj h2]at E;cases E
 by_cases hn:n=0;subst hn;have F:(execOp a.eval o).run P w= .ok (.value (.tuple #[])) w:=by unfold execOp;rw[ho];simp only[resolve,invoke,builtin,Sem.run_bind,Sem.run_pure,Result.andThen_ok,QJ,Bi,HF,Z,Builtin.clear_];simp[R];cases ad<;>simp
 unfold Oper.wp;rw[F,Oper.upon_value];have e1:H.set id (.live g (WA i l (List.replicate 0 Q).flatten))=H:=by
  have:WA i l (List.replicate 0 Q).flatten=i:=by simp[WA]
  rw[this];apply Is;intro j;by_cases a3:j=id;subst a3;rw[H7 a1,E];rw[D8 λe=>a3 e.symm]
 rw[e1]at hk;exact⟨_,_,h,H,rfl,hk,.tup rfl λ_ _ _ h=>by (cases h),s.sim,He.refl _ _ _⟩;obtain⟨B,J,rfl⟩:=bb hn;rcases ao with⟨a5,_⟩|⟨B',Y,T,fz,f,O,hb,al,b3,ap,I⟩;rw[show(cx X h H w).io id=h.io id from rfl,J]at a5;cases a5;rw[show(cx X h H w).io id=h.io id from rfl,J]at O;injection O with e0;subst e0;have V:(Builtin.zeroCells y.cells n).size=n*sz:=by rw[YZ,A]
 have G: ∀j,j<n*sz-> ∃d u,(Builtin.zeroCells y.cells n)[j]? =some d/\(List.replicate n Q).flatten[j]? =some u/\d.oneCell'=true/\Br (cx X h H w) u d:=by
  intro j r;have a7:0<sz:=by rcases VU sz with q|q;subst q;simp at r;exact q
  have hm:j%sz<y.cells.size:=by rw[A];exact Xi _ a7
  have D:y.cells[j%sz]? =some (y.cells[j%sz]'hm):=NZ hm;have ax: ∀(m j:Nat),j<m*sz->(List.replicate m Q).flatten[j]? =Q[j%sz]? :=by
   intro m;induction m with
   |zero=>intro j r;omega
   |succ m ih=>intro j r;rw[kf,nZ];rcases Aw j sz with bt|bl;rw[CT o!,Sm bt];rw[Ch o!,W,ih (j-sz) (by rw[Fb]at r;omega),<-Nat.mod_eq_sub_mod bl]
  have a9:Q[j%sz]? =some (Q[j%sz]'(by rw[W];exact Xi _ a7)):=As _;have U:(Builtin.zeroCells y.cells n)[j]? =some (y.cells[j%sz]'hm):=by
   unfold Builtin.zeroCells;rw[au,Array.getElem?_range,if_pos (by rw[A];exact r)];have bz:j%y.cells.size<y.cells.size:=by rw[A];rw[A]at hm;exact hm
   rw[Bo,getElem!_pos y.cells _ bz];simp only[A]
  cases a6 with
  |agg q1 q2 q3=>exact⟨_,_,U,by rw[ax n j r,a9],q2 _ _ D,q3 _ _ _ a9 D⟩
 obtain⟨w',L,p1,p2,p3,p4,p5,p6,p7,p8,p9⟩:=Uk (P:=P) (off:=l) (Builtin.zeroCells y.cells n).toList 0 Y w hb (by simp[V];omega) ap (λd hd=>by
  obtain⟨j,r⟩:=De hd;have bm:j<n*sz:=by rw[<-V];have:=(KT.1 r).1;simpa using this
  obtain⟨d',u,q1,_,q3,_⟩:=G j bm;rw[PS]at r;rw[r]at q1;injection q1 with q1;rw[q1];exact q3)
 have F:(execOp a.eval o).run P w= .ok (.value (.tuple #[])) w':=by
  unfold execOp;rw[ho];simp only[resolve,invoke,builtin,Sem.run_bind,Sem.run_pure,Result.andThen_ok,QJ,Bi,HF,Z,Builtin.clear_];have b5: ∀(α:Type) (p q:α),(match n with|0=>p|_+1=>q)=q:=by
   intro α p q;cases n with
   |zero=>exact(hn rfl).elim
   |succ m=>rfl
  obtain⟨m,rfl⟩: ∃m,n=m+1:=⟨n-1,o!⟩
  simp[R,zeroValue,typeInfo,v,a'];rw[p1];rfl
 have hh:Holds (cx X h H w) (WA i l (List.replicate n Q).flatten) L fz:=by
  refine⟨λj=>if l<=j/\j<l+n*sz then(Builtin.zeroCells y.cells n).getD (j-l) undef else f j,by rw[iy (by rw[S];exact a4)];omega,by rw[p3];exact ap,λj u r=>?_⟩;rw[sZ (by rw[S];exact a4),S]at r;rw[p4];simp only[Sl,Dq,V,PS];split at r;rename_i C;rw[if_pos C,if_pos C];obtain⟨d,u',q1,q2,q3,q4⟩:=G (j-l) o!;rw[q2]at r;injection r with r;subst r;have e:(Builtin.zeroCells y.cells n).getD (j-l) undef=d:=by rw[QN,q1];rfl
  rw[e];exact⟨q1,q3,q4⟩;rename_i C;rw[if_neg C,if_neg C];exact I j u r
 obtain⟨q1,q2⟩:=s.sim.upd (g':=g) (B:=B) (arr:=L) (T:=T) (fz:=fz) (w':=w') E (Ao _) (λ_=>⟨J,by rw[p3];exact al.symm⟩) (.inl J) p2 (λk _ hk=>p5 k hk) p6 p7 p8 (by rw[p9];exact Ao _) hh;unfold Oper.wp;rw[F,Oper.upon_value];exact⟨_,_,_,_,rfl,hk,.tup rfl λ_ _ _ h=>by (cases h),q1,q2⟩
def pr(k:o.op= .call {callee:=.builtin .clear,args:= #[c],argTypes:= #[a]})(m:P.underlying a=some (.slice I))
  (x:BM env c= .vs n []) (l:K (.tup []) H):JE P N o env H K:=by
 apply C1 (by rw[k];rfl);intro X h e w s Q;have j:=Df s.env c;rw[x]at j;have d:=run_underlying m w;have i: ∃f cap,e.eval c= .slice f 0 cap:=by
  generalize e.eval c=t at j;cases j with
  |vs=>exact⟨_,_,rfl⟩
 obtain⟨f,cap,g⟩:=i;have b:(execOp e.eval o).run P w= .ok (.value (.tuple #[])) w:=by unfold execOp;rw[k];simp only[resolve,invoke,builtin,Sem.run_bind,Sem.run_pure,Result.andThen_ok,QJ,Bi,HF,g,Builtin.clear_];simp[d];cases f<;>simp
 unfold Oper.wp;rw[b,Oper.upon_value];exact⟨_,_,h,H,rfl,l,.tup rfl λ_ _ _ h=>by (cases h),s.sim,He.refl _ _ _⟩
end
def WE(P:Program)(N:Nat)(ops:Array Oper):List Oper->Env->A0->(Env->A0->Prop)->Prop
 |[],env,H,Q=> ∃env1 H1,GF N H.length env H env1 H1/\Q env1 H1
 |o::rest,env,H,Q=> ∃env1 H1,GF N H.length env H env1 H1/\
  Xb ops o.guard env1 (JE P N o env1 H1 λv H'=>WE P N ops rest (env1.putO o.dst v) H' Q) (WE P N ops rest (env1.putO o.dst (.tup [])) H1 Q)
def WE.weak{N:Nat}{Q:Env->A0->Prop}{env1:Env}{H e:A0}(w:GF N H.length s H env1 e): ∀{os:List Oper},WE P N j os env1 e Q->WE P N j os s H Q
 |[],h=>by obtain⟨c,b,d,q⟩:=h;exact⟨c,b,w.trans (d.of_le w.1),q⟩
 |o::os,h=>by obtain⟨c,b,d,q⟩:=h;exact⟨c,b,w.trans (d.of_le w.1),q⟩
theorem rN{r:Option Nat}{C:Exit→Act→World→Prop}{Q:Env→A0→Prop}:
  ∀(l:List Nat) (os:List Oper),l.map (j[·]?)=os.map some-> ∀(env:Env) (H:A0) (h:Gh) (a:Act) (w:World),Oi N os=true->WE P N j os env H Q->St B h N env H a w->(∀f n y u q,Q f n->St B y N f n u q->He h H w y n q->u.defers=a.defers->C .normal u q)->wpOpsIn (FR r) 0 P j C l a w:=by
 intro l;induction l with
 |nil=>
  intro os d env H h a w _ hr s z;have:os=[]:=t!
  subst this;obtain⟨env1,A,b,hr⟩:=hr;obtain⟨x,e,E,d⟩:=b.2 B h a w s;exact z env1 A x a w hr e (GF.ext rfl b.1 E d (He.refl h H w)) rfl
 |cons i l L=>
  intro os d env H h a w T hr s z;match os,d with
  |o::os,d=>
   simp at d;obtain⟨O,m⟩:=d;simp only[wpOpsIn,O];have g: ∀t,o.dst=some t->t<a.tmps.size:=by intro t Y;simp only[Oi]at T;rw[s.size];grind
   have p:Oi N os=true:=by simp_all[Oi]
   obtain⟨env1,A,b,hr⟩:=hr;obtain⟨x,e,E,d⟩:=b.2 B h a w s;have M:=GF.ext rfl b.1 E d (He.refl h H w);rcases w8 e.env hr with⟨J,R⟩|⟨J,S⟩;rw[if_pos J];refine Oper.wpIn_mono ?_ (R r B x a w e C);rintro u q ⟨c,v,y,n,rfl,k,W,V,K⟩;have U:=K.later B;apply L os m _ n y _ q p k ⟨V,ON.putO (e.env.later U) g W,(cy _ _ _).trans e.size⟩;intro env2 X m a2 G q2 F I D;exact z env2 X m a2 G q2 F (M.trans (K.trans I)) (D.trans (by cases o.dst<;>rfl));rw[if_neg k!];refine⟨λ_ _=>trivial,L os m _ A x _ w p S ⟨e.sim,ON.putO e.env g (.tup rfl λ_ _ _ h=>by cases h),(cy _ _ _).trans e.size⟩ ?_⟩;intro env2 X m a2 G q2 F I D;exact z env2 X m a2 G q2 F (M.trans I) (D.trans (by cases o.dst<;>rfl))
theorem Fq{N:Nat}{H:A0}{Q:Exit->Env->A0->Prop}{id:Nat}{b:Array Oper}(i:Oi N b.toList=true)(h:WE P N b b.toList s H (Q .normal)):Mc P N (.region id b false) s H Q:=by intro r X g a w n _;refine wpIn_region (rN (List.range b.size) b.toList ?_ s H g a w i h n ?_);apply Is;grind;intro c d f l m q j k e;exact⟨f,c,d,q,j,k,.same e⟩
open Go.MapKept (IsKey)
def Pq{α:Type}(n:Int)(v:α):List (Int×α)->List (Int×α)
 |[]=>[(n,v)]
 |p::r=>bif p.1==n then(n,v)::r else p::Pq n v r
def Ku{α:Type}(n:Int):List (Int×α)->Option α
 |[]=>none
 |p::r=>bif p.1==n then some p.2 else Ku n r
def xP{a c:Type}(f:a->c)(n:Int)(v:a): ∀b:List (Int×a),(Pq n v b).map (λp=>(p.1,f p.2))=Pq n (f v) (b.map λp=>(p.1,f p.2))
 |[]=>rfl
 |p::r=>by simp only[Pq,Bi];cases p.1==n<;>simp[xP f n v r]
def sJ{b c:Type}(f:b->c)(n:Int): ∀a:List (Int×b),Ku n (a.map λp=>(p.1,f p.2))=(Ku n a).map f
 |[]=>rfl
 |p::r=>by simp only[Ku,Bi];cases p.1==n<;>simp[sJ f n r]
section
variable {X:Nat->Prop} {h:Gh} {H:A0} {w:World}
def JF.of_extM{a:Gh}{d:World}(s:JF X h H w)(k:He h H w a p d)
  (key: ∀(id:Nat) (e:Fl),p[id]? =some e->e≠ .dead->(H[id]? =some e/\a.gen id=h.gen id/\a.io id=h.io id/\a.cap id=h.cap id/\ ∀B,h.io id=some B->d.heap[B]? =w.heap[B]?)\/(e.isB=true/\BAt a d id e))
  (inj: ∀(id b:Nat) (e g:Fl) (B:Nat),p[id]? =some e->p[b]? =some g->e≠ .dead->g≠ .dead->a.io id=some B->a.io b=some B->id=b):JF X a p d:=
 s.of_ext' k (λi e j f=>(key i e j f).imp id λh=>.inr (.inr h)) inj
theorem JF.push_m(s:JF X h H w)(o:Obj)(cap:Nat)(E:Fl)(u:E.isB=true)
  (t:BAt (h.at_ H.length (some w.heap.size) 0 cap) {w with heap:=w.heap.push o} H.length E):
  JF X (h.at_ H.length (some w.heap.size) 0 cap) (H++[E]) {w with heap:=w.heap.push o}:=by
 refine s.of_extM (He.push o cap E) (λid e d g=>?_) λid q e r B m n b c k l=>?_;rcases Im d with⟨a,d⟩|⟨rfl,rfl⟩;refine .inl ⟨d,by simp[Gh.at_,Be a],by simp[Gh.at_,Be a],by simp[Gh.at_,Be a],λB f=>?_⟩;have:=s.io_at d g f;grind;grind;rcases Im m with⟨l1,i⟩|⟨rfl,_⟩<;>rcases Im n with⟨l2,j⟩|⟨rfl,_⟩;exact s.inj _ _ _ _ B i j b c (by simpa[Gh.at_,Be l1]using k) (by simpa[Gh.at_,Be l2]using l);have p:=s.io_at i b (by simpa[Gh.at_,Be l1]using k);grind[Gh.at_];have p:=s.io_at j c (by simpa[Gh.at_,Be l2]using l);grind[Gh.at_];rfl
def JF.setM(s:JF X h H w){E E':Fl}{o o':Obj}{w':World}(g:H[N]? =some E)(J:E.isB=true)(v:E'.isB=true)(m:h.io N=some n)(K:w.heap[n]? =some o)(A: ∀r,o≠ .loop r)
  (G:w'.heap=w.heap.setIfInBounds n o') (C:w'.os=w.os) (O:w'.tape=w.tape) (M:w'.output=w.output) (x:BAt h w' N E'):
  JF X h (H.set N E') w'/\He h H w h (H.set N E') w':=by
 have d:N<H.length:=by rcases Aw N H.length with f|f;exact f;rw[Cj f]at g;cases g
 have b:E≠ .dead:=by rintro rfl;cases J
 have B: ∀k,k≠n->w'.heap[k]? =w.heap[k]? :=λk h=>by rw[G];simp[Oa h]
 have own: ∀k,owned h (H.set N E') k->owned h H k:=by rintro k ⟨i,e,j,c,f⟩;rcases JD d j with⟨y,a⟩|⟨rfl,_⟩;exact⟨i,e,a,c,f⟩;exact⟨i,E,g,b,f⟩
 have I:He h H w h (H.set N E') w':=by refine⟨C,O,M,by rw[G];simp,λk _ hn=>B k λe=>hn ⟨N,E,g,b,by rw[e];exact m⟩,q!,λ_ _=>Ao _,λ_ _ _=>⟨rfl,rfl⟩,λk B=>.inl (own k B),λk r hr=>⟨r,?_⟩⟩;refine(B k λe=>?_).trans hr;subst e;rw[K]at hr;injection hr with hr;exact A r hr
 refine⟨s.of_extM I (λi e j c=>?_) (λi D e F k j f p q t u=>?_),I⟩;rcases JD d j with⟨y,a⟩|⟨rfl,rfl⟩;refine .inl ⟨a,rfl,rfl,rfl,λk z=>B k λe=>?_⟩;subst e;exact y (s.inj i N _ _ k a g c b z m);exact .inr ⟨v,x⟩;rcases JD d j with⟨y,a⟩|⟨rfl,rfl⟩<;>rcases JD d f with⟨L,l⟩|⟨rfl,rfl⟩;exact s.inj i D e F k a l p q t u;exact s.inj i D e E k a g p b t u;exact s.inj i D E F k g l b q t u;rfl
end
def lL{k:IntKind}{n:Int}: ∀(l:List MapEntry) (a:List (Int×AZ)) (i:Nat),l.length=a.length→(∀(j:Nat) (p:Int×AZ),a[j]? =some p→ ∃e:MapEntry,l[j]? =some e∧e.key= .int k p.1)→
  (Instr.findNow (.int k) (.int k n) l i=some none/\Ku n a=none/\ ∀v,Pq n v a=a++[(n,v)])\/∃j e p,Instr.findNow (.int k) (.int k n) l i=some (some (i+j,e.val))/\l[j]? =some e/\a[j]? =some p/\e.key= .int k n/\Ku n a=some p.2/\ ∀v,Pq n v a=a.set j (n,v)
 |[],[],_,_,_=>.inl ⟨rfl,rfl,λ_=>rfl⟩
 |[],_::_,_,hl,_=>by simp at hl
 |_::_,[],_,hl,_=>by simp at hl
 |e::l,p::a,i,hl,h=>by
  obtain⟨z,o,r⟩:=h 0 p rfl;simp only[jS,Am]at o;subst o;have m:Instr.sameNow (.int k) (.int k n) e.key=some (n==p.1):=by rw[r];simp[Instr.sameNow]
  by_cases hn:p.1=n;refine .inr ⟨0,e,p,?_,rfl,rfl,by rw[r,hn],?_,λv=>?_⟩;simp[Instr.findNow,m,hn];simp[Ku,hn];simp[Pq,hn];have c:(n==p.1)=false:=by simp;exact λe=>hn e.symm
  have b:(p.1==n)=false:=by simpa using hn
  rcases lL (k:=k) (n:=n) l a (i+1) (by simpa using hl) (λj q x=>by simpa using h (j+1) q (by simpa using x))with⟨d,f,g⟩|⟨j,s,y,d,f,g,t,u,w⟩;exact .inl ⟨by simp[Instr.findNow,m,c,d],by simp[Ku,b,f],λv=>by simp[Pq,b,g]⟩;exact .inr ⟨j+1,s,y,by simp[Instr.findNow,m,c,d];omega,by simpa using f,by simpa using g,t,by simp[Ku,b,u],λv=>by simp[Pq,b,w]⟩
section
variable {P:Program} {N:Nat} {o:Oper} {env:Env} {H:A0} {K:AZ->A0->Prop}
def JE.makeMap(k:IntKind)(c:o.op= .makeMap a none)(e:K (.mp H.length) (H++[.mp k []])):JE P N o env H K:=by
 apply C1 (by rw[c];rfl);intro X h t w s Q;have b:(execOp t.eval o).run P w= .ok (.value (.map (some w.heap.size))) {w with heap:=w.heap.push (.map #[] 0)}:=by unfold execOp;rw[c];rfl
 unfold Oper.wp;rw[b,Oper.upon_value];refine⟨_,_,_,_,rfl,e,?_,s.sim.push_m (.map #[] 0) 0 (.mp k []) rfl ⟨w.heap.size, #[],by simp[Gh.at_],by simp[Gh.at_],q!,rfl,λj p d=>by simp at d⟩,He.push _ _ _⟩;exact .mp (by simp[cx]) rfl λ_=>⟨w.heap.size,by simp[cx,Gh.at_],rfl⟩
def ACo(s:St B h N env H M w)(u:BM env c= .mp n)(r:H[n]? =some (.mp z J)):
  ∃(X:Nat) (b:Array MapEntry),M.eval c= .map (some X)/\h.io n=some X/\h.gen n=0/\w.heap[X]? =some (.map b b.size)/\b.size=J.length/\∀(j:Nat) (p:Int×AZ),J[j]? =some p-> ∃e:MapEntry,b[j]? =some e/\e.born=j/\e.key= .int z p.1/\ ∀c,Br c p.2 e.val:=by
 have g:=Df s.env c;rw[u]at g;obtain⟨X,b,i,l,m,x,o⟩:=s.sim.bld n _ r rfl;generalize M.eval c=a at g;cases g with
 |mp t y q=>obtain⟨v,d,rfl⟩:=q l;rw[show(cx B h H w).io n=h.io n from rfl,i]at d;injection d with d;subst d;exact⟨X,b,rfl,i,l,m,x,o⟩
def ACZ(s:St X h N env H M w)(d:BM env c= .int z F):M.eval c= .int z F:=by have b:=Df s.env c;rw[d]at b;generalize M.eval c=a at b;cases b;rfl
theorem JE.mapUpdate{t U et:TypeId}{m I A:Operand}{id:Nat}{k:IntKind}{es:List (Int×AZ)}{n:Int}{v:AZ}(S:o.op= .mapUpdate t m I A)(hm:BM env m= .mp id)(G:BM env I= .int k n)
  (hp: ∀(x:Cx) (c:Value),Br x (BM env A) c-> ∀y,Br y v c) (T:P.underlying t=some (.map U et)) (l:P.underlying U=some (.int k)) (E:H[id]? =some (.mp k es)) (R:K .any (H.set id (.mp k (Pq n v es)))):JE P N o env H K:=by
 apply C1 (by rw[S];rfl);intro X h a w s Q;obtain⟨B,b,q1,q2,q3,q4,q5,q6⟩:=ACo s hm E;have V:=ACZ s G;have W:=hp _ _ (Df s.env A);generalize u:a.eval A=c at W;have al:id<H.length:=k!
 have f:IsKey (.int k) (.int k n):=rfl;have q:B<w.heap.size:=(an.1 q4).1;have z:execOp a.eval o=(do Instr.mapUpdate t (a.eval m) (a.eval I) (a.eval A);pure .skip):=by unfold execOp;rw[S]
 rcases lL (n:=n) (k:=k) b.toList es 0 k! (λj p d=>by obtain⟨e,Z,_,C,_⟩:=q6 j p d;exact⟨e,k!,C⟩)with⟨D,M,O⟩|⟨j,Y,p0,D,M,O,h4,h5,h6⟩;have g:(execOp a.eval o).run P w= .ok .skip {w with heap:=w.heap.setIfInBounds B (.map (b.push {key:=.int k n,val:=c,born:=b.size}) (b.size+1))}:=by rw[z,q1,V,u];simp[Instr.mapUpdate,run_underlying T,MapKept.run_getObj_map q4,MapKept.run_checkKey l f,MapKept.run_findKey l D,MapKept.run_setObj_map _ q4]
 unfold Oper.wp;rw[g,Oper.upon_skip];obtain⟨J,L⟩:=s.sim.setM (E':=.mp k (Pq n v es)) (o':=.map (b.push {key:=.int k n,val:=c,born:=b.size}) (b.size+1))
  (w':={w with heap:=w.heap.setIfInBounds B (.map (b.push {key:=.int k n,val:=c,born:=b.size}) (b.size+1))}) E rfl rfl q2 q4 (λr e=>by cases e) rfl rfl rfl rfl (by refine⟨B,b.push {key:=.int k n,val:=c,born:=b.size},q2,q3,by simp[q],k!,λj p d=>?_⟩;rw[O]at d;rcases OY j es.length with ar|rfl|ad;grind;rw[Ch (Ao _),Gn]at d;simp only[jS,Am]at d;subst d;exact⟨{key:=.int k n,val:=c,born:=b.size},k!,q5,rfl,W⟩;rw[Cj w!]at d;cases d)
 exact⟨_,_,_,_,rfl,R,.any _,J,L⟩;have d:b[j]? =some Y:=by simpa using M
 have ap:j<b.size:=(an.1 d).1;have g:(execOp a.eval o).run P w= .ok .skip {w with heap:=w.heap.setIfInBounds B (.map (b.modify j λe=>{e with key:=.int k n,val:=c}) b.size)}:=by rw[z,q1,V,u];simp[Instr.mapUpdate,run_underlying T,MapKept.run_getObj_map q4,MapKept.run_checkKey l f,MapKept.run_findKey l D,d,h4,MapKept.run_keyThatStays f,MapKept.run_setObj_map _ q4]
 unfold Oper.wp;rw[g,Oper.upon_skip];obtain⟨J,L⟩:=s.sim.setM (E':=.mp k (Pq n v es)) (o':=.map (b.modify j λe=>{e with key:=.int k n,val:=c}) b.size)
  (w':={w with heap:=w.heap.setIfInBounds B (.map (b.modify j λe=>{e with key:=.int k n,val:=c}) b.size)}) E rfl rfl q2 q4 (λr e=>by cases e) rfl rfl rfl rfl (by refine⟨B,b.modify j λe=>{e with key:=.int k n,val:=c},q2,q3,by simp[q],k!,λi p F=>?_⟩;rw[h6,XS]at F;split at F;grind;rename_i ao;obtain⟨e,Z,C⟩:=q6 i p F;exact⟨e,k!,C⟩)
 exact⟨_,_,_,_,rfl,R,.any _,J,L⟩
def AAT(P:Program)(t:TypeId):Option AZ:=
 match (P.info? t).bind (·.zero)with
 |some (.agg cs)=>if cs.toList.all (·.oneCell')then some (.agg (cs.toList.map pD))else none
 |some (.bool b)=>some (.bool b)
 |_=>none
theorem ABX(h:AAT P a=some u)(w:World): ∃v,(zeroValue a).run P w= .ok v w/\ ∀x,Br x u v:=by unfold AAT at h;split at h;rename_i d t;split at h;rename_i e;obtain⟨i,c,t⟩:=D2.1 t;refine⟨.agg d,by simp[zeroValue,typeInfo,c,t],λx=>?_⟩;have:=wh x (.agg d);grind[AAq];cases h;rename_i b t;obtain⟨i,c,t⟩:=D2.1 t;injection h with h;subst h;exact⟨.bool b,by simp[zeroValue,typeInfo,c,t],λx=>.bool b⟩;cases h
theorem JE.lookup{id:Nat}{k:IntKind}{es:List (Int×AZ)}{n:Int}{z:AZ}{g:Bool}(T:o.op= .lookup a c L g)(hm:BM env c= .mp id)(G:BM env L= .int k n)
  (U:P.underlying a=some (.map I W)) (f:P.underlying I=some (.int k)) (hz:AAT P W=some z) (he:H[id]? =some (.mp k es))
  (hk:K (bif g then .tup [(Ku n es).getD z,.bool (Ku n es).isSome]else(Ku n es).getD z) H):JE P N o env H K:=by
 apply C1 (by rw[T];cases g<;>rfl);intro X h O w s Q;obtain⟨B,q,q1,q2,q3,q4,q5,q6⟩:=ACo s hm he;have Y:=ACZ s G;have i:IsKey (.int k) (.int k n):=rfl;have y:execOp O.eval o=(do pure (.value (<-Instr.lookup a (O.eval c) (O.eval L) g))):=by unfold execOp;rw[T]
 have x: ∀(t:Value) (v:AZ) (b:Bool),(execOp O.eval o).run P w= .ok (.value (bif g then .tuple #[t,.bool b]else t)) w→Br (cx X h H w) v t→K (bif g then .tup [v,.bool b]else v) H→
   Oper.wp P o O w (λZ V=> ∃t v E C,Z=O.put o.dst t/\K v C/\Br (cx X E C V) v t/\JF X E C V/\He h H w E C V) Q:=by
  intro t v b A J hK;unfold Oper.wp;rw[A,Oper.upon_value];refine⟨_,_,h,H,rfl,hK,?_,s.sim,He.refl _ _ _⟩;cases g;exact J;refine .tup q! λj u d l S=>?_;rcases j with _|_|j;grind;simp at l S;subst l S;exact .bool b;grind
 rcases lL (n:=n) (k:=k) q.toList es 0 k! (λj p l=>by obtain⟨e,r,_,D,_⟩:=q6 j p l;exact⟨e,k!,D⟩)with⟨F,h2,R⟩|⟨j,M,m,F,h2,R,h4,h5,h6⟩;obtain⟨v,J,hr⟩:=ABX hz w;refine x v z false ?_ (hr _) k!;rw[y,q1,Y];cases g<;>simp[Instr.lookup,run_underlying U,MapKept.run_getObj_map q4,MapKept.run_checkKey f i,MapKept.run_findKey f F,J];obtain⟨e',r,_,_,D⟩:=q6 j m R;have l:q[j]? =some M:=k!
 rw[l]at r;injection r with r;subst r;refine x M.val m.2 true ?_ (D _) k!;rw[y,q1,Y];cases g<;>simp[Instr.lookup,run_underlying U,MapKept.run_getObj_map q4,MapKept.run_checkKey f i,MapKept.run_findKey f F]
theorem JE.range{id:Nat}{k:IntKind}{es:List (Int×AZ)}(d:o.op= .range a c)(j:BM env c= .mp id)(l:P.underlying a=some (.map I W))(g:H[id]? =some (.mp k es))
  (i:K (.itp H.length id) (H++[.it es.length []])):JE P N o env H K:=by
 apply C1 (by rw[d];rfl);intro X h n w s Q;obtain⟨B,e,q1,q2,q3,q4,q5,q6⟩:=ACo s j g;have t:id<H.length:=k!
 have b:(execOp n.eval o).run P w= .ok (.value (.pointer (some ⟨w.heap.size,0,none⟩))) {w with heap:=w.heap.push (.mapIter (some B) es.length #[] es.length)}:=by unfold execOp;rw[d];simp only[q1];simp[Instr.range,run_underlying l,MapKept.run_getObj_map q4,newObj,q5];rfl
 unfold Oper.wp;rw[b,Oper.upon_value];refine⟨_,_,_,_,rfl,i,?_,s.sim.push_m (.mapIter (some B) es.length #[] es.length) B (.it es.length []) rfl ⟨w.heap.size,by simp[Gh.at_],by simp[Gh.at_],by simp[Gh.at_]⟩,He.push _ _ _⟩;exact .itp (by simp[cx]) (by simp[cx];omega) rfl λ_=>⟨w.heap.size,by simp[cx,Gh.at_],rfl,λ_=>by simp[cx,Gh.at_,Be t,q2]⟩
def AFP{m:Nat}(s:St B h N env H M w)(F:BM env c= .itp U m)(D:H[U]? =some (.it n O))(C:H[m]? =some (.mp z J)):
  ∃(X f:Nat) (b:Array MapEntry),M.eval c= .pointer (some ⟨X,0,none⟩)/\h.io U=some X/\h.gen U=0/\w.heap[X]? =some (.mapIter (some f) n O.toArray n)/\h.cap U=f/\w.heap[f]? =some (.map b b.size)/\b.size=J.length/\∀(j:Nat) (p:Int×AZ),J[j]? =some p-> ∃e:MapEntry,b[j]? =some e/\e.born=j/\e.key= .int z p.1/\ ∀c,Br c p.2 e.val:=by
 have l:=Df s.env c;rw[F]at l;obtain⟨X,o,q,r⟩:=s.sim.bld U _ D rfl;obtain⟨f,b,t,u,v,y,k⟩:=s.sim.bld m _ C rfl;generalize M.eval c=x at l;cases l with
 |itp E a I A=>obtain⟨G,g,rfl,d⟩:=A q;rw[show(cx B h H w).io U=h.io U from rfl,o]at g;injection g with g;subst g;have d:=d u;rw[show(cx B h H w).io m=h.io m from rfl,t]at d;injection d with d;have d:f=h.cap U:=d;subst d;exact⟨X,_,b,rfl,o,q,r,rfl,v,y,k⟩
theorem JE.next{x:Operand}{id m:Nat}{k:IntKind}{es:List (Int×AZ)}{seen:List Nat}(ho:o.op= .next x false)(hx:BM env x= .itp id m)(f:H[id]? =some (.it es.length seen))(he:H[m]? =some (.mp k es))
  (z:(∀j,j<es.length->j∈seen)->K (.tup [.bool false]) H)
  (C: ∀(j:Nat) (p:Int×AZ),es[j]? =some p->j∉seen->K (.tup [.bool true,.int k p.1,p.2]) (H.set id (.it es.length (seen++[j])))):JE P N o env H K:=by
 apply C1 (by rw[ho];rfl);intro X h a w s Q;obtain⟨B,v,c,q1,q2,q3,q4,qc,q5,q6,q7⟩:=AFP s hx f he;have ap:execOp a.eval o=(do pure (.value (<-Instr.next (a.eval x) false o.type))):=by unfold execOp;rw[ho]
 have y: ∀(j:Nat) (e:MapEntry),c[j]? =some e->e.born=j/\j<es.length:=by
  intro j e q;have I:j<es.length:=by grind[Array.getElem?_eq_some_iff]
  obtain⟨e',E,T,_⟩:=q7 j _ (As I);rw[q]at E;injection E with E;subst E;exact⟨T,I⟩
 have t: ∀e∈c.toList,e.born<es.length:=λe A=>by grind[List.getElem?_of_mem]
 have M:w.heap[B]? =some (.mapIter (some v) es.length seen.toArray es.length):=q4;generalize V:Array.filter (λe:MapEntry=>!seen.toArray.contains e.born) c=L;have G: ∀e∈L.toList,e∈c.toList/\e.born∉seen:=λe A=>by rw[<-V]at A;simpa using A
 have E:L.filter (λx=>decide (x.born<es.length))=L:=Array.filter_eq_self.2 (λx hx=>by simpa using t x (G x (by simpa using hx)).1);have T:L.filter (λx=>decide (x.born>=es.length))= #[]:=by grind[Array.filter_eq_empty_iff]
 have D:(Instr.next (.pointer (some ⟨B,0,none⟩)) false o.type).run P w=((do
   let b:=(if L.isEmpty then #[none]else #[])++L.map some;match b[<-choose (.mapNext b.size)]? with
   |some (some e)=>
    setObj B (.mapIter (some v) es.length (seen.toArray.push e.born) c.size)
    pure (.tuple #[.bool true,e.key,e.val])
   |some none=>pure (.tuple #[.bool false])
   |none=>stuck "Next: no such candidate"):Sem Value).run P w:=by
  simp only[Instr.next,getObj,Sem.run_bind,Sem.run,M,q5,Result.andThen,next_test_false seen.toArray c es.length es.length t (Ao _),PU,if_false,V,E,T,Array.append_empty];rfl
 by_cases h0:L.size=0;have W:L= #[]:=qZ h0;subst W;have g:(execOp a.eval o).run P w= .ok (.value (.tuple #[.bool false])) w:=by simp_all[Sem.run_bind,Sem.run,Question.forced]
 unfold Oper.wp;rw[g,Oper.upon_value];refine⟨_,_,h,H,rfl,z λj q=>?_,.tup q! λi u d f n=>?_,s.sim,He.refl _ _ _⟩;obtain⟨e,O,R,_⟩:=q7 j _ (As q);rcases Classical.em (j∈seen)with U|U;exact U;have:e∈(Array.filter (λe:MapEntry=>!seen.toArray.contains e.born) c).toList:=by have A:e∈c:=tX O;simp[A,R,U]
 rw[V]at this;simp at this;rcases i with _|i;simp at f n;subst f n;exact .bool false;simp at f;have ax:L.isEmpty=false:=by simp[Array.isEmpty,h0]
 obtain⟨i,l,ar,Y,Z,ad,al,ao⟩: ∃(i:Nat) (l:World),i<L.size/\l.heap=w.heap/\l.os=w.os/\l.output=w.output/\l.tape=w.tape/\(choose (Question.mapNext L.size)).run P w= .ok i l:=by by_cases hf:L.size<=1;exact⟨0,w,o!,rfl,rfl,rfl,rfl,by simp[choose,Sem.run,Question.forced,hf]⟩;exact⟨_,w.drew,Xi _ o!,rfl,rfl,rfl,rfl,by simp only[choose,Sem.run,Question.forced,decide_eq_true_eq,hf,if_false,Question.cut];rfl⟩
 have A:L[i]∈L.toList:=q!
 obtain⟨m1,m2⟩:=G _ A;obtain⟨j,q⟩:=De m1;have q:c[j]? =some L[i]:=by simpa using q
 obtain⟨O,R⟩:=y j _ q;obtain⟨e,S,c2,c3,c4⟩:=q7 j _ (As R);rw[q]at S;injection S with S;subst S;have F:B<w.heap.size:=(an.1 q4).1;have g:(execOp a.eval o).run P w= .ok (.value (.tuple #[.bool true,.int k es[j].1,L[i].val])) {l with heap:=w.heap.setIfInBounds B (.mapIter (some v) es.length (seen++[j]).toArray es.length)}:=by
  rw[ap,q1,Sem.run_bind,D];simp only[ax,PU,if_false,Array.empty_append,Array.size_map,Sem.run_bind,ao,Result.andThen_ok,au,NZ ar,Bo];have J:(setObj B (.mapIter (some v) es.length (seen.toArray.push L[i].born) c.size)).run P l= .ok () {l with heap:=w.heap.setIfInBounds B (.mapIter (some v) es.length (seen++[j]).toArray es.length)}:=by simp[setObj,Sem.run,Y,M,O,q6]
  simp only[J,Result.andThen_ok,Sem.run_pure,c3]
 unfold Oper.wp;rw[g,Oper.upon_value];obtain⟨s1,s2⟩:=s.sim.setM (E':=.it es.length (seen++[j])) (o':=.mapIter (some v) es.length (seen++[j]).toArray es.length) (w':={l with heap:=w.heap.setIfInBounds B (.mapIter (some v) es.length (seen++[j]).toArray es.length)}) f rfl rfl q2 q4 (λr e=>by cases e) rfl Z al ad
  ⟨B,q2,q3,by simp[F,qc]⟩
 refine⟨_,_,_,_,rfl,C j _ (As R) (by rw[<-O];exact m2),.tup q! λi u d f n=>?_,s1,s2⟩;rcases i with _|_|_|i;simp at f n;subst f n;exact .bool true;simp at f n;subst f n;exact .int _ _;simp at f n;subst f n;exact c4 _;simp at f
theorem JE.entry{x:Operand}{id m j:Nat}{k:IntKind}{es:List (Int×AZ)}{seen:List Nat}{p:Int×AZ}(l:o.op= .entry x)(A:BM env x= .itp id m)(f:H[id]? =some (.it es.length (seen++[j])))(r:H[m]? =some (.mp k es))
  (v:es[j]? =some p) (y:K (.tup [.int k p.1,p.2]) H):JE P N o env H K:=by
 apply C1 (by rw[l];rfl);intro X h a w s Q;obtain⟨B,C,b,q1,q2,q3,q4,J,q5,q6,q7⟩:=AFP s A f r;obtain⟨e,D,n,q,E⟩:=q7 j p v;have t:b.find? (λx=>x.born==j)=some e:=by
  rw[<-Array.find?_toList,<-n];refine find_born e b.toList ?_ k!;have I:b.toList.map (·.born)=List.range b.size:=by refine Is λi=>?_;rw[CM,PS];rcases Aw i b.size with z|z;obtain⟨e,F,G,_⟩:=q7 i _ (As (by omega:i<es.length));grind;grind
  grind
 have c:(execOp a.eval o).run P w= .ok (.value (.tuple #[.int k p.1,e.val])) w:=by unfold execOp;rw[l];simp only[q1];simp[Instr.entry,getObj,Sem.run,q4,q5,q6,t,q]
 unfold Oper.wp;rw[c,Oper.upon_value];refine⟨_,_,h,H,rfl,y,.tup q! λi u d f g=>?_,s.sim,He.refl _ _ _⟩;rcases i with _|_|i;simp at f g;subst f g;exact .int _ _;grind;grind
end
mutual
def Ty.flat:Ty->Bool
 | .list _=>false
 | .arr _ t=>t.flat
 | .prod ts=>ts.flat
 |_=>true
def Rl.flat:Rl->Bool
 | .one t=>t.flat
 | .cons t ts=>t.flat&&ts.flat
end
def Plain(v:AZ):Prop:= ∀(x:Cx) (c:Value),Br x v c-> ∀y,Br y v c
theorem Plain.agg{a:List AZ}(h: ∀v∈a,Plain v):Plain (.agg a):=λx c r y=>by
 cases r with
 |agg e f i=>exact .agg e f λj v d b g=>h v (BN b) x d (i j v d b g) y
mutual
theorem Ty.plain_cells: ∀(t:Ty),t.flat=true-> ∀x:t.D,∀v∈(t.enc x).cells,Plain v
 | .bool,_,b,v,d=>by simp only[Ty.enc,AZ.cells,BC]at d;subst d;exact λ_ c r y=>by cases r;exact .bool _
 | .int k,_,n,v,d=>by simp only[Ty.enc,AZ.cells,BC]at d;subst d;exact λ_ c r y=>by cases r;exact .int _ _
 | .str,_,s,v,d=>by
  simp only[Ty.enc,AZ.cells,BC]at d;subst d;exact λ_ c r y=>by
   cases r with
   |str t e=>exact .str t e
 | .list t,h,_,_,_=>by cases h
 | .arr n t,h,a,v,d=>by simp only[Ty.enc,AZ.cells,Hi]at d;obtain⟨i,_,d⟩:=d;exact t.plain_cells h _ v d
 | .prod ts,h,x,v,d=>ts.plain_cells h x v d
theorem Rl.plain_cells: ∀(b:Rl),b.flat=true-> ∀x:b.D,∀v∈b.cells x,Plain v
 | .one t,h,x,v,a=>t.plain_cells h x v a
 | .cons t b,h,x,v,a=>by simp only[Rl.flat,BW]at h;simp only[Rl.cells,An]at a;rcases a with a|a;exact t.plain_cells h.1 _ v a;exact b.plain_cells h.2 _ v a
end
theorem Ty.plain(t:Ty)(h:t.flat=true)(x:t.D):Plain (t.enc x):=by have a:=t.plain_cells h x;cases t<;>grind[Plain.agg,Ty.enc,AZ.cells]
section
variable {R:Type}
def sG(P:Program)(H:Aq)(t:TypeId)(k:TV->Aq->Option R):Option R:=
 match P.underlying t with
 |some (.map kt et)=>
  match P.underlying kt,zT P 1000 et with
  |some (.int kk),some ty=>k (.c (.raw (.mp H.length))) (H++[.mp false kk ty []])
  |_,_=>none
 |_=>none
def lU(P:Program)(H:Aq)(t:TypeId)(m kx v:TV)(k:TV->Aq->Option R):Option R:=
 match P.underlying t with
 |some (.map kt _)=>
  match m,kx with
  | .c (.raw (.mp id)),.c (.it kk n)=>
   match P.underlying kt,H[id]? with
   |some (.int k1),some (.mp false k2 ty es)=>
    if k1=kk/\k2=kk then
     match ty.flat with
     |true=>match ty.data v with|some x=>k Us (H.set id (.mp false k2 ty (Pq n x es)))|none=>none
     |false=>none
    else none
   |_,_=>none
  |_,_=>none
 |_=>none
def vY(P:Program)(H:Aq)(t:TypeId)(g:Bool)(m kx:TV)(k:TV->Aq->Option R):Option R:=
 match P.underlying t with
 |some (.map kt et)=>
  match m,kx with
  | .c (.raw (.mp id)),.c (.it kk n)=>
   match P.underlying kt,H[id]?,AAT P et with
   |some (.int k1),some (.mp _ k2 ty es),some z=>
    if k1=kk/\k2=kk then
     match AZ.beq z (ty.enc ty.zero)with
     |true=>k (bif g then .tup [ty.tv ((Ku n es).getD ty.zero),.c (.bl (Ku n es).isSome)]else ty.tv ((Ku n es).getD ty.zero)) H
     |false=>none
    else none
   |_,_,_=>none
  |_,_=>none
 |_=>none
variable {P:Program} {N:Nat} {o:Oper} {env:Bf} {H:Aq} {k:TV->Aq->Option R} {r:R}
theorem sH(ok:QH env H)(b:o.op= .makeMap a none)(h:sG P H a k=some r): ∀F,nL P N o env H F k r:=by intro F;unfold sG at h;split at h;split at h;rename_i t c _ _;have st:CR H (H++[.mp false t c []]):=CR.push H _;refine⟨_,_,JE.makeMap t b ⟨?_,?_⟩,h,Js trivial,PR ok.heap trivial,st,Frame.push F H _⟩;show AZ.mp (BL H).length=AZ.mp H.length;rw[Cc];rw[Q1];rfl;cases h;cases h
def oT{u:Operand}(ok:QH env H)(E:o.op= .mapUpdate a c L u)(h:lU P H a (JG env c) (JG env L) (JG env u) k=some r):nL P N o env H (List.range H.length) k r:=by
 have b:=K0 env;unfold lU at h;split at h;rename_i K I F;split at h;rename_i id J n D C;split at h;rename_i k1 q m d g i;split at h;rename_i f;obtain⟨w,A⟩:=f;subst w A;split at h;rename_i e;split at h;rename_i x G;have st:CR H (H.set id (.mp false q m (Pq n x d))):=CR.set i rfl λ_ _ _ _ _ h=>by cases h
 refine⟨Us,_,JE.mapUpdate (id:=id) (k:=q) (n:=n) (v:=m.enc x) (es:=d.map λp=>(p.1,m.enc p.2)) E (by rw[b,D];rfl) (by rw[b,C];rfl) (λy t l z=>?_) F g (by rw[FU,i];rfl) ⟨rfl,?_⟩,h,fm,Ug st ok.heap trivial,st,λj B hn=>(hn (Hj.2 B)).elim⟩;rw[b]at l;exact m.plain e x y t (L7 G y t l) z;rw[Nd,<-xP];rfl;cases h;cases h;cases h;cases h;cases h;cases h
theorem tQ(ok:QH env H)(y:o.op= .lookup a c L A)(h:vY P H a A (JG env c) (JG env L) k=some r): ∀F,nL P N o env H F k r:=by
 intro F;have i:=K0 env;unfold vY at h;split at h;rename_i G D j;split at h;rename_i id E n x w;split at h;rename_i k1 ro C t m z f u B;split at h;rename_i d;obtain⟨l,q⟩:=d;subst l q;split at h;rename_i s;have e:(Ku n (m.map λp=>(p.1,t.enc p.2))).getD z=(t.tv ((Ku n m).getD t.zero)).enc:=by rw[sJ,beq_eq _ _ s,Ty.tv_enc];cases Ku n m<;>rfl
 refine⟨_,H,JE.lookup (id:=id) (k:=C) (n:=n) (z:=z) (g:=A) (es:=m.map λp=>(p.1,t.enc p.2)) y (by rw[i,x];rfl) (by rw[i,w];rfl) j f B (by rw[FU,u];rfl) ⟨?_,rfl⟩,h,?_,ok.heap,CR.refl H,Frame.refl F H⟩;rw[e,sJ];cases A<;>cases Ku n m<;>rfl;cases A;exact Ty.tv_ok _ _;refine Q7 λv b=>?_;rcases Au.1 b with rfl|b;exact Ty.tv_ok _ _;simp at b;subst b;exact Js trivial;cases h;cases h;cases h;cases h;cases h
end
inductive Tgt where
 |fn (F:FuncId)
 |yd (id:Nat)
abbrev S3:= ∀{R:Type},Tgt->List TV->Aq->(TV->Aq->Option R)->Option R
def fV(ops:Array Oper)(g:Option (Nat×Bool))(env:Bf):Option Bool:=
 match g with
 |none=>some true
 |some (j,want)=>
  match (ops[j]?).bind (·.dst)with
  |some d=>match env.get d with| .c (.bl b)=>some (b==want)| .tup []=>some false|_=>none
  |none=>none
def Kv:List Bu->List Nat
 |[]=>[]
 | .own id _ _ _::r=>id::Kv r
 |_::r=>Kv r
def behind(H:Aq)(v:TV):List Nat:=
 match v with
 | .c (.raw (.ptr id 0 0))=>match H[id]? with|some (.live false cs)=>Kv cs|_=>[]
 |v=>Kv v.refs
def IG:List Nat->Bf->Aq->Bf×Aq
 |[],env,H=>(env,H)
 |id::r,env,H=>match frz id env H with|some (e,h)=>IG r e h|none=>IG r env H
def pI:List S5->FuncId->Option S5
 |[],_=>none
 |c::r,F=>match Nat.beq c.f F with|true=>some c|false=>pI r F
def jW(env:Bf)(op:Op):Option (FuncId×List TV):=
 match op with
 | .call c=>
  match c.callee with
  | .value f=>match JG env f with| .c (.raw (.fn (.func F) first caps))=>some (F,first.map tvA++c.args.toList.map (JG env)++caps.map tvA)|_=>none
  |_=>none
 |_=>none
def ss(env:Bf)(c:Call):Option (Nat×List TV):=
 match c.callee with
 | .value f=>match JG env f with| .c (.raw (.yf id))=>some (id,c.args.toList.map (JG env))|_=>none
 |_=>none
def kU(cs:List S5)(env:Bf)(H:Aq)(op:Op):List Nat:=
 match op with
 | .call c=>
  match jW env (.call c)with
  |some (F,vs)=>match pI cs F with|some ct=>(AIG ct vs).flatMap (behind H)|none=>[]
  |none=>[]
 | .buildSlice _ _ parts=>parts.toList.flatMap λp=>Kv (JG env p.2).refs
 | .store _ a v=>match JG env a with| .aptr .. =>Kv (JG env v).refs| .bptr .. =>Kv (JG env v).refs|_=>[]
 | .slice _ x _ _ _=>Kv (JG env x).refs
 |_=>[]
def Vq(H H':Aq):Aq:=H++H'.drop H.length
def isNil:List R->Bool
 |[]=>true
 |_=>false
section
variable {R:Type}
def vM(cs:List S5)(env:Bf)(H:Aq)(op:Op):List Nat:=
 match op with
 | .store _ a _=>idT (JG env a)
 | .mapUpdate .. =>List.range H.length
 | .call c=>
  match jW env (.call c)with
  |some (F,vs)=>match pI cs F with|some ct=>AED ct vs|none=>(match isNil vs with|true=>[]|false=>List.range H.length)
  |none=>
   match ss env c with
   |some _=>List.range H.length
   |none=>match c with|{callee:=.builtin .append,args:=⟨[s,_]⟩,.. }=>idT (JG env s)|_=>[]
 |_=>[]
def wo(P:Program)(cs:List S5)(call:S3)(env:Bf)(H:Aq)(op:Op)(k:TV->Aq->Option R):Option R:=
 match op with
 | .alloc t=>yG P H t k
 | .box _ x=>ADz H (JG env x) k
 | .store t a v=>storeT P H t (JG env a) (JG env v) k
 | .buildSlice t len parts=>Y7 P env H t len parts k
 | .makeSlice t x y=>fY P H t (JG env x) (JG env y) k
 | .makeMap t none=>sG P H t k
 | .mapUpdate t m x y=>lU P H t (JG env m) (JG env x) (JG env y) k
 | .lookup t m x g=>vY P H t g (JG env m) (JG env x) k
 | .convert s d x=>
  match kd P d with
  | .bytes=>sn P H s d (JG env x) k
  |_=>quT P env H (.convert s d x) λv=>k v H
 | .call c=>
  match jW env (.call c)with
  |some (F,vs)=>
   match Enters P F with
   |true=>
    match pI cs F with
    |some ct=>zh ct vs H k
    |none=>match isNil vs with|true=>call (.fn F) [] (H.map D0.lock) λv H'=>k v (Vq H H')|false=>call (.fn F) vs H k
   |false=>none
  |none=>
   match ss env c with
   |some (id,vs)=>call (.yd id) vs H k
   |none=>
    match c with
    |{callee:=.builtin .append,args:=⟨[s,x]⟩,argTypes:=⟨[t,t']⟩}=>match Nat.beq t t' with|true=>py P H t (JG env s) (JG env x) k|false=>none
    |c=>quT P env H (.call c) λv=>k v H
 |op=>quT P env H op λv=>k v H
def force(f:Bool)(v:TV)(k:TV->Option R):Option R:=
 match f with
 |true=>match v with| .c (.bl b)=>cond b (k (.c (.bl true))) (k (.c (.bl false)))|v=>k v
 |false=>k v
def guards(ops:Array Oper):List Nat:=ops.toList.filterMap λo=>o.guard.map (·.1)
def OD(j:Nat):List Nat->Bool
 |[]=>false
 |i::r=>match Nat.beq i j with|true=>true|false=>OD j r
def AGE{α:Type}(l:List α)(i:Int)(z:α):Option (List α):=if 0<=i/\i<=(l.length:Int)then some (l.take i.toNat++List.replicate (l.length-i.toNat) z)else none
def zk(o1 o2:Oper):Option (Nat×TypeId×Operand×Operand):=
 match o1.dst,o1.op,o1.guard,o2.dst,o2.op,o2.guard with
 |some d,.slice t x (some lo) none none,none,none,.call {callee:=.builtin .clear,args:=⟨[.tmp d']⟩,argTypes:=⟨[t']⟩},none=>match Nat.beq d d'&&Nat.beq t t' with|true=>some (d,t,x,lo)|false=>none
 |_,_,_,_,_,_=>none
def AF4(P:Program)(H:Aq)(t:TypeId)(x lo:TV)(k:Aq->Option R):Option R:=
 match x,lo with
 | .c (.own id ver _ _),.c (.it _ i)=>
  match H[id]? with
  |some (.buf false t2 l n2 ver2)=>
   match Nat.beq ver ver2,elT P t,eI P t with
   |true,some te,some (none,e,_)=>
    if h:(Ty.list t2).beq (Ty.list te)=true then
     match su P e with
     |some z=>match te.all z with|some zd=>(AGE (α:=te.D) (Ty.cast h l) i zd).bind λl'=>k (H.set id (.buf false te l' n2 ver2))|none=>none
     |none=>none
    else none
   |_,_,_=>none
  |_=>none
 |_,_=>none
def AD8(o:Oper):List Oper->Option (Nat×TypeId×Operand×Operand)
 |o2::_=>zk o o2
 |[]=>none
def xh(P:Program)(cs:List S5)(call:S3)(ops:Array Oper)(gs:List Nat)(sk:Bool):List Oper->Nat->Bf->Aq->(Bf->Aq->Option R)->Option R
 |[],_,env,H,k=>k env H
 |o::r,j,env,H,k=>
  match sk with
  |true=>xh P cs call ops gs false r (j+1) env H k
  |false=>
   match AD8 o r with
   |some (d,t,x,lo)=>AF4 P H t (JG env x) (JG env lo) λH'=>xh P cs call ops gs true r (j+1) (env.put d Us) H' k
   |none=>
    match fV ops o.guard env with
    |some true=>
     match IG (kU cs env H o.op) env H with
     |(env1,H1)=>wo P cs call env1 H1 o.op λv H'=>force (OD j gs) v λv'=>xh P cs call ops gs false r (j+1) (env1.putO o.dst v') H' k
    |some false=>xh P cs call ops gs false r (j+1) (env.putO o.dst (.tup [])) H k
    |none=>none
end
def my(H:Aq)(v:TV):Prop:= ∀id ver t n,Bu.own id ver t n∈v.refs-> ∀t' l n' ver',H[id]? ≠some (.buf false t' l n' ver')
structure FO(A:List Nat)(env:Bf)(H:Aq)(env':Bf)(H':Aq):Prop where
 step:CR H H'
 same: ∀t,t∉A->my H (env.get t)->env'.get t=env.get t
def my.step(h:CR G b)(d:e.ok G)(k:my G e):my b e:=by intro id a t n c;have hr:=d (.own id a t n) c;exact h.nb id hr.1 (k id a t n c)
theorem FO.refl(A:List Nat)(env:Bf)(H:Aq):FO A env H env H:=⟨CR.refl H,λ_ _ _=>rfl⟩
def FO.trans{A B:List Nat}{d g i:Bf}{c e f:Aq}(ok: ∀p∈d,p.2.ok c)(a:FO A d c g e)(b:FO B g e i f):FO (A++B) d c i f:=by refine⟨a.step.trans b.step,λt l k=>?_⟩;have j:=a.same t (λh=>l (HG _ h)) k;rw[b.same t (λh=>l (OT _ h)) (by rw[j];exact k.step a.step (oL ok t)),j]
def FO.mono{B:List Nat}(a:FO O g b Y G)(h: ∀t,t∈O->t∈B):FO B g b Y G:=⟨a.step,λt A f=>a.same t (λq=>A (h t q)) f⟩
def vR{t u:Nat}(h:u≠t): ∀env:Bf,(Bf.del t env).get u=env.get u
 |[]=>rfl
 |(k,v)::r=>by simp only[Bf.del];by_cases a:k=t;subst a;rw[Ir];simp only[Bf.get,beq_false (Oa h)];exact vR h r;rw[beq_false a];simp only[Bf.get];rw[vR h r]
def nJ(h:n≠N):(g.put N e).get n=g.get n:=by simp_all[Bf.put,Bf.get,beq_false,Oa,vR]
theorem vZ{p:Nat×TV}{t:Nat}: ∀{env:Bf},p∈Bf.del t env->p∈env
 |(k,v)::r,h=>by simp only[Bf.del]at h;split at h;exact CZ _ (vZ h);rcases Au.1 h with rfl|h;simp;exact CZ _ (vZ h)
theorem fe{d:Option Nat}(h: ∀p∈g,p.2.ok b)(H:e.ok b): ∀p∈g.putO d e,p.2.ok b:=by
 cases d with
 |none=>exact h
 |some t=>intro p a;rcases Au.1 a with rfl|a;exact H;grind[vZ]
def mi{l:List t.D}(g:b[N]? =some (.buf false t l n U))(j: ∀a f e d,v= .own a f e d-> ∀i l2 h c,b[a]? ≠some (.buf false i l2 h c)):NK N U t l v=v:=by
 cases v with
 |own a f e d=>simp only[NK];split<;>simp_all
 |_=>rfl
mutual
theorem rR{H:Aq}{id n k:Nat}{t:Ty}{l:List t.D}(d:H[id]? =some (.buf false t l n k)): ∀{v:TV},my H v->mj id k t l v=v
 | .c z,h=>by simp only[mj];rw[mi d λa j i f e=>h a j i f (by simp[TV.refs,e])]
 | .g b,h=>by
  simp only[mj,TV.g.injEq];have: ∀b:List Bu,(∀a j i f,Bu.own a j i f∈b-> ∀s l2 q m,H[a]? ≠some (.buf false s l2 q m))->b.map (NK id k t l)=b:=by
   intro b;induction b with
   |nil=>intro _;rfl
   |cons z r p=>intro h;rw[Bi,p λa j i f o=>h a j i f (by simp[o]),mi d λa j i f e=>h a j i f (by simp[e])]
  exact this b h
 | .tup vs,h=>by simp only[mj];rw[pK d (vs:=vs) h]
 | .aptr ..,_=>rfl
 | .bptr ..,_=>rfl
 | .vptr ..,_=>rfl
theorem pK{H:Aq}{id n c:Nat}{t:Ty}{l:List t.D}(b:H[id]? =some (.buf false t l n c)): ∀{vs:List TV},my H (.tup vs)->eW id c t l vs=vs
 |[],_=>rfl
 |v::r,h=>by simp only[eW];rw[rR b (v:=v) λa g f e d=>h a g f e (by simp only[TV.refs,TV.refsL,An];exact .inl d),pK b (vs:=r) λa g f e d=>h a g f e (by simp only[TV.refs,TV.refsL,An]at d⊢;exact .inr d)]
end
def zx{f:TV->TV}(a:f Us=Us)(t:Nat): ∀env:Bf,Bf.get (env.map λp=>(p.1,f p.2)) t=f (env.get t)
 |[]=>a.symm
 |(k,v)::r=>by simp only[Bi,Bf.get];split;rfl;exact zx a t r
def ACT(h:frz N g b=some (Y,G))(t:Nat)(d:my b (g.get t)):Y.get t=g.get t:=by unfold frz at h;split at h;rename_i e l n H a;obtain⟨rfl,rfl⟩:=h;rw[zx (f:=mj N H e l) rfl];exact rR a d;cases h
def Q3: ∀(a:List Nat) {env:Bf} {H:Aq},QH env H→QH (IG a env H).1 (IG a env H).2∧FO [] env H (IG a env H).1 (IG a env H).2∧
  ∀N,GF N (BL H).length (CA env) (BL H) (CA (IG a env H).1) (BL (IG a env H).2)
 |[],env,H,ok=>⟨ok,FO.refl _ _ _,λN=>GF.refl N _ _⟩
 |id::r,env,H,ok=>by simp only[IG];split;rename_i e h b;obtain⟨f,c,j⟩:=AGB ok b;obtain⟨g,i,k⟩:=Q3 r f;refine⟨g,(FO.trans (A:=[]) (B:=[]) ok.env ⟨c,λt _ d=>ACT b t d⟩ i),λN=>(j N).trans ((k N).of_le (by rw[Cc,Cc];exact c.len))⟩;exact Q3 r ok
section
variable {P:Program} {N:Nat} {R:Type}
def za(P:Program)(args:List AZ)(H:A0)(v:AZ)(H':A0):Tgt->Prop
 | .fn F=>EW P F args H (C8 v H')
 | .yd id=> ∀(N:Nat) (o:Oper) (c:Call) (f:Operand) (env:Env),o.op= .call c->c.callee= .value f->BM env f= .yf id->c.args.toList.map (BM env)=args->JE P N o env H (C8 v H')
def Wm(P:Program)(call:S3):Prop:= ∀{R:Type} tg vs H (k:TV->Aq->Option R) r,(∀v∈vs,v.ok H)->(∀e∈H,e.ok H)->call tg vs H k=some r->
 ∃v H',za P (vs.map TV.enc) (BL H) v.enc (BL H') tg/\k v H'=some r/\v.ok H'/\(∀e∈H',e.ok H')/\CR H H'
theorem ii(h:fV j q g=some true){B:Prop}(a:V):Xb j q (CA g) V B:=by unfold fV at h;grind[Xb,V6,UH,TV.enc,Bu.one]
theorem mv(h:fV j q g=some false){B:Prop}(b:B):Xb j q (CA g) V B:=by unfold fV at h;unfold Xb;split at h;cases h;rename_i a c;unfold V6;split at h;rename_i d f;simp only[f,UH];split at h;grind[TV.enc,Bu.one];rename_i e;simp[e];exact b;cases h;cases h
theorem vU(e: ∀d b,g.get d= .c (.bl b)->Y.get d= .c (.bl b))(h:fV j q g=some true):fV j q Y=some true:=by cases q<;>grind[fV]
theorem lK: ∀{a:List S5} {F:FuncId} {c:S5},pI a F=some c->c∈a/\c.f=F
 |d::r,F,c,h=>by simp only[pI]at h;split at h;simp_all;obtain⟨b,e⟩:=lK h;grind
theorem vB{e:Op}(h:jW g e=some (S,m)):Go.Ab.callT (BM (CA g)) e=some (.inl (S,m.map TV.enc))/\ ∀H,(∀p∈g,p.2.ok H)-> ∀v∈m,v.ok H:=by
 unfold jW at h;split at h;rename_i c;split at h;rename_i f d;split at h;rename_i G first a b
 simp at h;obtain⟨rfl,rfl⟩:=h;have j:BM (CA g) f= .fn (.func G) first a:=by rw[K0,b];rfl
 have k: ∀l:List AZ,(l.map tvA).map TV.enc=l:=by
  intro l;conv=>rhs;rw[<-dJ l]
  grind[List.map_congr_left,fo]
 refine⟨?_,λH F v i=>?_⟩;simp_all[Go.Ab.callT,K0];simp at i;grind[jC,eT];cases h;cases h;cases h
theorem xv{c:Call}(h:ss g c=some (N,m)):(∃f,c.callee= .value f/\BM (CA g) f= .yf N/\c.args.toList.map (BM (CA g))=m.map TV.enc)/\ ∀H,(∀p∈g,p.2.ok H)-> ∀v∈m,v.ok H:=by unfold ss at h;split at h;rename_i f a;split at h;rename_i i b;injection h with h;injection h with d e;subst d e;refine⟨⟨f,a,by rw[K0,b];rfl,?_⟩,λH j v k=>?_⟩;grind[List.map_congr_left,K0];grind[eT];cases h;cases h
def AGZ{k:TV->Aq->Option R}{r:R}(ok:QH g b)(h:quT P g b o.op (λv=>k v b)=some r): ∀F,nL P N o g b F k r:=by intro F;obtain⟨v,a,H,c⟩:=uc ok h;exact⟨v,b,Dk a ⟨rfl,rfl⟩,H,c,ok.heap,CR.refl b,Frame.refl F b⟩
theorem tH(H:Aq):BL (H.map D0.lock)=BL H:=by grind[BL,List.map_congr_left,sD]
theorem xM(h: ∀e∈b,e.ok b): ∀e∈b.map D0.lock,e.ok (b.map D0.lock):=by
 have f: ∀id a t n,VM b id a t n->VM (b.map D0.lock) id a t n:=λid a t n q=>by
  refine⟨by simpa using q.1,λro y l w k c=>?_⟩;rw[CM]at c;cases j:b[id]? with
  |none=>grind
  |some e=>
   rw[j]at c;simp at c;cases e<;>simp only[D0.lock]at c<;>first|(cases c;done)|skip
   injection c with _ m v o p;subst m o p;exact q.2 _ _ _ _ _ j
 have d: ∀x:Bu,x.ok b->x.ok (b.map D0.lock):=λx i=>by
  cases x with
  |own id a t n=>exact f _ _ _ _ i
  |_=>trivial
 intro e c;obtain⟨u,r,rfl⟩:=Bv.1 c;have g:=h u r;cases u with
 |dead=>trivial
 |live H s=>exact λx i=>d x (g x i)
 |buf=>exact g
 |lp=>exact g
 |mp=>exact g
theorem AB3(L: ∀e∈b,e.ok b)(st:CR (b.map D0.lock) G)(F: ∀e∈G,e.ok G):
  (∀v:TV,v.ok G->v.ok (Vq b G))/\(∀e∈Vq b G,e.ok (Vq b G))/\CR b (Vq b G)/\ ∀x:Cx,Tq x x (BL G) (BL (Vq b G)):=by
 have K:b.length<=G.length:=by simpa using st.len
 have c:(Vq b G).length=G.length:=by grind[Vq,List.length_append,List.length_drop]
 have o: ∀j,j<b.length->(Vq b G)[j]? =b[j]? :=λj p=>CT p;have I: ∀j,b.length<=j->(Vq b G)[j]? =G[j]? :=λj p=>by grind[Vq]
 have keep: ∀(j:Nat) (e:D0),b[j]? =some e->e≠ .dead->G[j]? =some e.lock:=λj e p a=>by apply st.ro j e.lock (by rw[CM,p];rfl);cases e<;>first|rfl|exact(a rfl).elim
 have A: ∀id f t n,VM G id f t n->VM (Vq b G) id f t n:=λid f t n q=>by refine⟨by rw[c];exact q.1,λro P l O D d=>?_⟩;rcases Aw id b.length with h|h;rw[o id h]at d;exact q.2 _ _ _ _ _ (keep id _ d q!);rw[I id h]at d;exact q.2 _ _ _ _ _ d
 have k: ∀x:Bu,x.ok G->x.ok (Vq b G):=λx C=>by
  cases x with
  |own id f t n=>exact A _ _ _ _ C
  |_=>trivial
 have B:CR b (Vq b G):=by refine⟨by rw[c];exact K,λid f t n q=>⟨by rw[c];exact DN q.1 K,λro P l O D d=>?_⟩,λid e d _=>?_,λid w h=>by rw[o id w];exact h,λid w _ _ _ _ _ _ _ _ h=>by rw[o id w]at h;exact⟨_,_,h⟩⟩;rw[o id q.1]at d;exact q.2 _ _ _ _ _ d;grind
 refine⟨λv N x C=>k x (N x C),λe d=>?_,B,λx=>⟨by rw[Cc,Cc,c],λj Q p=>?_⟩⟩;rcases An.1 d with d|d;exact B.ent (L e d);have E:=F e (OV d);cases e with
 |dead=>trivial
 |live H s=>exact λx C=>k x (E x C)
 |buf=>exact E
 |lp=>exact E
 |mp=>exact E
 rw[FU]at p;cases J:(Vq b G)[j]? with
 |none=>grind
 |some y=>
  rw[J]at p;simp at p;subst p;have same:(BL G)[j]? =some y.enc->y.enc= .dead\/(∃g s u,(BL G)[j]? =some (.live g s)/\y.enc= .live g u/\u.length=s.length/\ ∀(i:Nat) (z:AZ),u[i]? =some z-> ∃v,s[i]? =some v/\Conv x x v z)\/((BL G)[j]? =some y.enc/\ ∀g s,y.enc≠ .live g s):=λh=>by
   cases y with
   |dead=>exact .inl rfl
   |live H s=>exact .inr (.inl ⟨_,_,_,h,rfl,rfl,λi z h=>⟨z,h,λ_ r=>r⟩⟩)
   |buf H t l m f=>exact .inr (.inl ⟨_,_,_,h,rfl,rfl,λi z h=>⟨z,h,λ_ r=>r⟩⟩)
   |lp=>exact .inr (.inr ⟨h,λ_ _ h=>by cases h⟩)
   |mp=>exact .inr (.inr ⟨h,λ_ _ h=>by cases h⟩)
  rcases Aw j b.length with h|h;rw[o j h]at J;by_cases M:y= .dead;subst M;exact .inl rfl;grind[FU,sD];grind[FU]
theorem pG{u:List S5}(y: ∀c∈u,c.Ok P){i:S3}(l:Wm P i){k:TV->Aq->Option R}{r:R}(ok:QH g b)(h:wo P u i g b o.op k=some r):nL P N o g b (vM u g b o.op) k r:=by
 have s: ∀t,o.op=t->quT P g b t (λv=>k v b)=some r-> ∀F,nL P N o g b F k r:=λt e h=>AGZ ok k!;generalize a:o.op=t at h;unfold wo at h;split at h;exact u5 ok a h;exact yM ok a h;exact wC ok a h;exact mD ok a h;exact oS ok a h;grind[sH];exact oT ok a h;grind[tQ];split at h;exact so ok a h;grind;rename_i c;split at h;rename_i F q m;obtain⟨K,C⟩:=vB m;split at h;rename_i x;split at h;rename_i L n;obtain⟨M,O⟩:=lK n;obtain⟨v,d,q1,q2,q3,q4,q5,q6⟩:=wX (y L M) (C b ok.env) ok.heap h;rw[O]at q1;exact⟨v,d,nD k! x q1,q2,q3,q4,q5,by simp only[vM,m,n];exact q6⟩;rename_i n;split at h;rename_i H;have A:q=[]:=by cases q<;>first|rfl|cases H
 subst A;obtain⟨v,d,q1,q2,q3,q4,q5⟩:=l (.fn F) [] (b.map D0.lock) _ r (λv Q=>by cases Q) (xM ok.heap) h;obtain⟨E,G,I,J⟩:=AB3 ok.heap q5 q4;have B:EW P F [] (BL b) (C8 v.enc (BL d)):=by grind[za,tH]
 refine⟨v,Vq b d,JE.after (nD k! x B) λX W w _=>?_,q2,E v q3,G,I,?_⟩;have hr:=(J (cx X W (BL d) w)).onto;exact⟨hr,λc r=>r.later hr.later⟩;simp only[vM,m,n];exact λj p _=>CT p;rename_i H;obtain⟨v,d,q1,q2,q3,q4,q5⟩:=l (.fn F) q b k r (C b ok.env) ok.heap h;have z:=H;exact⟨v,d,nD (by rw[a];exact K) x q1,q2,q3,q4,q5,by simp only[vM,m,n,z];exact λj p hn=>(hn (Hj.2 p)).elim⟩;cases h;rename_i m;split at h;rename_i id q D;obtain⟨⟨f,S,T,U⟩,V⟩:=xv D;obtain⟨v,d,q1,q2,q3,q4,q5⟩:=l (.yd id) q b k r (V b ok.env) ok.heap h;exact⟨v,d,q1 N o c f (CA g) a S T U,q2,q3,q4,q5,by simp only[vM,m,D];exact λj p hn=>(hn (Hj.2 p)).elim⟩;grind[tC,Nat.eq_of_beq_eq_true,vM];grind
theorem lO{k:TV->Option R}{r:R}(h:force A e k=some r):k e=some r:=by unfold force at h;grind
def mU(ops:List Oper):List Nat:=ops.filterMap (·.dst)
def qy{b:Oper}{d:Nat}(h:zk o b=some (d,a,L,c)):o.dst=some d/\o.op= .slice a L (some c) none none/\o.guard=none/\b.dst=none/\b.op= .call {callee:=.builtin .clear,args:= #[.tmp d],argTypes:= #[a]}/\b.guard=none:=by unfold zk at h;split at h;rename_i e f g i j k;split at h<;>simp_all;cases h
def uF{a:Ty}{z:List AZ}{b:a.D}(h:Dg z (a.enc b).cells): ∀n:Nat,Dg (List.replicate n z).flatten (a.E.cl (List.replicate n b))
 |0=>Dg.refl _
 |n+1=>by exact Dg.append h (uF h n)
theorem yQ{o1 o2:Oper}{d:Nat}{t:TypeId}{x lo:Operand}{env:Bf}{H:Aq}{k:Aq→Option R}{r:R}(ok:QH env H)(hc:zk o1 o2=some (d,t,x,lo))(h:AF4 P H t (JG env x) (JG env lo) k=some r):
  ∃v G,JE P N o1 (CA env) (BL H) (C8 v (BL H))/\JE P N o2 ((CA env).put d v) (BL H) (C8 (.tup []) (BL G))/\k G=some r/\(∀e∈G,e.ok G)/\CR H G:=by
 obtain⟨_,c2,_,c4,U,_⟩:=qy hc;unfold AF4 at h;split at h;rename_i id c t0 n0 kk i hx Z;split at h;rename_i a l b ap y;split at h;rename_i te e ax hb al F;split at h;rename_i S;split at h;rename_i z hz;split at h;rename_i zd ao;obtain⟨w,o,h⟩:=D2.1 h;have T:=Db hb;subst T;have u:=Ty.beq_eq _ _ S;injection u with u;subst u;have B:(Ty.cast S l:List a.D)=l:=rfl;rw[B]at o;have hr:VM H id c t0 n0:=by have:=eT ok.env x;rw[hx]at this;exact this (.own id c t0 n0) (by simp[TV.refs])
 obtain⟨_,q⟩:=hr.2 _ _ _ _ _ y;obtain⟨rfl,rfl⟩:=q rfl;have hn:b=l.length:=ok.heap _ (BN y);obtain⟨e',I,M⟩:=iM al;rw[I]at F;injection F with F;injection F with _ F;injection F with X Y;subst X Y;obtain⟨z1,z2⟩:=Ya hz;have p:=Fs ao;have C:(lvs z).length=a.sz:=by rw[<-p.1,a.enc_len]
 unfold AGE at o;split at o;rename_i hi;injection o with o;have O:CR H (H.set id (.buf false a w b c)):=CR.set y rfl λ_ _ _ _ _ e=>k!
 have J:D0.ok (H.set id (.buf false a w b c)) (.buf false a w b c):=by show b=w.length;grind
 have m:(BL H)[id]? =some (.live b (a.E.cl l)):=by rw[FU,y];rfl
 have A:id<(BL H).length:=k!
 have ex:BM (CA env) x= .sl id b a.sz 0 b:=by rw[K0,hx];rfl
 have el:BM (CA env) lo= .int kk i:=by rw[K0,Z];rfl
 have W:S2 (BL H) id b=true:=by simp[S2,m]
 have s: ∀v,BM ((CA env).put d v) (.tmp d)=v:=λv=>by simp[BM,Env.put,Env.get]
 have j:=a.E.clen l;have Q:a.E.sz=a.sz:=rfl;rw[Q]at j;have ad:Cb P (CA env) (BL H) o1.op=some (if i.toNat=0 then .sl id b a.sz 0 b else if i.toNat=b then .vs a.sz []else .sl id b a.sz (0+i.toNat*a.sz) (b-i.toNat)):=by
  rw[c2];have b1:Wo 0 (some (AZ.int kk i))=some i.toNat:=by grind[Wo,sK]
  have b2: ∀n,Wo n none=some n:=λ_=>rfl;simp only[Cb,ex,el,Bo,Option.map_none,jA,b1,b2,I];rw[if_pos ⟨trivial,a.sz_pos,o!,Ao _,Ao _,W,q!⟩];grind
 have g: ∀V,a.E.cl l=V->(BL H).set id (.live b V)=BL H:=λV ar=>by apply Is;grind
 have f:Dg (WA (a.E.cl l) (i.toNat*a.sz) (List.replicate (b-i.toNat) (lvs z)).flatten) (a.E.cl w):=by
  have e1:a.E.cl w=a.E.cl (l.take i.toNat)++a.E.cl (List.replicate (b-i.toNat) zd):=by grind[Tu.cl]
  have e2:(a.E.cl l).take (i.toNat*a.sz)=a.E.cl (l.take i.toNat):=by
   have e3:a.E.cl l=a.E.cl (l.take i.toNat)++a.E.cl (l.drop i.toNat):=by grind[List.take_append_drop,Tu.cl]
   have e4:(a.E.cl (l.take i.toNat)).length=i.toNat*a.sz:=by rw[a.E.clen,BQ,Q];grind
   grind
  have e5:(a.E.cl l).drop (i.toNat*a.sz+(List.replicate (b-i.toNat) (lvs z)).flatten.length)=[]:=by apply jN;simp[C];rw[<-Fb];grind
  unfold WA;rw[e1,e2,e5,C0];exact(Dg.refl _).append (uF p _)
 have L:JE P N o2 ((CA env).put d (if i.toNat=0 then .sl id b a.sz 0 b else if i.toNat=b then .vs a.sz []else .sl id b a.sz (0+i.toNat*a.sz) (b-i.toNat))) (BL H) (C8 (.tup []) (BL (H.set id (.buf false a w b c)))):=by
  have e6:BL (H.set id (.buf false a w b c))=(BL H).set id (.live b (a.E.cl w)):=by rw[Nd];rfl
  rw[e6];by_cases h0:i.toNat=0;rw[if_pos h0];refine JE.set_less A ?_ f;have:=JE.clear (N:=N) (K:=C8 (.tup []) _) U c4 I M z1 C (s (.sl id b a.sz 0 b)) m (by rw[j,hn];omega) ⟨rfl,rfl⟩;grind;rw[if_neg h0];by_cases h1:i.toNat=b;rw[if_pos h1];have e7:w=l:=t!
  rw[e7,g _ rfl];exact pr U (QP I).1 (s _) ⟨rfl,rfl⟩;rw[if_neg h1];refine JE.set_less A ?_ f;have:=JE.clear (N:=N) (K:=C8 (.tup []) _) U c4 I M z1 C (s (.sl id b a.sz (0+i.toNat*a.sz) (b-i.toNat))) m (by rw[j,<-hn,EK,<-Fb];apply OZ;omega) ⟨rfl,rfl⟩;grind
 exact⟨_,_,Dk ad ⟨rfl,rfl⟩,L,h,Ug O ok.heap J,O⟩;grind;cases h;cases h;cases h;cases h;cases h;cases h
def ADX:GF N (BL b).length ((CA g).put n u) (BL b) (CA (g.put n Us)) (BL b):=by
 refine Vm rfl λX d w s=>⟨Tq.refl _ _,λt f m=>?_⟩
 rw[mV]at m;rcases Au.1 m with e|m;injection e with a H;subst a H;exact⟨u,Iq,λc _=>.any c⟩;exact⟨f,CZ _ m,λ_ r=>r⟩
theorem ff{J:List S5}(m: ∀c∈J,c.Ok P){p:S3}(l:Wm P p){D:Array Oper}{gs:List Nat}: ∀(os:List Oper) (j:Nat) (env:Bf) (H:Aq) (k:Bf→Aq→Option R) (r:R),QH env H→xh P J p D gs false os j env H k=some r→
  ∃f i,WE P N D os (CA env) (BL H) (λe h=>e=CA f/\h=BL i)/\k f i=some r/\QH f i/\FO (mU os) env H f i
 |[],j,env,H,k,r,ok,h=>⟨env,H,⟨_,_,GF.refl _ _ _,rfl,rfl⟩,h,ok,FO.refl _ _ _⟩
 |o::os,j,env,H,k,r,ok,h=>by
  simp only[xh]at h;have B: ∀{e:Bf} {h:Aq} {v:TV},FO (mU [o]) e h (e.putO o.dst v) h:=by
   intro e h v;refine⟨CR.refl h,λt U _=>?_⟩;cases hd:o.dst with
   |none=>rfl
   |some d=>refine nJ λe=>U ?_;simp[mU,hd,e]
  have z: ∀t,t∈mU [o]++mU os->t∈mU (o::os):=by grind[mU]
  split at h;rename_i d t x lo y;cases os with
  |nil=>cases y
  |cons o2 E=>
   have hc:=y;obtain⟨c1,c2,c3,c4,c5,c6⟩:=qy hc;obtain⟨v,C,M,w2,T,W,st⟩:=yQ (N:=N) ok hc h;have g:QH (env.put d Us) C:=⟨fe (d:=some d) (st.env ok.env) fm,W⟩
   obtain⟨f,i,L,Y,F,G⟩:=ff m l E (j+1+1) _ C k r g T;refine⟨f,i,⟨CA env,BL H,GF.refl N _ _,?_⟩,Y,F,?_⟩;rw[c3];apply JE.mono M;rintro u _ ⟨rfl,rfl⟩;rw[c1];refine⟨(CA env).put d u,BL H,GF.refl N _ _,?_⟩;rw[c6];apply JE.mono w2;rintro _ _ ⟨rfl,rfl⟩;rw[c4];exact WE.weak ADX L;have Z:FO (mU [o]) env H (env.put d Us) C:=by exact⟨st,λu hu _=>nJ λe=>hu (by simp[mU,c1,e])⟩
   refine(FO.trans ok.env Z G).mono λu hu=>?_;grind[mU,List.mem_cons_of_mem]
  split at h;rename_i S;obtain⟨K,t1,M⟩:=Q3 (kU J env H o.op) ok;generalize IG (kU J env H o.op) env H=q at h K t1 M;obtain⟨env1,C⟩:=q;obtain⟨v,I,e1,e2,e3,e4,e5,_⟩:=pG (N:=N) m l K h;have O:=lO e2;have g:QH (env1.putO o.dst v) I:=⟨fe (e5.env K.env) e3,e4⟩
  obtain⟨f,i,L,E,F,G⟩:=ff m l os (j+1) _ I k r g O;refine⟨f,i,?_,E,F,?_⟩;refine⟨CA env1,BL C,M N,ii ?_ ?_⟩;exact vU (λd b hb=>by rw[t1.same d (λh=>by cases h) (by rw[hb];intro id al t n hm;simp[TV.refs]at hm),hb]) S;exact λrr X h0 a w s Q=>Vk (e1 rr X h0 a w s Q) (by rintro a' w' ⟨c,u,h',ad,ha,⟨rfl,rfl⟩,V,hs,hx⟩;exact⟨c,_,h',_,ha,by show WE P N D os ((CA env1).putO o.dst v.enc) (BL I) _;rw[<-XT];exact L,V,hs,hx⟩);have Z:FO (mU [o]) env1 C (env1.putO o.dst v) I:=by exact⟨e5,λt U T=>(B (h:=C)).same t U T⟩
  have:=(FO.trans (A:=[]) ok.env t1 (FO.trans K.env Z G))
  exact this.mono z;rename_i S;have g:QH (env.putO o.dst (.tup [])) H:=⟨fe ok.env (Q7 λv V=>by cases V),ok.heap⟩
  obtain⟨f,i,L,E,F,G⟩:=ff m l os (j+1) _ H k r g h;refine⟨f,i,⟨CA env,BL H,GF.refl N _ _,mv S ?_⟩,E,F,(FO.trans ok.env B G).mono z⟩;have:(CA env).putO o.dst (.tup [])=CA (env.putO o.dst (.tup [])):=by rw[XT];rfl
  grind;cases h
end
end Go.Ab
