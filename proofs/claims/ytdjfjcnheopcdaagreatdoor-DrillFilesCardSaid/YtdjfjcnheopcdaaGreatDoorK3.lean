/- Texts of wip, joined and shortened by wip/tools/pack.py; nothing is assumed. -/
import Derived.Test.YtdjfjcnheopcdaaGreatDoorK2
import Derived.Laws.IdiomRangeMap
noncomputable section
set_option linter.all false
namespace Go.Ab
def WE(H:Aq)(id ver:Nat)(t:Ty)(n:Nat):Prop:=
 id<H.length/\ ∀ro t' l n' ver',H[id]? =some (.buf ro t' l n' ver')->ver<=ver'/\(ver=ver'->t'=t/\n'=n)
def Bs.ok(H:Aq):Bs->Prop
 | .own id ver t n=>WE H id ver t n
 |_=>True
def lok(H:Aq)(cs:List Bs):Prop:= ∀x∈cs,x.ok H
mutual
def TV.refs:TV->List Bs
 | .c x=>[x]
 | .g cs=>cs
 | .aptr .. =>[]
 | .bptr id ver t n _ _=>[.own id ver t n]
 | .vptr cs _=>cs
 | .tup vs=>TV.refsL vs
def TV.refsL:List TV->List Bs
 |[]=>[]
 |v::r=>v.refs++TV.refsL r
end
def TV.ok(H:Aq)(v:TV):Prop:=lok H v.refs
def Dr.ok(H:Aq):Dr->Prop
 | .live _ cs=>lok H cs
 | .buf _ _ l n _=>n=l.length
 | .dead=>True
 | .lp _ _ _ env _ _ _ _=> ∀p∈env,∀id ver t n,Bs.own id ver t n∉p.2.refs
 | .mp .. =>True
structure Qs(env:Bc)(H:Aq):Prop where
 env: ∀p∈env,p.2.ok H
 heap: ∀e∈H,e.ok H
variable {a I W:TypeId}{N n U:Nat}{b G:Aq}{c L:Operand}{d:List Bs}{e T:TV}{P:Program}{t:Ty}{g Y:Bc}{i Q:List AY}{w:World}{j:Array Oper}{m:List TV}{p Z:Az}{o:Oper}{q:Option (Nat×Bool)}{h:Gh}{s:Env}{u:AY}{X:Nat->Prop}{v:Bs}{z:IntKind}{A:Bool}{x y:Cx}{B:Nat→Prop}{C:Option TV}{D:Dr}{E:Array (Nat×Operand)}{F:Int}{J:List (Int×AY)}{R:Type}{M:Act}{O:List Nat}{S:FuncId}{V:Prop}
theorem I7{H:List Bs}:lok b (d++H)↔lok b d/\lok b H:=by grind[lok]
theorem AFk:lok b []:=λ_ h=>by cases h
def wN{v:TV}: ∀{l:List TV},v∈l-> ∀x∈v.refs,x∈TV.refsL l
 |w::r,a,x,hx=>by simp only[TV.refsL,A1];rcases A8.1 a with rfl|a;exact .inl hx;exact .inr (wN a x hx)
def qb(h:(TV.tup m).ok b)(H:e∈m):e.ok b:=λx c=>h x (by simp only[TV.refs];exact wN H x c)
def Rq{H:Aq}: ∀{vs:List TV},(∀v∈vs,v.ok H)->(TV.tup vs).ok H
 |[],_=>λx a=>by simp[TV.refs,TV.refsL]at a
 |v::r,h=>by have:=Rq (vs:=r) λw b=>h w (by simp[b]);intro x a;simp only[TV.refs,TV.refsL,A1]at a;rcases a with a|a;exact h v k! x a;exact this x a
theorem qO(h: ∀p∈g,p.2.ok b)(t:Nat):(g.get t).ok b:=by
 induction g with
 |nil=>intro x a;simp only[Bc.get,Vp,TV.refs,BI]at a;subst a;trivial
 |cons p r H=>grind[Bc.get]
theorem ABP(v:Value):(ADd v).ok b:=by
 cases v with
 |pointer p=>cases p<;>trivial
 |slice a l c=>
  cases a with
  |some _=>trivial
  |none=>
   match l,c with
   |0,0=>trivial
   |0,_+1=>trivial
   |_+1,_=>trivial
 |_=>trivial
def il:Vp.ok b:=λx a=>by simp only[Vp,TV.refs,BI]at a;subst a;trivial
theorem J2{H:Aq}(h:v.ok H):(TV.c v).ok H:=λy a=>by grind[TV.refs]
theorem AHG(v:Value):(cvT v).ok b:=by
 cases v with
 |agg a=>
  simp only[cvT];cases h:a.toList.all (·.oneCell')with
  |false=>exact il
  |true=>intro x H;grind[TV.refs,ABP]
 |_=>exact J2 (ABP _)
theorem gf{H:Aq}(h: ∀p∈g,p.2.ok H)(x:Operand):(JO g x).ok H:=by
 cases x with
 |tmp t=>exact qO h t
 |const v=>exact AHG v
 |global _=>exact il
 |func f=>exact J2 trivial
theorem Gg(a b:List Bs):lvs (a++b)=lvs a++lvs b:=YM
theorem HW(x:Bs)(b:List Bs):lvs (x::b)=x.enc++lvs b:=IA
theorem eY: ∀a:List Bs,(lvs a).length=AEs a
 |[]=>rfl
 |x::r=>by rw[HW,Aa,x.enc_len,eY r];rfl
def Oy: ∀{c:List Bs} {n:Nat} {a b:List Bs},Xa c n=some (a,b)->c=a++b/\(lvs a).length=n
 |c,0,a,b,h=>by cases c<;>simp only[Xa]at h<;>obtain⟨rfl,rfl⟩:=h<;>exact⟨rfl,rfl⟩
 |x::r,n+1,a,b,h=>by simp only[Xa]at h;split at h;rename_i e;split at h;rename_i g i f;obtain⟨rfl,rfl⟩:=h;obtain⟨j,d⟩:=Oy f;rw[HW,Aa,d,x.enc_len];simp_all;cases h;cases h
mutual
theorem Ty.lvs_enc: ∀(t:Ty) (x:t.D),lvs (t.lvs x)=(t.enc x).cells
 | .bool,_=>rfl
 | .int _,_=>rfl
 | .str,_=>rfl
 | .list _,_=>rfl
 | .arr n t,a=>by simp only[Ty.lvs,lvs,IA,pZ,D4,Bs.enc]
 | .prod ts,x=>by simp only[Ty.lvs,Ty.enc,AY.cells];exact ts.lvs_cells x
theorem SY.lvs_cells: ∀(a:SY) (x:a.D),Go.Ab.lvs (a.lvs x)=a.cells x
 | .one t,x=>by simp only[SY.lvs,SY.cells];exact t.lvs_enc x
 | .cons t a,x=>by simp only[SY.lvs,SY.cells];rw[Gg,t.lvs_enc,a.lvs_cells]
end
mutual
theorem Ty.lvs_ok{H:Aq}: ∀(t:Ty) (x:t.D),lok H (t.lvs x)
 | .bool,_=>λy b=>by simp only[Ty.lvs,BI]at b;subst b;trivial
 | .int _,_=>λy b=>by simp only[Ty.lvs,BI]at b;subst b;trivial
 | .str,_=>λy b=>by simp only[Ty.lvs,BI]at b;subst b;trivial
 | .list _,_=>λy b=>by simp only[Ty.lvs,BI]at b;subst b;trivial
 | .arr n t,a=>λy b=>by simp only[Ty.lvs,BI]at b;subst b;trivial
 | .prod ts,x=>by simp only[Ty.lvs];exact ts.lvs_ok x
theorem SY.lvs_ok{H:Aq}: ∀(a:SY) (x:a.D),lok H (a.lvs x)
 | .one t,x=>by simp only[SY.lvs];exact t.lvs_ok x
 | .cons t a,x=>by simp only[SY.lvs];exact I7.2 ⟨t.lvs_ok _,a.lvs_ok _⟩
end
def MM(h:v.scalar=true):v.enc=[v.one]:=by
 cases v with
 |ar n t a=>cases h
 |_=>rfl
def Bs.scalar_cells(h:v.scalar=true):v.one.cells=[v.one]:=by
 cases v with
 |ar n t a=>cases h
 |raw x=>cases x<;>first|rfl|cases h
 |_=>rfl
theorem Rr(h:part P a d N=some e):
  (∃n,tI P a=some (true,n)/\N+n<=(lvs d).length/\e.enc= .agg (((lvs d).drop N).take n)\/tI P a=some (false,n)/\(lvs d)[N]? =some e.enc)/\ ∀H,lok H d->e.ok H:=by
 unfold part at h;split at h;rename_i t r l;obtain⟨rfl,j⟩:=Oy l;split at h;rename_i n i;split at h;rename_i b c g;obtain⟨rfl,k⟩:=Oy g;injection h with h;subst h;refine⟨⟨n,.inl ⟨i,?_,?_⟩⟩,λH f=>?_⟩;simp only[Gg,Aa];omega;simp only[TV.enc,Gg,AY.agg.injEq];rw[<-j,RZ,<-k,Yb];exact(I7.1 (I7.1 f).2).1;cases h;rename_i n i;split at h;rename_i x r;split at h;rename_i m;injection h with h;subst h;refine⟨⟨n,.inr ⟨i,?_⟩⟩,λH f=>J2 ((I7.1 f).2 x k!)⟩;rw[Gg,HW,MM m,Cb o!];simp[j,TV.enc];cases h;cases h;cases h;cases h
def lz(h:part P a d N=some e)
  (hr: ∀n,N+n<=(lvs d).length->QM p u n=some (((lvs d).drop N).take n)):jD P a p u=some e.enc:=by
 obtain⟨⟨n,c|c⟩,_⟩:=Rr h;obtain⟨i,g,t⟩:=c;simp only[jD,i,hr n g,Bn,t];obtain⟨i,t⟩:=c;have k:N<(lvs d).length:=by rcases Au N (lvs d).length with f|f;exact f;rw[Cc f]at t;cases t
 simp only[jD,i,hr 1 o!,AD];rw[List.head?_take,List.head?_drop,t];rfl
theorem rM(h:XZ b N=some d): ∃ro,b[N]? =some (.live ro d):=by grind[XZ]
theorem E6(H:Aq)(id:Nat):(BH H)[id]? =(H[id]?).map Dr.enc:=CE
theorem uM(h:XZ b N=some d):(BH b)[N]? =some (.live 0 (lvs d)):=by obtain⟨ro,H⟩:=rM h;rw[E6,H];rfl
def AFi(H: ∀e∈b,e.ok b)(h:XZ b N=some d):lok b d:=by obtain⟨ro,c⟩:=rM h;exact H _ (BU c)
def AAC{l:List t.D}(h:j8 b N n t=some l): ∃ro a,b[N]? =some (.buf ro t l a n):=by unfold j8 at h;split at h;rename_i ro i j a d e;split at h;rename_i g;have c:=DR g;subst c;split at h;rename_i f;have H:=f;have:=Ty.beq_eq i t H;subst this;injection h with h;refine⟨ro,a,?_⟩;rw[e,<-h];rfl;cases h;cases h;cases h
def nt{l:List t.D}(d: ∀e∈b,e.ok b)(hr:WE b N U t n)(h:j8 b N U t=some l):(BH b)[N]? =some (.live n (t.E.cl l))/\l.length=n:=by obtain⟨ro,f,H⟩:=AAC h;obtain⟨_,c⟩:=hr.2 _ _ _ _ _ H;obtain⟨_,rfl⟩:=c rfl;have:f=l.length:=d _ (BU H);refine⟨?_,this.symm⟩;rw[E6,H];rfl
def zx{a:GF (n+1) t.D}(h:ADL d N n t=some a): ∃c b,d=c++(.ar n t a::b)/\(lvs c).length=N:=by unfold ADL at h;split at h;rename_i c l m k b i;split at h;rename_i j;have:=Ty.beq_eq _ _ j;injection this with e f;subst e f;injection h with h;obtain⟨e,f⟩:=Oy i;refine⟨c,b,?_,f⟩;rw[e,<-h];rfl;cases h;cases h
theorem cI(n:Nat)(t:Ty)(a:GF (n+1) t.D):(Bs.ar n t a).enc=fM (n+1) t.E a:=rfl
section
variable {P:Program} {R:Type} {H:Aq} {k:TV->Option R} {r:R}
theorem Wz(h:okT C k=some r): ∃v,C=some v/\k v=some r:=by unfold okT at h;grind
theorem im(v:AY):(tvA v).enc=v:=by cases v<;>rfl
theorem lI(v:AY):(tvA v).ok H:=by cases v<;>exact J2 trivial
theorem lA{o:Option AY}(h:okA o k=some r): ∃v,o=some v/\k (tvA v)=some r:=by unfold okA at h;grind
theorem lj{o:Option R}(h:cond A none o=some r):A=false/\o=some r:=q!
theorem rN(C: ∀t∈H,t.ok H)(D:e.ok H)(h:loadT P H a e k=some r): ∃u,jD P a (BH H) e.enc=some u.enc/\k u=some r/\u.ok H:=by
 unfold loadT at h;split at h;rename_i id g;split at h;rename_i B q;obtain⟨u,f,o⟩:=Wz h;refine⟨u,lz f λn c=>?_,o,(Rr f).2 H (AFi C q)⟩;grind[TV.enc,Bs.one,QM,uM];cases h;rename_i B d;obtain⟨u,f,o⟩:=Wz h;refine⟨u,lz f λn c=>?_,o,(Rr f).2 H D⟩;simp only[TV.enc,QM];grind;rename_i id p n b i g;split at h;rename_i B q;split at h;rename_i v G;obtain⟨t,z,h⟩:=Db.1 h;obtain⟨u,f,o⟩:=Wz h;obtain⟨j,d,rfl,s⟩:=zx G;refine⟨u,lz f λm c=>?_,o,(Rr f).2 H (b.lvs_ok t)⟩;rw[b.lvs_enc,b.enc_len]at c;obtain⟨w,x⟩:=ADI b.E (lvs j) (lvs d) z c;have F:lvs (j++(.ar n b v::d))=lvs j++fM (n+1) b.E v++lvs d:=by rw[Gg,HW,cI,A6]
 simp only[TV.enc,QM,uM q,F];have y:p+i.toNat*b.sz+g=(lvs j).length+i.toNat*b.E.sz+g:=by rw[s];rfl
 rw[y,if_pos ⟨trivial,w⟩,x,b.lvs_enc];rfl;cases h;cases h;rename_i id A b n i g;split at h;rename_i l q;obtain⟨t,z,h⟩:=Db.1 h;obtain⟨u,f,o⟩:=Wz h;obtain⟨y,_⟩:=nt C (D (.own id A b n) (by simp[TV.refs])) q;refine⟨u,lz f λm c=>?_,o,(Rr f).2 H (b.lvs_ok t)⟩;rw[b.lvs_enc,b.enc_len]at c;obtain⟨w,x⟩:=AG4 b.E z c;simp only[TV.enc,QM,y];rw[if_pos ⟨trivial,w⟩];show some (List.take m (List.drop (i.toNat*b.E.sz+g) (b.E.cl l)))=_;rw[x,b.lvs_enc];rfl;cases h;cases h
theorem zz{i:BinOp}(h:AG5 P i a e T k=some r): ∃u,yO P i a e.enc T.enc=some u.enc/\k u=some r/\u.ok H:=by
 unfold AG5 at h;split at h;rename_i n x o b;simp only[TV.enc,Bs.one,yO];split at h;obtain⟨c,h⟩:=lj h;have d: ¬b<0:=by simpa using c
 refine⟨_,?_,h,J2 trivial⟩;grind[lF,TV.enc,Bs.one];obtain⟨c,h⟩:=lj h;have d: ¬b<0:=by simpa using c
 refine⟨_,?_,h,J2 trivial⟩;grind[lF,TV.enc,Bs.one];split at h;rename_i t;obtain⟨c,h⟩:=lj h;have d: ¬b=0:=by simpa using c
 refine⟨_,?_,h,J2 trivial⟩;grind[ph,TV.enc,Bs.one];cases h;split at h;rename_i t;obtain⟨c,h⟩:=lj h;have d: ¬b=0:=by simpa using c
 refine⟨_,?_,h,J2 trivial⟩;grind[ph,TV.enc,Bs.one];cases h;grind[lA,lI,im];rename_i x b;simp only[TV.enc,Bs.one,yO];split at h;split at h;rename_i t;exact⟨_,by simp only[if_pos t,TV.enc,Bs.one],h,J2 trivial⟩;cases h;split at h;rename_i t;exact⟨_,by simp only[if_pos t,TV.enc,Bs.one],h,J2 trivial⟩;cases h;cases h;rename_i x b;simp only[TV.enc,Bs.one,yO];split at h;obtain⟨s,j,h⟩:=Db.1 h;exact⟨_,by simp only[wk,TV.enc,Bs.one];exact AHW j,h,J2 trivial⟩;grind[lA,im,lI];rename_i l bs;split at h;rename_i m f;split at h;rename_i g;simp only[TV.enc,yO,f,if_pos g];split at h;exact⟨_,by simp only[TV.enc,Bs.one,eqT],h,J2 trivial⟩;exact⟨_,by simp only[TV.enc,Bs.one,eqT],h,J2 trivial⟩;cases h;cases h;cases h;cases h
def ACv{a:UnOp}(h:unT a e k=some r): ∃u,unV a e.enc=some u.enc/\k u=some r/\u.ok H:=by unfold unT at h;split at h;obtain⟨e,b,h⟩:=lA h;exact⟨_,by rw[im];exact b,h,lI e⟩;cases h
def AIE(l:List Int):(Ty.int .u8).E.cl l=l.map (xF .u8).f:=by
 unfold Ur.cl;induction l with
 |nil=>rfl
 |cons n l a=>simp only[Bt,IA,a];rfl
def ACG:Xe P p I a (.int z F)=Xe P [] I a (.int z F):=by unfold Xe;cases kd P a<;>rfl
def ACH{s:List UInt8}:Xe P p I a (.str s)=Xe P [] I a (.str s):=by unfold Xe;cases kd P a<;>rfl
def yW(g: ∀d∈H,d.ok H)(c:e.ok H)(h:ADb P H I a e k=some r): ∃u,Xe P (BH H) I a e.enc=some u.enc/\k u=some r/\u.ok H:=by
 unfold ADb at h;split at h;rename_i l;split at h;rename_i b;exact⟨_,AEC l b.1 b.2,h,J2 trivial⟩;cases h;rename_i id f n;split at h;rename_i b;split at h;rename_i l j;obtain⟨i,hn⟩:=nt g (c (.own id f (.int .u8) n) (by simp[TV.refs])) j;refine⟨_,?_,h,J2 trivial⟩;simp only[TV.enc,Bs.one,Xe,b.1,b.2,if_true,rowsOf,i];rw[if_pos ⟨trivial,rfl,by rw[(Ty.int .u8).E.clen,hn];show 0+n<=n*1;omega⟩];have:((Ty.int .u8).E.cl l).length=n:=by rw[(Ty.int .u8).E.clen,hn];exact Nat.mul_one n
 rw[YL,<-this,Hk,AIE];exact congrArg (Option.map AY.str) (xw l);cases h;cases h;obtain⟨e,c,h⟩:=lA h;exact⟨_,by rw[im];exact ACG.trans c,h,lI e⟩;obtain⟨e,c,h⟩:=lA h;exact⟨_,by rw[im];exact ACH.trans c,h,lI e⟩;cases h
end
section
variable {P:Program} {R:Type} {H:Aq} {k:TV->Option R} {r:R}
theorem kR(h:XZ H N=some d):Tm (BH H) N 0=true:=by simp[Tm,uM h]
def xD{l:List t.D}(b: ∀e∈H,e.ok H)(hr:WE H N U t n)(h:j8 H N U t=some l):Tm (BH H) N n=true:=by simp[Tm,(nt b hr h).1]
theorem qE(x: ∀s∈H,s.ok H)(g:e.ok H)(h:nM P H N n e k=some r): ∃u,WU P (BH H) N n e.enc=some u.enc/\k u=some r/\u.ok H:=by
 unfold nM at h;split at h;rename_i B t f z;split at h;cases h;rename_i hn;have d:f≠0:=λs=>t!
 unfold WU;simp only[z,if_neg d];split at h;rename_i id o;split at h;rename_i p c;exact⟨_,by simp only[TV.enc,Bs.one,shift,kR c,if_true],h,J2 trivial⟩;cases h;rename_i p q;split at h;rename_i a b A;obtain⟨rfl,y⟩:=Oy A;refine⟨_,?_,h,(I7.1 g).2⟩;simp only[TV.enc,shift];rw[if_pos (by simp only[Aa,Gg];omega),Gg,A6,<-y,RZ];cases h;rename_i id m f w i o;split at h;rename_i p c;refine⟨_,?_,h,λ_ h=>by cases h⟩;grind[TV.enc,shift,kR];cases h;rename_i id j w f i o;split at h;rename_i l c;refine⟨_,?_,h,g⟩;simp only[TV.enc,shift,xD x (g (.own id j w f) (by simp[TV.refs])) c,if_true,fG];cases h;cases h;cases h
theorem xc(h:part P a d N=some e)(c: ∀t,N+t<=(lvs d).length->n+t<=i.length/\(i.drop n).take t=((lvs d).drop N).take t):ua P a i n=some e.enc:=by grind[Rr,ua,List.head?_take,List.head?_drop]
theorem xH(d:e.ok H)(h:AAJ P N n e k=some r): ∃u,tW P N n e.enc=some u.enc/\k u=some r/\u.ok H:=by unfold AAJ at h;split at h;rename_i s t f g a;obtain⟨u,c,b⟩:=Wz h;refine⟨u,?_,b,(Rr c).2 H d⟩;simp only[tW,a,TV.enc];grind[xc];cases h
theorem sn{a:GF n R}{x:R}(h:Fp a F=some x):0<=F/\F<n:=by obtain⟨c,j,rfl,_⟩:=pL h;grind
theorem qT(s: ∀t∈H,t.ok H)(C:e.ok H)(h:nQ P H a e T k=some r): ∃u,Wa P (BH H) a e.enc T.enc=some u.enc/\k u=some r/\u.ok H:=by
 unfold nQ at h;split at h;rename_i L T;simp only[TV.enc,Bs.one,Wa];split at h;rename_i len z sz p;simp only[p];split at h;rename_i id D;split at h;rename_i G m;split at h;rename_i F n b v g K;split at h;rename_i d;obtain⟨rfl,rfl⟩:=d;obtain⟨t,c,h⟩:=Db.1 h;refine⟨_,?_,h,λ_ h=>by cases h⟩;rw[if_pos (sn c)];simp only[TV.enc,Bs.one,shift,kR m,if_true,Qy];cases h;cases h;cases h;rename_i n b v M g;split at h;rename_i d;obtain⟨rfl,rfl⟩:=d;obtain⟨t,c,h⟩:=Db.1 h;refine⟨_,?_,h,b.lvs_ok t⟩;rw[if_pos (sn c)];obtain⟨_,o,q,_⟩:=ADN b.E c [] [];simp only[Cp,D4,Ck,D7]at o q;have B:T.toNat*b.sz+b.sz<=(fM (n+1) b.E v).length:=o;simp only[TV.enc,shift,HW,cI];rw[if_pos q!];rw[b.lvs_enc,A6,pX o!];have y:(fM (n+1) b.E v).drop (T.toNat*b.sz)=(b.enc t).cells++(fM (n+1) b.E v).drop (T.toNat*b.sz+b.sz):=by rw[<-MG];have I:((fM (n+1) b.E v).drop (T.toNat*b.sz)).take b.sz=(b.enc t).cells:=q;grind[List.take_append_drop]
 rw[y,A6];rfl;cases h;cases h;rename_i z sz p;simp only[p];split at h;rename_i b l;split at h;rename_i d;subst d;obtain⟨t,c,h⟩:=Db.1 h;obtain⟨q1,q2⟩:=AJQ (f:=b.enc) c;refine⟨_,?_,h,b.lvs_ok t⟩;simp only[TV.enc,Bs.one];rw[if_pos ⟨q1,trivial⟩,q2,b.lvs_enc,D4];rfl;cases h;rename_i id j b n;split at h;rename_i l m;split at h;rename_i d;subst d;obtain⟨t,c,h⟩:=Db.1 h;have hr:=C (.own id j b n) (by simp[TV.refs]);obtain⟨J,hn⟩:=nt s hr m;refine⟨.bptr id j b n T 0,?_,h,λx w=>by simp only[TV.refs,BI]at w;subst w;exact hr⟩;obtain⟨_,_,_,_,A,o,_,_⟩:=tO b.E c;simp only[TV.enc,Bs.one];rw[if_pos ⟨A,o!,trivial,xD s hr m⟩,D7,Qy];cases h;cases h;cases h;cases h;cases h
theorem oI{e:TypeId}{sz:Nat}{cs:List Bs}{i:Int}(b:lok H cs): ∀{m j:Nat},wu P e sz cs i k m j=some r-> ∃u,(0<=i/\i<((j+m:Nat):Int))/\ua P e (lvs cs) (i.toNat*sz)=some u.enc/\k u=some r/\u.ok H
 |m+1,j,h=>by
  simp only[wu]at h;cases a:decide (i=Int.ofNat j)with
  |true=>
   rw[a]at h;have f:i=(j:Int):=q!
   obtain⟨u,d,c⟩:=Wz h;refine⟨u,o!,?_,c,(Rr d).2 H b⟩;grind[xc]
  |false=>rw[a]at h;obtain⟨u,q1,q2⟩:=oI b (m:=m) (j:=j+1) h;grind
theorem xN(A:e.ok H)(h:AAO P a e T k=some r): ∃u,kz P a e.enc T.enc=some u.enc/\k u=some r/\u.ok H:=by
 unfold AAO at h;split at h;rename_i B T;split at h;rename_i n c v;split at h;rename_i len x sz o;split at h;rename_i z;obtain⟨rfl,rfl⟩:=z;obtain⟨t,p,h⟩:=Db.1 h;obtain⟨u,q,f⟩:=Wz h;refine⟨u,?_,f,(Rr q).2 H (c.lvs_ok t)⟩;simp only[TV.enc,Bs.one,kz,o];rw[if_pos (sn p)];refine xc q λm d=>?_;rw[c.lvs_enc,c.enc_len,D7]at d;obtain⟨j,l⟩:=ADI c.E (off:=0) [] [] p (m:=m) (by rw[D7];exact d);simp at j l;have w:lvs [Bs.ar n c v]=fM (n+1) c.E v:=by grind[cI,lvs]
 rw[w,c.lvs_enc,YL];exact⟨j,l⟩;cases h;cases h;rename_i g _;split at h;rename_i len x sz o;split at h;obtain⟨u,q1,q2,q3⟩:=oI (cs:=g) (H:=H) A h;grind[TV.enc,Bs.one,kz];cases h;cases h;rename_i s;split at h;rename_i f;obtain⟨b,y,h⟩:=Db.1 h;exact⟨_,by simp only[TV.enc];exact AIV y f,h,J2 trivial⟩;cases h;cases h;cases h
theorem nr{d:Nat}(h:AB8 d C=some F)(a:0<=F):Xn d (C.map TV.enc)=some F.toNat:=by unfold AB8 at h;grind[Xn,TV.enc,Bs.one,uU]
theorem xq{i m:Option TV}(h:AA1 P a e C i m k=some r): ∃u,lG P (BH H) a e.enc (C.map TV.enc) (i.map TV.enc) (m.map TV.enc)=some u.enc/\k u=some r/\u.ok H:=by unfold AA1 at h;split at h;cases h;split at h;rename_i s;split at h;rename_i l w g b;split at h;rename_i y;obtain⟨x,c,h⟩:=Db.1 h;refine⟨_,?_,h,J2 trivial⟩;unfold Up at c;split at c;rename_i v;simp only[TV.enc,Bs.one,lG,nr (d:=0) g v.1,nr b (pR v.1 v.2.1)];grind;cases c;cases h;cases h;rename_i z f;split at h;rename_i l w A sz g b q;split at h;rename_i y;obtain⟨x,c,h⟩:=Db.1 h;refine⟨_,?_,h,J2 trivial⟩;unfold br at c;split at c;rename_i v;have t:(f.map z.enc).length=f.length:=B5 _;have n:=nr (d:=0) g v.1;have o:=nr b (pR v.1 v.2.1);have p:Xn f.length none=some f.length:=rfl;simp only[TV.enc,Bs.one,lG,t,n,o,p,q];grind[List.map_take,List.map_drop];cases c;cases h;cases h;cases h
def AAT(d: ∀t∈H,t.ok H)(g:e.ok H)(h:AHQ P H a e k=some r): ∃u,uL P (BH H) a e.enc=some u.enc/\k u=some r/\u.ok H:=by unfold AHQ at h;split at h;rename_i s v;exact⟨_,by simp only[uL,v,TV.enc,Bs.one],h,J2 trivial⟩;rename_i n t v;exact⟨_,by simp only[uL,v,TV.enc,Bs.one],h,J2 trivial⟩;rename_i b l t v;exact⟨_,by simp only[uL,v,TV.enc,Bs.one,B5],h,J2 trivial⟩;rename_i t id c b n v;split at h;rename_i l f;refine⟨_,?_,h,J2 trivial⟩;simp only[uL,v,TV.enc,Bs.one];cases h;rename_i t v;exact⟨_,by simp only[uL,v,TV.enc,Bs.one],h,J2 trivial⟩;cases h
end
def ZM(h:e.words=some d):e.enc.solid=true/\e.enc.cells=lvs d/\ ∀H,e.ok H->lok H d:=by unfold TV.words at h;split at h;rename_i x;split at h;rename_i a;simp at a;injection h with h;subst h;refine⟨a.2,?_,λH b=>b⟩;rw[HW,MM a.1];exact Bs.scalar_cells a.1;cases h;injection h with h;subst h;exact⟨rfl,rfl,λH b=>b⟩;cases h
theorem mB{f c:List Bs}{e n:Nat}(h:ACq d e f n=some c)(hn:(lvs f).length=n):lvs c=W7 (lvs d) e (lvs f)/\e+n<=(lvs d).length/\ ∀H,lok H d->lok H f->lok H c:=by unfold ACq at h;split at h;rename_i a r i;obtain⟨rfl,l⟩:=Oy i;split at h;rename_i m b g;obtain⟨rfl,o⟩:=Oy g;refine⟨?_,by simp only[Gg,Aa];omega,λH j k=>?_⟩;grind[W7,Gg];grind[I7];cases h;cases h
mutual
theorem Ty.zlvs_ok{H:Aq}: ∀t:Ty,lok H t.zlvs
 | .bool=>λy a=>by simp only[Ty.zlvs,BI]at a;subst a;trivial
 | .int _=>λy a=>by simp only[Ty.zlvs,BI]at a;subst a;trivial
 | .str=>λy a=>by simp only[Ty.zlvs,BI]at a;subst a;trivial
 | .list _=>λy a=>by simp only[Ty.zlvs,BI]at a;subst a;trivial
 | .arr n t=>λy a=>by simp only[Ty.zlvs,BI]at a;subst a;trivial
 | .prod b=>by simp only[Ty.zlvs];exact b.zlvs_ok
theorem SY.zlvs_ok{H:Aq}: ∀a:SY,lok H a.zlvs
 | .one t=>by simp only[SY.zlvs];exact t.zlvs_ok
 | .cons t a=>by simp only[SY.zlvs];exact I7.2 ⟨t.zlvs_ok,a.zlvs_ok⟩
end
def ACT(v:AY):(vw v).enc=[v]:=by cases v<;>rfl
theorem ADy(v:AY):(vw v).ok b:=by cases v<;>trivial
theorem qW: ∀z:List AY,lvs (z.map vw)=z
 |[]=>rfl
 |v::r=>by rw[Bt,HW,qW r,ACT];rfl
theorem ABm(z:List AY):lok b (z.map vw):=λx a=>by grind[ADy]
theorem ZP(h:ux P a=some d):ZN P a=some (lvs d)/\ ∀H,lok H d:=by unfold ux at h;split at h;rename_i z b;split at h;rename_i e t;split at h;rename_i c;injection h with h;subst h;exact⟨by rw[b,lX _ _ c],λH=>e.zlvs_ok⟩;grind[qW,ABm];grind[qW,ABm];cases h
theorem tX{p:aK}: ∀{a:List (Nat×TV)} {c b:List Bs},yl p c a=some b->rG p (lvs c) (a.map λq=>(q.1,q.2.enc))=some (lvs b)/\ ∀H,lok H c->(∀q∈a,q.2.ok H)->lok H b
 |[],c,b,h=>by simp only[yl,Al]at h;subst h;exact⟨rfl,λH h _=>h⟩
 |(i,v)::r,c,b,h=>by simp only[yl]at h;split at h;rename_i m size z t l;split at h;rename_i k;have e:=DR k;split at h;rename_i s d;obtain⟨x,y,o⟩:=ZM l;obtain⟨u,w,n⟩:=mB d (by rw[eY,e]);obtain⟨q1,q2⟩:=tX h;refine⟨?_,λH g f=>q2 H (n H g (o H (f (i,v) k!))) λq j=>f q (by simp[j])⟩;grind[rG,eY];cases h;cases h;cases h
section
variable {P:Program} {R:Type} {env:Bc} {H:Aq} {k:TV->Option R} {r:R}
theorem yQ{v:List (Nat×TV)}(h:AAD P a v=some e):tB P a (v.map λq=>(q.1,q.2.enc))=some e.enc/\((∀q∈v,q.2.ok H)->e.ok H):=by unfold AAD at h;split at h;rename_i z p t j;obtain⟨k,f⟩:=ZP t;rw[WN]at h;obtain⟨g,c,rfl⟩:=h;obtain⟨i,b⟩:=tX c;refine⟨?_,λd=>b H (f H) d⟩;grind[tB,TV.enc];cases h
def qg: ∀{l:List TV} {m:List AY},ud l=some m->m=l.map TV.enc
 |[],m,h=>by simp only[ud,Al]at h;subst h;rfl
 | .c x::r,m,h=>by simp only[ud]at h;split at h;rename_i b _ a;injection h with h;subst h;rw[Bt,<-qg a];rfl;cases h
 | .g _::_,m,h=>by simp[ud]at h
 | .aptr .. ::_,m,h=>by simp[ud]at h
 | .bptr .. ::_,m,h=>by simp[ud]at h
 | .vptr .. ::_,m,h=>by simp[ud]at h
 | .tup _::_,m,h=>by simp[ud]at h
def wD(h:mmT A e T k=some r): ∃u,mmV A [e.enc,T.enc]=some u.enc/\k u=some r/\u.ok H:=by unfold mmT at h;split at h;exact⟨_,by simp only[TV.enc,Bs.one,mmV],h,J2 trivial⟩;cases h
def AAc{z:TV}(h:AHR e T z k=some r): ∃u,mm3 e.enc T.enc z.enc=some u.enc/\k u=some r/\u.ok H:=by unfold AHR at h;split at h;exact⟨_,by simp only[TV.enc,Bs.one,mm3],h,J2 trivial⟩;cases h
theorem wM{F:Op}(ok:Qs env H)(h:quT P env H F k=some r): ∃v,CO P (B9 env) (BH H) F=some v.enc/\k v=some r/\v.ok H:=by
 have j: ∀x,(JO env x).ok H:=gf ok.env;have g:=LC env;unfold quT at h;split at h;grind[CO];grind[CO];rename_i c a b;split at h;rename_i t K;have w:BJ (B9 env) c= .bool t:=by rw[g,K];rfl
 grind[CO,Bool.false_eq_true];cases h;obtain⟨u,d,e⟩:=rN ok.heap (j _) h;grind[CO];rename_i x;split at h;grind[BJ,B9,CO,kR,TV.enc,Bs.one,J2];grind[BJ,B9,CO,TV.enc,Bs.one,J2];grind[BJ,B9,lvs,CO,TV.enc];grind[BJ,B9,CO,kR,TV.enc];rename_i id D G n i B s;split at h;rename_i l A;have w:BJ (B9 env) x= .ptr id n (i.toNat*G.sz+B):=by rw[g,s];rfl
 have:=j x;rw[s]at this;exact⟨_,by simp only[CO,w,xD ok.heap (this (.own id D G n) (by simp[TV.refs])) A,if_true,TV.enc],h,this⟩;cases h;cases h;simp_all[zz,CO];obtain⟨u,d,e⟩:=ACv (H:=H) h;exact⟨u,by simp only[CO,g,d],e⟩;obtain⟨u,d,e⟩:=yW ok.heap (j _) h;exact⟨u,by simp only[CO,g,d],e⟩;obtain⟨u,d,e⟩:=qE ok.heap (j _) h;exact⟨u,by simp only[CO,g,d],e⟩;obtain⟨u,d,e⟩:=xH (j _) h;exact⟨u,by simp only[CO,g,d],e⟩;obtain⟨u,d,e⟩:=qT ok.heap (j _) h;exact⟨u,by simp only[CO,g,d],e⟩;obtain⟨u,d,e⟩:=xN (H:=H) (j _) h;exact⟨u,by simp only[CO,g,d],e⟩;rename_i t x Q O R;obtain⟨u,d,e⟩:=xq (H:=H) h;have q: ∀o:Option Operand,o.map (BJ (B9 env))=(o.map (JO env)).map TV.enc:=by
  intro o;cases o with
  |none=>rfl
  |some y=>simp only[Bn,g]
 exact⟨u,by simp only[CO,g,q,d],e⟩;rename_i x i;split at h;rename_i N s;split at h;rename_i v z;have w:BJ (B9 env) x= .tup (N.map TV.enc):=by rw[g,s];simp only[TV.enc,tT]
 have E:=j x;rw[s]at E;exact⟨v,by simp only[CO,w,CE,z,Bn],h,qb E (BU z)⟩;cases h;cases h;rename_i f a b;split at h;rename_i l m A L;refine⟨_,?_,h,J2 trivial⟩;have q: ∀o:List Operand,o.map (BJ (B9 env))=(o.map (JO env)).map TV.enc:=by intro o;rw[Qu];exact M6 λy _=>g y
 simp only[CO,q,<-qg A,<-qg L,TV.enc,Bs.one];cases h;rename_i t C;obtain⟨v,z,h⟩:=Wz h;obtain⟨I,J⟩:=yQ (H:=H) z;refine⟨v,?_,h,J λq M=>?_⟩;simp only[CO];rw[<-I,Qu];congr 1;exact M6 λp _=>by simp only[Function.comp,g]
 obtain⟨p,_,rfl⟩:=Bl.1 M;exact j _;obtain⟨u,d,e⟩:=AAT ok.heap (j _) h;exact⟨u,by simp only[CO,g,d],e⟩;obtain⟨u,d,e⟩:=wD (H:=H) h;exact⟨u,by simp only[CO,g,d],e⟩;obtain⟨u,d,e⟩:=wD (H:=H) h;exact⟨u,by simp only[CO,g,d],e⟩;obtain⟨u,d,e⟩:=AAc (H:=H) h;exact⟨u,by simp only[CO,g,d],e⟩;cases h
end
def Conv(x y:Cx)(v v':AY):Prop:= ∀c,Bp x v c->Bp y v' c
def Ul(x y:Cx)(H H2:Az):Prop:=
 H2.length=H.length/\ ∀(j:Nat) (e':FU),H2[j]? =some e'->e'= .dead\/
  (∃g cs cs',H[j]? =some (.live g cs)/\e'= .live g cs'/\cs'.length=cs.length/\ ∀(i:Nat) (v':AY),cs'[i]? =some v'-> ∃v,cs[i]? =some v/\Conv x y v v')\/
  (H[j]? =some e'/\ ∀g cs,e'≠ .live g cs)
theorem Ul.refl(x:Cx)(H:Az):Ul x x H H:=by
 refine⟨rfl,λj a d=>?_⟩;cases a with
 |live g c=>exact .inr (.inl ⟨g,c,c,d,rfl,rfl,λi v b=>⟨v,b,λ_ r=>r⟩⟩)
 |_=>grind
theorem Ul.own{H d:Az}{h:Gh}(hr:Ul x y H d): ∀B,owned h d B->owned h H B:=by rintro B ⟨j,f,i,c,a⟩;rcases hr.2 j f i with b|⟨g,k,e,b,_⟩|⟨b,_⟩;grind;exact⟨j,_,b,k!,a⟩;exact⟨j,_,b,c,a⟩
def Ul.later{h:Gh}{H a:Az}{w:World}{x y:Cx}(hr:Ul x y H a):(cx X h H w).Later (cx X h a w):={size:=Am _,keep:=λ_ _ _ _=>rfl,own:=λB _ b=>b.imp _root_.id (hr.own B),n:=by simp[cx,hr.1],gen:=λ_ _=>Am _,same:=λ_ _ _=>⟨rfl,rfl⟩}
theorem JN.rel{X:Nat->Prop}(s:JN X h p w)(hr:Ul (cx X h p w) (cx X h Z w) p Z):JN X h Z w:=by
 have y:=hr.own (h:=h);have M:(cx X h p w).Later (cx X h Z w):=hr.later;have back: ∀{j:Nat} {e:FU},Z[j]? =some e->e≠ .dead-> ∃N,p[j]? =some N/\N≠ .dead:=by intro j e l ad;rcases hr.2 j e l with a|⟨g,z,C,a,_⟩|⟨a,_⟩;grind;grind;grind
 refine⟨λB H=>⟨(s.out B H).1,λho=>(s.out B H).2 (y B ho)⟩,λj Q C l=>?_,λj L l=>?_,λi j e e' B a c J K O D=>?_,s.bldKeep λj e l H=>?_⟩;rcases hr.2 j _ l with a|⟨g,z,o,a,c,O,D⟩|⟨_,a⟩;cases a;injection c with R S;subst R S;obtain⟨I,W⟩:=s.live j Q z a;refine⟨I,?_⟩;rcases W with⟨k,h0⟩|⟨B,A,T,P,f,k,V,q,n,G,b⟩;refine .inl ⟨k,?_⟩;grind;refine .inr ⟨B,A,T,P,f,k,V,q,o!,G,λi v' Y=>?_⟩;obtain⟨v,hv,U⟩:=D i v' Y;obtain⟨p1,p2,p3⟩:=b i v hv;exact⟨p1,p2,U _ p3⟩;grind;rcases hr.2 j _ l with a|⟨g,z,o,_,c,_⟩|⟨a,_⟩;cases a;cases c;obtain⟨I,B,r,q1,q2,q3,q4,q5,q6,q7,q8,q9⟩:=s.lp j L a;exact⟨I,B,r,q1,q2,q3,q4,q5,q6,q7,q8,λt v m=>⟨(q9 t v m).1,(q9 t v m).2.later M⟩⟩;obtain⟨d,E,F⟩:=back a J;obtain⟨d',u,x⟩:=back c K;exact s.inj i j _ _ B E u F x O D;refine⟨?_,rfl,rfl,rfl,λ_ _ _ _ _=>rfl⟩;rcases hr.2 j _ l with a|⟨g,z,o,_,c,_⟩|⟨a,_⟩;subst a;cases H;subst c;cases H;exact a
theorem Ul.onto(hr:Ul (cx X h p w) (cx X h p w) p Z):Ul (cx X h p w) (cx X h Z w) p Z:=by have e:(cx X h p w).Later (cx X h Z w):=hr.later;refine⟨hr.1,λj k H=>?_⟩;rcases hr.2 j k H with d|⟨g,f,b,d,l,m,n⟩|d;grind;refine .inr (.inl ⟨g,f,b,d,l,m,λi q o=>?_⟩);obtain⟨v,q1,q2⟩:=n i q o;exact⟨v,q1,λc r=>(q2 c r).later e⟩;grind
def Wf{env2:Env}(f:Z.length=p.length)(hr: ∀X h w,JN X h p w→Ul (cx X h p w) (cx X h Z w) p Z∧ ∀t c,(t,c)∈env2→ ∃v,(t,v)∈s∧Conv (cx X h p w) (cx X h Z w) v c):
  Fv N p.length s p env2 Z:=by
 refine⟨o!,λX h a w H=>?_⟩;obtain⟨q1,q2⟩:=hr X h w H.sim;refine⟨h,⟨H.sim.rel q1,λt c m=>?_,H.size⟩,λ_ _=>⟨rfl,rfl,rfl⟩,q1.own⟩;obtain⟨v,d,e⟩:=q2 t c m;exact⟨(H.env t v d).1,e _ (H.env t v d).2⟩
def Ul.ext{X:Nat->Prop}{c:Gh}{H a b:Az}{d:World}(hr:Ul x y H b)(e:Ha c a d h H w):Ha c a d h b w where
 os:=e.os
 tape:=e.tape
 output:=e.output
 size:=e.size
 keep:=e.keep
 n:=by rw[hr.1];exact e.n
 gen:=e.gen
 same:=e.same
 fresh B hB:=e.fresh B (hr.own B hB)
 loops:=e.loops
def JM.after{N:Nat}{H:Az}{v f:AY}{H1 b:Az}(h:JM P N o s H (C6 v H1))
  (hr: ∀X h w,JN X h H1 w->Ul (cx X h H1 w) (cx X h b w) H1 b/\Conv (cx X h H1 w) (cx X h b w) v f):JM P N o s H (C6 f b):=by
 intro r X g a w p Q;apply Wd (h r X g a w p Q);rintro n l ⟨c,u,d,m,i,⟨rfl,rfl⟩,j,e,k⟩;obtain⟨q1,q2⟩:=hr X d l e;exact⟨c,_,d,_,i,⟨rfl,rfl⟩,q2 _ j,e.rel q1,Ul.ext (X:=X) q1 k⟩
def JM.before{N:Nat}{env2:Env}{H H2:Az}{K:AY->Az->Prop}(b:Fv N H.length s H env2 H2)(h:JM P N o env2 H2 K):JM P N o s H K:=by intro r X g a w x Q;obtain⟨f,q,j,l⟩:=b.2 X g a w x;apply Wd (h r X f a w q Q);rintro t u ⟨c,v,e,d,i,k,n,m,p⟩;exact⟨c,v,e,d,i,k,n,m,(Fv.ext rfl b.1 j l (Ha.refl g H w)).trans p⟩
def EM.before{args args2:List AY}{H H2:Az}{K:AY→Az→Prop}(hn:args2.length=args.length)
  (hr: ∀X h w,JN X h H w->Ul (cx X h H w) (cx X h H2 w) H H2/\ ∀(j:Nat) (b:AY),args2[j]? =some b-> ∃v,args[j]? =some v/\Conv (cx X h H w) (cx X h H2 w) v b)
  (h:EM P S args2 H2 K):EM P S args H K:=by
 intro X g w a s n k;obtain⟨q1,q2⟩:=hr X g w s;refine(h X g w a (s.rel q1) o! λj b c m l=>?_).mono ?_;obtain⟨v,o,d⟩:=q2 j b m;exact d _ (k j v c o l);rintro e t ⟨c,v,i,f,rfl,q,r,p,x⟩;exact⟨c,v,i,f,rfl,q,r,p,(Ul.ext (X:=X) q1 (Ha.refl g H w)).trans x⟩
def Xm(v v':AY):Prop:= ∀(x:Cx) (c:Value),Bp x v c->Bp x v' c
def Xm.refl(v:AY):Xm v v:=λ_ _ h=>h
def Xm.nil{sz:Nat}(h:0<sz):Xm .nils (.vs sz []):=λ_ _ r=>r.nil_vs h
def DW(cs cs':List AY):Prop:=cs'.length=cs.length/\ ∀(i:Nat) (v':AY),cs'[i]? =some v'-> ∃v,cs[i]? =some v/\Xm v v'
theorem DW.refl(a:List AY):DW a a:=⟨rfl,λ_ v h=>⟨v,h,.refl v⟩⟩
theorem DW.append{b f:List AY}(c:DW i Q)(g:DW b f):DW (i++b) (Q++f):=by refine⟨by simp[c.1,g.1],λa j h=>?_⟩;rcases Au a Q.length with d|d;rw[CL d]at h;obtain⟨v,q1,q2⟩:=c.2 a j h;grind;rw[Cb d]at h;obtain⟨v,q1,q2⟩:=g.2 _ j h;exact⟨v,by rw[Cb (by rw[<-c.1];exact d),<-c.1];exact q1,q2⟩
theorem DW.one{b:AY}(h:Xm u b):DW [u] [b]:=⟨rfl,λi v a=>by
 match i,a with
 |0,a=>grind
 |i+1,a=>simp at a⟩
def DW.agg{b a:List AY}(h:DW b a):Xm (.agg b) (.agg a):=by
 intro x c r;cases r with
 |agg i e hr=>refine .agg (by rw[i,h.1]) e λj k d g f=>?_;obtain⟨v,q1,q2⟩:=h.2 j k g;exact q2 _ _ (hr j v d q1 f)
mutual
def Ty.mk:(t:Ty)->List Bs->Option (t.D×List Bs)
 | .bool,.bl b::r=>some (b,r)
 | .int k,.it k' n::r=>if k=k' then some (n,r)else none
 | .str,.st s::r=>some (s,r)
 | .list t,.ls t' l::r=>if h:(Ty.list t').beq (Ty.list t)=true then some (Ty.cast h l,r)else none
 | .list _,.nil::r=>some ([],r)
 | .arr n t,.ar n' t' a::r=>if h:(Ty.arr n' t').beq (Ty.arr n t)=true then some (Ty.cast h a,r)else none
 | .prod ts,ls=>ts.mk ls
 |_,_=>none
def SY.mk:(ts:SY)->List Bs->Option (ts.D×List Bs)
 | .one t,ls=>t.mk ls
 | .cons t ts,ls=>
  match t.mk ls with
  |some (x,r)=>match ts.mk r with|some (y,r')=>some ((x,y),r')|none=>none
  |none=>none
end
mutual
theorem Ty.mk_spec: ∀(t:Ty) (b:List Bs) (x:t.D) (r:List Bs),t.mk b=some (x,r)-> ∃a,b=a++r/\DW (lvs a) (t.enc x).cells
 | .bool,b,x,r,h=>by
  cases b with
  |nil=>simp[Ty.mk]at h
  |cons y b=>
   cases y<;>simp only[Ty.mk]at h<;>try (cases h;done)
   simp only[Al,EK]at h;obtain⟨rfl,rfl⟩:=h;exact⟨[_],rfl,DW.refl _⟩
 | .int k,b,x,r,h=>by
  cases b with
  |nil=>simp[Ty.mk]at h
  |cons y b=>
   cases y<;>simp only[Ty.mk]at h<;>try (cases h;done)
   split at h;rename_i f;subst f;simp only[Al,EK]at h;obtain⟨rfl,rfl⟩:=h;exact⟨[_],rfl,DW.refl _⟩;cases h
 | .str,b,x,r,h=>by
  cases b with
  |nil=>simp[Ty.mk]at h
  |cons y b=>
   cases y<;>simp only[Ty.mk]at h<;>try (cases h;done)
   simp only[Al,EK]at h;obtain⟨rfl,rfl⟩:=h;exact⟨[_],rfl,DW.refl _⟩
 | .list t,b,x,r,h=>by
  cases b with
  |nil=>simp[Ty.mk]at h
  |cons y b=>
   cases y<;>simp only[Ty.mk]at h<;>try (cases h;done)
   split at h;rename_i c;simp only[Al,EK]at h;obtain⟨rfl,rfl⟩:=h;refine⟨[_],rfl,?_⟩;have d:((Ty.list t).enc (Ty.cast c ‹_›))=_:=dY c _;rw[d];exact DW.refl _;cases h;simp only[Al,EK]at h;obtain⟨rfl,rfl⟩:=h;exact⟨[_],rfl,DW.one (Xm.nil t.sz_pos)⟩
 | .arr n t,b,x,r,h=>by
  cases b with
  |nil=>simp[Ty.mk]at h
  |cons y b=>
   cases y<;>simp only[Ty.mk]at h<;>try (cases h;done)
   split at h;rename_i c;simp only[Al,EK]at h;obtain⟨rfl,rfl⟩:=h;refine⟨[_],rfl,?_⟩;have d:((Ty.arr n t).enc (Ty.cast c ‹_›))=_:=dY c _;rw[d];have e: ∀y:Bs,lvs [y]=y.enc:=λy=>by rw[HW];simp[lvs]
   rw[e];exact DW.refl _;cases h
 | .prod ts,b,x,r,h=>ts.mk_spec b x r (by simpa only[Ty.mk]using h)
theorem SY.mk_spec: ∀(d:SY) (c:List Bs) (x:d.D) (r:List Bs),d.mk c=some (x,r)-> ∃a,c=a++r/\DW (lvs a) (d.cells x)
 | .one t,c,x,r,h=>t.mk_spec c x r (by simpa only[SY.mk]using h)
 | .cons t d,c,x,r,h=>by simp only[SY.mk]at h;split at h;rename_i y e f;split at h;rename_i z k g;simp only[Al,EK]at h;obtain⟨rfl,rfl⟩:=h;obtain⟨a,rfl,i⟩:=t.mk_spec c y e f;obtain⟨b,rfl,j⟩:=d.mk_spec e z k g;exact⟨a++b,by rw[A6],by rw[Gg];exact i.append j⟩;cases h;cases h
end
def Ty.isAgg:Ty->Bool
 | .arr .. =>true
 | .prod _=>true
 |_=>false
def Ty.all(t:Ty)(ls:List Bs):Option t.D:=
 match t.mk ls with
 |some (x,[])=>some x
 |_=>none
theorem Fa{x:t.D}(h:t.all d=some x):DW (Go.Ab.lvs d) (t.enc x).cells:=by unfold Ty.all at h;split at h;rename_i y c;obtain⟨a,rfl,b⟩:=t.mk_spec d y [] c;grind;cases h
def Ty.data(t:Ty)(v:TV):Option t.D:=
 match v with
 | .c x=>match t.isAgg|| !x.scalar with|true=>none|false=>t.all [x]
 | .g cs=>match t.isAgg with|true=>t.all cs|false=>none
 |_=>none
def Ty.scalar_cells(h:t.isAgg=false)(x:t.D):(t.enc x).cells=[t.enc x]:=by cases t<;>first|rfl|cases h
def Ty.agg_enc(h:t.isAgg=true)(x:t.D):t.enc x= .agg (t.enc x).cells:=by cases t<;>first|rfl|cases h
def MN{v:TV}{x:t.D}(h:t.data v=some x):Xm v.enc (t.enc x):=by unfold Ty.data at h;split at h;rename_i y;split at h;cases h;rename_i a;simp at a;have:=Fa h;rw[t.scalar_cells a.1,HW,MM a.2]at this;obtain⟨u,b,c⟩:=this.2 0 _ rfl;simp at b;subst b;exact c;rename_i d;split at h;rename_i a;have:=(Fa h).agg;rw[<-t.agg_enc a]at this;exact this;cases h;cases h
def Ty.tv(t:Ty)(x:t.D):TV:=
 match t,x with
 | .bool,b=>.c (.bl b)
 | .int k,n=>.c (.it k n)
 | .str,s=>.c (.st s)
 | .list t,l=>.c (.ls t l)
 | .arr n t,a=>.g [.ar n t a]
 | .prod ts,x=>.g (ts.lvs x)
def Ty.tv_enc(t:Ty)(x:t.D):(t.tv x).enc=t.enc x:=by
 cases t with
 |arr n t=>
  have a: ∀y:Bs,Go.Ab.lvs [y]=y.enc:=λy=>by rw[HW];simp[Go.Ab.lvs]
  simp only[Ty.tv,TV.enc,a];rfl
 |prod b=>simp only[Ty.tv,TV.enc,b.lvs_cells];rfl
 |_=>rfl
def Ty.tv_ok(t:Ty)(x:t.D):(t.tv x).ok b:=by
 cases t with
 |prod a=>exact a.lvs_ok x
 |_=>exact J2 trivial
def Dr.ro:Dr->Bool
 | .dead=>false
 | .live b _=>b
 | .buf b _ _ _ _=>b
 | .lp b _ _ _ _ _ _ _=>b
 | .mp b _ _ _=>b
def Dr.isLp:Dr->Bool
 | .lp .. =>true
 |_=>false
def LpS(H H':Aq):Prop:= ∀(id:Nat),id<H.length-> ∀ro F n env ps a b s,H'[id]? =some (.lp ro F n env ps a b s)-> ∃ro0 s0,H[id]? =some (.lp ro0 F n env ps a b s0)
def LpS.refl(H:Aq):LpS H H:=λ_ _ _ _ _ _ _ _ _ _ h=>⟨_,_,h⟩
def Dr.lock:Dr->Dr
 | .dead=>.dead
 | .live _ cs=>.live true cs
 | .buf _ t l n ver=>.buf true t l n ver
 | .lp _ F n env ps a b s=>.lp true F n env ps a b s
 | .mp _ k t es=>.mp true k t es
theorem uN(e:Dr):e.lock.enc=e.enc:=by cases e<;>rfl
structure CD(H H':Aq):Prop where
 len:H.length<=H'.length
 refs: ∀id ver t n,WE H id ver t n->WE H' id ver t n
 ro: ∀(id:Nat) (e:Dr),H[id]? =some e->e.ro=true->H'[id]? =some e
 nb: ∀id,id<H.length->(∀t l n ver,H[id]? ≠some (.buf false t l n ver))-> ∀t l n ver,H'[id]? ≠some (.buf false t l n ver)
 lp:LpS H H'
theorem CD.refl(H:Aq):CD H H:=⟨Am _,λ_ _ _ _ h=>h,λ_ _ h _=>h,λ_ _ h=>h,.refl H⟩
def CD.trans{a b c:Aq}(h:CD a b)(k:CD b c):CD a c:=⟨Cz h.len k.len,λid d t n q=>k.refs id d t n (h.refs id d t n q),λid e q r=>k.ro id e (h.ro id e q r) r,λid q r=>k.nb id (C7 q h.len) (h.nb id q r),λid q _ _ _ _ _ _ _ _ r=>by obtain⟨g,i,f⟩:=k.lp id (C7 q h.len) _ _ _ _ _ _ _ _ r;exact h.lp id q _ _ _ _ _ _ _ _ f⟩
def CD.leaf(h:CD G b)(k:v.ok G):v.ok b:=by
 cases v with
 |own id a t n=>exact h.refs id a t n k
 |_=>trivial
def CD.lok(h:CD b G)(k:lok b d):lok G d:=λx c=>h.leaf (k x c)
def CD.tv(h:CD b G)(k:e.ok b):e.ok G:=h.lok k
def CD.ent(h:CD b G)(k:D.ok b):D.ok G:=by
 cases D with
 |live H d=>exact h.lok k
 |buf H t l n c=>exact k
 |dead=>trivial
 |lp=>exact k
 |mp=>exact k
def CD.env{H a:Aq}(h:CD H a){env:Bc}(k: ∀p∈env,p.2.ok H): ∀p∈env,p.2.ok a:=λp b=>h.tv (k p b)
theorem CD.push(H:Aq)(e:Dr):CD H (H++[e]):=by refine⟨k!,λid g t n h=>⟨by have:=h.1;simp;omega,λro f l d a b=>?_⟩,λid i b hr=>?_,λid c h=>q!,λid c _ _ _ _ _ _ _ _ h=>q!⟩;rw[CL h.1]at b;exact h.2 ro f l d a b;grind
def CD.set{H:Aq}{id:Nat}{r:Dr}(o:H[id]? =some D)(hr:D.ro=false)
  (y: ∀ro t l n k,r= .buf ro t l n k-> ∃d v p f,D= .buf d t v p f/\(f<k\/(f=k/\p=n)))
  (B: ∀ro F n env z a b s,r= .lp ro F n env z a b s-> ∃d w,D= .lp d F n env z a b w:=by intro _ _ _ _ _ _ _ _ h;cases h):CD H (H.set id r):=by
 have m:id<H.length:=by rcases Au id H.length with u|u;exact u;rw[Cc u]at o;cases o
 refine⟨k!,λj k t n h=>⟨by simpa using h.1,λro I l G A g=>?_⟩,λj E g x=>?_,λj g h t l n k i=>?_,λj g _ _ _ _ _ _ _ _ i=>?_⟩;by_cases c:j=id;subst c;rw[HG m]at g;injection g with g;obtain⟨d,v,p,f,q1,q2⟩:=y _ _ _ _ _ g;subst q1;obtain⟨C,e⟩:=h.2 _ _ _ _ _ o;rcases q2 with q2|⟨rfl,rfl⟩;exact⟨o!,λD=>o!⟩;exact⟨C,e⟩;rw[Dw (λD=>c D.symm)]at g;exact h.2 _ _ _ _ _ g;have c:j≠id:=by rintro rfl;rw[o]at g;injection g with g;subst g;rw[hr]at x;cases x
 rw[Dw (λD=>c D.symm)];exact g;by_cases c:j=id;subst c;rw[HG m]at i;injection i with i;obtain⟨d,v,p,f,q1,_⟩:=y _ _ _ _ _ i;subst q1;have:d=false:=hr;subst this;exact h _ _ _ _ o;rw[Dw (λD=>c D.symm)]at i;exact h _ _ _ _ i;by_cases c:j=id;subst c;rw[HG m]at i;injection i with i;obtain⟨d,w,q⟩:=B _ _ _ _ _ _ _ _ i;exact⟨d,w,by rw[o,q]⟩;rw[Dw (λD=>c D.symm)]at i;exact⟨_,_,i⟩
theorem Pz{H:Aq}(h: ∀x∈H,x.ok H)(b:D.ok (H++[D])): ∀x∈H++[D],x.ok (H++[D]):=by intro x a;rcases A1.1 a with a|a;exact(CD.push H D).ent (h x a);grind
def Vg{H:Aq}{id:Nat}(d:CD H (H.set id D))(h: ∀x∈H,x.ok H)(c:D.ok (H.set id D)): ∀x∈H.set id D,x.ok (H.set id D):=by intro x b;rcases WJ b with b|rfl;exact d.ent (h x b);exact c
def Frame(F:List Nat)(H H':Aq):Prop:= ∀j,j<H.length->j∉F->H'[j]? =H[j]?
def Frame.refl(F:List Nat)(H:Aq):Frame F H H:=λ_ _ _=>rfl
def Frame.push(F:List Nat)(H:Aq)(e:Dr):Frame F H (H++[e]):=λ_ a _=>CL a
theorem Frame.set{F:List Nat}{H:Aq}{id:Nat}(h:id∈F):Frame F H (H.set id D):=λj _ hn=>Dw λq:id=j=>hn q!
def idT:TV->List Nat
 | .c (.raw a)=>qQ a
 | .c (.own id _ _ _)=>[id]
 | .aptr id .. =>[id]
 | .bptr id .. =>[id]
 |_=>[]
theorem AFd(v:TV):qQ v.enc=idT v:=by
 cases v with
 |c x=>
  cases x with
  |_=>rfl
 |_=>rfl
def Ri(H:Aq)(e:Dr):BH (H++[e])=BH H++[e.enc]:=by simp[BH]
theorem N7(H:Aq)(id:Nat)(e:Dr):BH (H.set id e)=(BH H).set id e.enc:=by simp[BH]
theorem CR(H:Aq):(BH H).length=H.length:=B5 _
section
variable {R:Type}
def storeT(P:Program)(H:Aq)(t:TypeId)(p v:TV)(k:TV->Aq->Option R):Option R:=
 match v.words,tI P t with
 |some ws,some (_,n)=>
  match Nat.beq (AEs ws) n with
  |false=>none
  |true=>
   match p with
   | .c (.raw (.ptr id 0 off))=>
    match H[id]? with
    |some (.live false cs)=>match ACq cs off ws n with|some cs'=>k Vp (H.set id (.live false cs'))|none=>none
    |_=>none
   | .aptr id base m te i off=>
    match H[id]? with
    |some (.live false cs)=>
     match Xa cs base with
     |some (pre,.ar m' te' a::post)=>
      if h:(Ty.arr m' te').beq (Ty.arr m te)=true then
       (Fp (n:=m+1) (Ty.cast h a) i).bind λe=>
        match ACq (te.lvs e) off ws n with
        |some ls=>match te.all ls with|some e'=>k Vp (H.set id (.live false (pre++(.ar m te (XD (n:=m+1) (Ty.cast h a) i e')::post))))|none=>none
        |none=>none
      else none
     |_=>none
    |_=>none
   | .bptr id ver te _ i off=>
    match H[id]? with
    |some (.buf false te' l n' ver')=>
     match Nat.beq ver ver' with
     |true=>
      if h:(Ty.list te').beq (Ty.list te)=true then
       (ix (α:=te.D) (Ty.cast h l) i).bind λe=>
        match ACq (te.lvs e) off ws n with
        |some ls=>match te.all ls with|some e'=>k Vp (H.set id (.buf false te (E4 (α:=te.D) (Ty.cast h l) i e') n' ver'))|none=>none
        |none=>none
      else none
     |false=>none
    |_=>none
   |_=>none
 |_,_=>none
theorem za{b d:List AY}(h:N+d.length<=Q.length):W7 (i++Q++b) (i.length+N) d=i++W7 Q N d++b:=by
 unfold W7;have e:(i++Q++b).take (i.length+N)=i++Q.take N:=by rw[A6,mu,BK o!,Yc,fF o!]
 have f:(i++Q++b).drop (i.length+N+d.length)=Q.drop (N+d.length)++b:=by grind[List.drop_drop,List.drop_left]
 grind
theorem Ul.set_less{H m n:Az}{f cs':List AY}(k:N<H.length)(s:m=H.set N (.live U f))(t:n=H.set N (.live U cs'))(o:DW f cs')(d:x.Later y):Ul x y m n:=by
 subst s t;refine⟨k!,λj p a=>?_⟩;by_cases b:j=N;subst b;rw[HG k]at a;injection a with a;subst a;refine .inr (.inl ⟨U,f,cs',q!,rfl,o.1,λi l h=>?_⟩);obtain⟨v,q1,q2⟩:=o.2 i l h;exact⟨v,q1,λc r=>q2 _ _ (r.later d)⟩;rw[Dw (λe=>b e.symm)]at a;cases p with
 |live q c0=>exact .inr (.inl ⟨q,c0,c0,q!,rfl,rfl,λi l h=>⟨l,h,λc r=>r.later d⟩⟩)
 |_=>grind
theorem iU(l:Z.length=p.length)(i: ∀(j:Nat) (e:FU),Z[j]? =some e->e≠ .dead-> ∃a,p[j]? =some a/\a≠ .dead):(cx X h p w).Later (cx X h Z w):={size:=Am _,keep:=λ_ _ _ _=>rfl,gen:=λ_ _=>Am _,same:=λ_ _ _=>⟨rfl,rfl⟩,n:=by simp[cx,l],own:=λB _ m=>m.imp _root_.id (λ⟨j,e,k,d,c⟩=>by obtain⟨a,f,g⟩:=i j e k d;exact⟨j,a,f,g,c⟩)}
theorem JM.set_less{N:Nat}{b cs':List AY}(d:n<p.length)(h:JM P N o s p (C6 u (p.set n (.live U b))))(f:DW b cs'):JM P N o s p (C6 u (p.set n (.live U cs'))):=by
 refine JM.after h λX e w _=>?_;have a:(cx X e (p.set n (.live U b)) w).Later (cx X e (p.set n (.live U cs')) w):=by grind[iU]
 exact⟨Ul.set_less d rfl rfl f a,λc r=>r.later a⟩
theorem Gx{l:List R}{x:R}(h:l[N]? =some x):N<l.length:=q!
variable {P:Program} {N:Nat} {o:Oper} {env:Bc} {H:Aq} {k:TV->Aq->Option R} {r:R}
def pI(P:Program)(N:Nat)(o:Oper)(env:Bc)(H:Aq)(F:List Nat)(k:TV->Aq->Option R)(r:R):Prop:=
 ∃v H',JM P N o (B9 env) (BH H) (C6 v.enc (BH H'))/\k v H'=some r/\v.ok H'/\(∀e∈H',e.ok H')/\CD H H'/\Frame F H H'
theorem xr(ok:Qs env H)(ho:o.op= .store a c L)(h:storeT P H a (JO env c) (JO env L) k=some r):pI P N o env H (idT (JO env c)) k r:=by
 have W:=LC env;have a0:(JO env L).ok H:=gf ok.env L;have al:(JO env c).ok H:=gf ok.env c;unfold storeT at h;split at h;rename_i ws b n hw ht;obtain⟨w1,Z,w3⟩:=ZM hw;split at h;cases h;rename_i hn;have f:(lvs ws).length=n:=by grind[eY,Nat.eq_of_beq_eq_true]
 have S:tI P a=some (b,(JO env L).enc.cells.length):=q!
 split at h;rename_i id d G;split at h;rename_i cs u;split at h;rename_i M hs;obtain⟨s1,s2,s3⟩:=mB hs f;have C:(BH H)[id]? =some (.live 0 (lvs cs)):=by rw[E6,u];rfl
 have j:CD H (H.set id (.live false M)):=CD.set u rfl λ_ _ _ _ _ h=>by cases h
 refine⟨Vp,_,JM.store ho (id:=id) (g:=0) (off:=d) (v:=(JO env L).enc) (by rw[W,G];rfl) (W L) w1 C S (by rw[Z,f];exact s2) ⟨rfl,?_⟩,h,il,Vg j ok.heap (j.lok (s3 H (ok.heap _ (BU u)) (w3 H a0))),j,Frame.set (by rw[G];exact BI.2 rfl)⟩;rw[N7,Z,<-s1];rfl;cases h;cases h;rename_i id A m te i d G;split at h;rename_i cs u;split at h;rename_i w X t y p hs;split at h;rename_i hb;have U:=Ty.beq_eq _ _ hb;injection U with hm T;subst hm T;obtain⟨e,hg,h⟩:=Db.1 h;split at h;rename_i ls R;split at h;rename_i O B;obtain⟨ad,J⟩:=Oy hs;obtain⟨s1,s2,_⟩:=mB R f;have s:=Fa B;have q:(Ty.cast hb y:GF (X+1) t.D)=y:=rfl;rw[q]at hg h;obtain⟨h0,I,rfl,rfl⟩:=pL hg;obtain⟨x,c2,q1,q2,q3⟩:=sy t.E y I;have C:(BH H)[id]? =some (.live 0 (lvs w++x++(t.enc (y I)).cells++(c2++lvs p))):=by rw[E6,u,ad];show some (FU.live 0 (lvs (w++(.ar X t y::p))))=_;rw[Gg,HW,cI,q1];simp only[A6];rfl
 have j:CD H (H.set id (.live false (w++(.ar X t (XD (n:=X+1) y (I.val:Int) O)::p)))):=CD.set u rfl λ_ _ _ _ _ h=>by cases h
 have ag:lok H cs:=ok.heap _ (BU u);rw[ad]at ag;obtain⟨o1,o2⟩:=I7.1 ag;refine⟨Vp,_,?_,h,il,Vg j ok.heap (j.lok (I7.2 ⟨o1,λz hz=>?_⟩)),j,Frame.set (by rw[G];exact BI.2 rfl)⟩;have F:d+(lvs ws).length<=(t.enc (y I)).cells.length:=by rw[f,<-t.lvs_enc];exact s2
 have st:=JM.store (P:=P) (N:=N) (K:=C6 .any ((BH H).set id (.live 0 (W7 (lvs w++x++(t.enc (y I)).cells++(c2++lvs p)) (A+(I.val:Int).toNat*t.sz+d) (JO env L).enc.cells)))) ho (id:=id) (g:=0)
  (off:=A+(I.val:Int).toNat*t.sz+d) (v:=(JO env L).enc) (by rw[W,G];rfl) (W L) w1 C S (by rw[Z,f];simp only[Aa,q2,J];have:t.E.sz=t.sz:=rfl;rw[f]at F;simp only[Ct,this];omega) ⟨rfl,rfl⟩
 have ea:A+(I.val:Int).toNat*t.sz+d=(lvs w++x).length+d:=by rw[Aa,J,q2,Ct];rfl
 rw[Z,ea,za F]at st;have Q:=JM.set_less (cs':=lvs (w++(.ar X t (XD (n:=X+1) y (I.val:Int) O)::p))) (by rw[CR];exact Gx u) st (by rw[Gg,HW,cI,q3 O];simp only[A6];refine(DW.refl _).append ((DW.refl _).append (DW.append ?_ (DW.refl _)));rw[<-t.lvs_enc,<-s1];exact s);rw[N7];exact Q;rcases A8.1 hz with rfl|hz;trivial;exact o2 z (by simp[hz]);cases h;cases h;cases h;cases h;cases h;rename_i id V te nn i d G;split at h;rename_i t l Y a1 u;split at h;rename_i hv;have ax:=DR hv;subst ax;split at h;rename_i hb;have U:=Ty.beq_eq _ _ hb;injection U with T;subst T;obtain⟨e,hg,h⟩:=Db.1 h;split at h;rename_i ls R;split at h;rename_i O B;obtain⟨s1,s2,_⟩:=mB R f;have s:=Fa B;have q:(Ty.cast hb l:List t.D)=l:=rfl;rw[q]at hg h;obtain⟨x,c2,q1,q2,q3,q4,_,q5⟩:=tO t.E hg;have hr:WE H id V t nn:=by rw[G]at al;exact al (.own id V t nn) (by simp[TV.refs])
 obtain⟨_,ap⟩:=hr.2 _ _ _ _ _ u;obtain⟨_,rfl⟩:=ap rfl;have ao:Y=l.length:=ok.heap _ (BU u);have C:(BH H)[id]? =some (.live Y (x++(t.enc e).cells++c2)):=by rw[E6,u];show some (FU.live Y (t.E.cl l))=_;rw[q1];rfl
 have j:CD H (H.set id (.buf false t (E4 l i O) Y V)):=CD.set u rfl λ_ _ _ _ _ h=>by cases h;exact⟨_,_,_,_,rfl,.inr ⟨rfl,rfl⟩⟩
 refine⟨Vp,_,?_,h,il,Vg j ok.heap ((uP ao.symm).symm),j,Frame.set (by rw[G];exact BI.2 rfl)⟩;have F:d+(lvs ws).length<=(t.enc e).cells.length:=by rw[f,<-t.lvs_enc];exact s2
 have st:=JM.store (P:=P) (N:=N) (K:=C6 .any ((BH H).set id (.live Y (W7 (x++(t.enc e).cells++c2) (i.toNat*t.sz+d) (JO env L).enc.cells)))) ho (id:=id) (g:=Y)
  (off:=i.toNat*t.sz+d) (v:=(JO env L).enc) (by rw[W,G];rfl) (W L) w1 C S (by rw[Z,f];simp only[Aa,q2];have:t.E.sz=t.sz:=rfl;rw[f]at F;rw[this];omega) ⟨rfl,rfl⟩
 have ea:i.toNat*t.sz+d=x.length+d:=by rw[q2];rfl
 rw[Z,ea,za F]at st;have Q:=JM.set_less (cs':=t.E.cl (E4 l i O)) (by rw[CR];exact Gx u) st (by unfold E4;rw[q5 O];refine DW.append (DW.append (DW.refl _) ?_) (DW.refl _);rw[<-t.lvs_enc,<-s1];exact s);rw[N7];exact Q;cases h;cases h;cases h;cases h;cases h;cases h;cases h
end
section
variable {R:Type}
def zu(P:Program)(H:Aq)(t:TypeId)(k:TV->Aq->Option R):Option R:=
 match ux P t with
 |some z=>k (.c (.raw (.ptr H.length 0 0))) (H++[.live false z])
 |none=>none
def AFD(H:Aq)(v:TV)(k:TV->Aq->Option R):Option R:=
 match v.words with
 |some ws=>k (.c (.raw (.ptr H.length 0 0))) (H++[.live false ws])
 |none=>none
def mf(t:Ty):List TV->Option (List t.D)
 |[]=>some []
 |v::r=>match t.data v,mf t r with|some x,some xs=>some (x::xs)|_,_=>none
def elT(P:Program)(t:TypeId):Option Ty:=
 match eI P t with
 |some (none,e,sz)=>
  match AA5 P 1000 e with
  |some te=>if sz=te.sz/\SX P e=true then some te else none
  |none=>none
 |_=>none
def iY(len:Nat)(te:Ty)(parts:Array (Nat×Operand))(vs:List TV):Bool:=
 decide (parts.toList.map (·.1)=List.range len)&&(vs.all λv=>match v.words with|some ws=>Nat.beq (AEs ws) te.sz|none=>false)&&Nat.ble len 4096&&Nat.ble te.sz 4096
def Z1(P:Program)(env:Bc)(H:Aq)(t:TypeId)(len:Nat)(parts:Array (Nat×Operand))(k:TV->Aq->Option R):Option R:=
 match elT P t with
 |some te=>
  match iY len te parts (parts.toList.map λp=>JO env p.2)with
  |true=>match mf te (parts.toList.map λp=>JO env p.2)with|some xs=>k (.c (.own H.length 0 te xs.length)) (H++[.buf false te xs xs.length 0])|none=>none
  |false=>none
 |none=>none
def qv(P:Program)(env:Bc)(t:TypeId)(len:Nat)(parts:Array (Nat×Operand))(k:TV->Option R):Option R:=
 match elT P t with
 |some te=>
  match iY len te parts (parts.toList.map λp=>JO env p.2)with
  |true=>match mf te (parts.toList.map λp=>JO env p.2)with|some xs=>k (.c (.ls te xs))|none=>none
  |false=>none
 |none=>none
def iV(P:Program)(H:Aq)(t:TypeId)(x y:TV)(k:TV->Aq->Option R):Option R:=
 match eI P t,x,y with
 |some (none,e,_),.c (.it _ l),.c (.it _ c)=>
  match elT P t,ux P e with
  |some te,some z=>match te.all z with|some zd=>(mk zd l c).bind λr=>k (.c (.own H.length 0 te r.length)) (H++[.buf false te r r.length 0])|none=>none
  |_,_=>none
 |_,_,_=>none
def uu(P:Program)(H:Aq)(src dst:TypeId)(x:TV)(k:TV->Aq->Option R):Option R:=
 match P.underlying src,P.underlying dst,x with
 |some _,some (.slice e),.c (.st s)=>
  match P.underlying e with
  |some (.int .u8)=>k (.c (.own H.length 0 (.int .u8) (TS s).length)) (H++[.buf false (.int .u8) (TS s) (TS s).length 0])
  |_=>none
 |_,_,_=>none
def AEY(H:Aq)(te:Ty)(v:TV):Option (List te.D):=
 match v with
 | .c (.ls te' l)=>if h:(Ty.list te').beq (Ty.list te)=true then some (Ty.cast h l)else none
 | .c (.own id ver te' _)=>if h:(Ty.list te').beq (Ty.list te)=true then(match j8 H id ver te' with|some l=>some (Ty.cast (t:=.list te') (t':=.list te) h l)|none=>none)else none
 | .c .nil=>some []
 |_=>none
def sG(P:Program)(H:Aq)(t:TypeId)(s x:TV)(k:TV->Aq->Option R):Option R:=
 match elT P t with
 |some te=>
  match AEY H te x with
  |some xs=>
   match s with
   | .c .nil=>(app [] xs).bind λr=>k (.c (.own H.length 0 te r.length)) (H++[.buf false te r r.length 0])
   | .c (.own id ver te' _)=>
    match H[id]? with
    |some (.buf false t2 l _ ver')=>
     match Nat.beq ver ver' with
     |true=>
      if h:(Ty.list t2).beq (Ty.list te)=true/\(Ty.list te').beq (Ty.list te)=true then
       (app (α:=te.D) (Ty.cast h.1 l) xs).bind λr=>k (.c (.own id (ver+1) te r.length)) (H.set id (.buf false te r r.length (ver+1)))
      else none
     |false=>none
    |_=>none
   |_=>none
  |none=>none
 |none=>none
variable {P:Program} {N:Nat} {o:Oper} {env:Bc} {H:Aq} {k:TV->Aq->Option R} {r:R}
theorem uV{H:Aq}{l:List t.D}:(TV.c (.own H.length N t l.length)).ok (H++[.buf A t l l.length N]):=by refine J2 ⟨k!,λd h f g b e=>?_⟩;grind
def sO(H:Aq)(b:Ty)(n a:Nat):(TV.c (.own H.length a b n)).enc= .sl (BH H).length n b.sz 0 n:=by rw[CR];rfl
def wj(ok:Qs env H)(b:o.op= .alloc a)(h:zu P H a k=some r):pI P N o env H [] k r:=by
 unfold zu at h;split at h;rename_i z d;obtain⟨e,f⟩:=ZP d;refine⟨_,_,?_,h,J2 trivial,Pz ok.heap (f _),CD.push _ _,Frame.push _ _ _⟩;have t:(TV.c (.raw (.ptr H.length 0 0))).enc= .ptr (BH H).length 0 0:=by rw[CR];rfl
 rw[t,Ri];exact JM.alloc b e ⟨rfl,rfl⟩;cases h
def AAB(ok:Qs env H)(b:o.op= .box a c)(h:AFD H (JO env c) k=some r):pI P N o env H [] k r:=by
 unfold AFD at h;split at h;rename_i i d;obtain⟨e,f,g⟩:=ZM d;refine⟨_,_,?_,h,J2 trivial,Pz ok.heap ((CD.push _ _).lok (g H (gf ok.env c))),CD.push _ _,Frame.push _ _ _⟩;have t:(TV.c (.raw (.ptr H.length 0 0))).enc= .ptr (BH H).length 0 0:=by rw[CR];rfl
 rw[t,Ri];exact JM.box b (LC env c) e ⟨rfl,by rw[f];rfl⟩;cases h
def nL{t:Ty}: ∀{b:List TV} {a:List t.D},mf t b=some a->DW (b.map TV.enc) (a.map t.enc)
 |[],a,h=>by simp only[mf,Al]at h;subst h;exact DW.refl _
 |v::r,a,h=>by simp only[mf]at h;split at h;rename_i x e c d;injection h with h;subst h;have:=nL d;exact(DW.one (MN c)).append this;cases h
def kS{t:Ty}: ∀{e:List TV} {b:List t.D},mf t e=some b->DW ((e.map TV.enc).flatMap AY.cells) (t.E.cl b)
 |[],b,h=>by simp only[mf,Al]at h;subst h;exact DW.refl _
 |v::r,b,h=>by simp only[mf]at h;split at h;rename_i x k a g;injection h with h;subst h;have i:=kS g;refine DW.append ?_ i;unfold Ty.data at a;split at a;rename_i y;split at a;cases a;rename_i d;simp at d;have c:=Fa a;rw[HW,MM d.2,<-Bs.scalar_cells d.2]at c;have f:lvs ([]:List Bs)=[]:=rfl;rw[f,D4]at c;exact c;rename_i j;split at a;exact Fa a;cases a;cases a;cases h
theorem kT(h:elT P a=some t): ∃e,eI P a=some (none,e,t.sz)/\SX P e=true:=by grind[elT]
theorem ub(h:elT P a=some t)(c:iY N t E (E.toList.map λp=>JO env p.2)=true):
  TJ P (B9 env) a N E=some (t.sz,(E.toList.map λp=>JO env p.2).map TV.enc):=by
 obtain⟨e,k,l⟩:=kT h;unfold iY at c;simp only[BO,decide_eq_true_eq]at c;obtain⟨⟨⟨f,g⟩,i⟩,j⟩:=c;have d:(E.toList.map λp=>BJ (B9 env) p.2)=(E.toList.map λp=>JO env p.2).map TV.enc:=by grind[List.map_congr_left,LC]
 unfold TJ;simp only[k,d];refine if_pos ⟨t.sz_pos,l,f,?_,O5 i,O5 j⟩;rw[Fq];intro v n;obtain⟨u,m,rfl⟩:=Bl.1 n;have:=Fq.1 g u m;split at this<;>simp_all[ZM,eY]
theorem ACK{b:List t.D}(h:mf t m=some b):b.length=m.length:=by have:=(nL h).1;grind
theorem Ul.push_less{H:Az}(n:DW i Q)(d:x.Later y):Ul x y (H++[.live N i]) (H++[.live N Q]):=by
 refine⟨k!,λj o e=>?_⟩;rcases Au j H.length with b|b;rw[CL b]at e;cases o with
 |live p c0=>exact .inr (.inl ⟨p,c0,c0,q!,rfl,rfl,λg m h=>⟨m,h,λc r=>r.later d⟩⟩)
 |_=>grind
 have k:=Gx e;simp at k;have l:j=H.length:=o!
 subst l;simp at e;subst e;refine .inr (.inl ⟨N,i,Q,k!,rfl,n.1,λg m h=>?_⟩);obtain⟨v,q1,q2⟩:=n.2 g m h;exact⟨v,q1,λc r=>q2 _ _ (r.later d)⟩
theorem JM.push_less(h:JM P N o s p (C6 u (p++[.live n i])))(E:DW i Q):JM P N o s p (C6 u (p++[.live n Q])):=by
 refine JM.after h λX f w _=>?_;have b:(cx X f (p++[.live n i]) w).Later (cx X f (p++[.live n Q]) w):=by refine iU k! λj e l k=>?_;grind
 exact⟨Ul.push_less E b,λc r=>r.later b⟩
def nu(ok:Qs env H)(f:o.op= .buildSlice a n E)(h:Z1 P env H a n E k=some r):pI P N o env H [] k r:=by unfold Z1 at h;split at h;rename_i i d;split at h;rename_i g;split at h;rename_i j c;have e:=ub d g;have b:=ACK c;refine⟨_,_,?_,h,uV,Pz ok.heap rfl,CD.push _ _,Frame.push _ _ _⟩;rw[sO,Ri];have:=UB (N:=N) (H:=BH H) (K:=C6 _ _) f e ⟨rfl,rfl⟩;rw[B5,<-b]at this;exact JM.push_less this (kS c);cases h;cases h;cases h
theorem AGO{a:Ty}{vs:List AY}{l:List a.D}(h:DW vs (l.map a.enc))(I:DW (vs.flatMap AY.cells) (a.E.cl l))(z: ∀v∈vs,v.cells.length=a.sz):Xm (.vs a.sz vs) (.vs a.sz (l.map a.enc)):=by
 intro x c L;cases L with
 |vs f t o w C p=>
  have hn:(l.map a.enc).length=vs.length:=h.1;rw[<-hn];have key: ∀(j:Nat) (e:AY) (i:Nat) (v:AY),(l.map a.enc)[j]? =some e->e.cells[i]? =some v-> ∃b k,vs[j]? =some b/\b.cells[i]? =some k/\Xm k v:=by
   intro j e i v d m;obtain⟨b,q1,_⟩:=h.2 j e d;have g: ∀u∈l.map a.enc,u.cells.length=a.sz:=λu J=>by obtain⟨y,_,rfl⟩:=Bl.1 J;exact a.enc_len y
   have A:=oV g j e i v d m;obtain⟨k,r,s⟩:=I.2 _ v A;have H:i<a.sz:=by grind
   have F:=z b (BU q1);have G:b.cells[i]? =some (b.cells[i]'(by omega)):=A4 (by omega);have M:=oV z j b i _ q1 G;grind
  refine Bp.vs f (by grind) o (λj e d=>?_) (λn=>?_) λj e i v d m=>?_;obtain⟨y,_,rfl⟩:=Bl.1 (BU d);exact a.enc_len y;obtain⟨B,q,q1,q2,q3,q4⟩:=C (λe=>n (EL (by grind)));refine⟨B,q,q1,q2,q3,λj e i v d m=>?_⟩;obtain⟨b,k,r,s,_⟩:=key j e i v d m;grind;obtain⟨b,k,r,s,K⟩:=key j e i v d m;exact K _ _ (p j b i k r s)
def qX(ok:Qs env H)(s:o.op= .makeSlice a c L)(h:iV P H a (JO env c) (JO env L) k=some r):pI P N o env H [] k r:=by
 have i:=LC env;unfold iV at h;split at h;rename_i e sz Q l O t j v w;split at h;rename_i b z d A;split at h;rename_i x f;obtain⟨I,q,h⟩:=Db.1 h;obtain⟨M,m,u⟩:=kT d;rw[j]at m;obtain⟨rfl,rfl⟩:=m;obtain⟨J,R⟩:=ZP A;have y:=Fa f;obtain⟨⟨C,D,F⟩,p,G⟩:=AJR b.E x q;refine⟨_,_,?_,h,uV,Pz ok.heap rfl,CD.push _ _,Frame.push _ _ _⟩;rw[sO,Ri];have g:(lvs z).length=b.sz:=by rw[<-y.1,b.enc_len]
 have:=JM.makeSlice (N:=N) (H:=BH H) (K:=C6 _ _) s j b.sz_pos u J g (by rw[i,v];rfl) (by rw[i,w];rfl) C D F ⟨rfl,rfl⟩;rw[p]at this;apply JM.push_less this;rw[<-G,p];induction I.length with
 |zero=>exact DW.refl _
 |succ n B=>exact DW.append y B
 cases h;cases h;cases h
def uv(ok:Qs env H)(j:o.op= .convert I a c)(h:uu P H I a (JO env c) k=some r):pI P N o env H [] k r:=by have f:=LC env;unfold uu at h;split at h;rename_i u e s l g m;split at h;rename_i i;refine⟨_,_,?_,h,uV,Pz ok.heap rfl,CD.push _ _,Frame.push _ _ _⟩;rw[sO,Ri];obtain⟨b,d⟩:=AIW s;have:=qG (N:=N) (H:=BH H) (K:=C6 _ _) j l g i (by rw[f,m];rfl) ⟨rfl,rfl⟩;rw[d,b]at this;exact this;cases h;cases h
theorem AAu{f:List t.D}(k: ∀d∈H,d.ok H)(p:e.ok H)(h:AEY H t e=some f):Nz (BH H) t.sz e.enc=some (f.length,t.E.cl f):=by unfold AEY at h;split at h;rename_i a l;split at h;rename_i g;have c:=Ty.beq_eq _ _ g;injection c with b;subst b;injection h with h;have j:=h;subst j;simp only[TV.enc,Bs.one,Nz,B5];rfl;cases h;rename_i id i a n;split at h;rename_i g;have c:=Ty.beq_eq _ _ g;injection c with b;subst b;split at h;rename_i l m;injection h with h;have j:l=f:=h;obtain⟨q,r⟩:=nt k (p (.own id i a n) (by simp[TV.refs])) m;have s:=a.E.clen l;have o:a.E.sz=a.sz:=rfl;grind[TV.enc,Bs.one,Nz];cases h;cases h;injection h with h;subst h;rfl;cases h
theorem u5(ok:Qs env H)(R:o.op= .call {callee:=.builtin .append,args:= #[c,L],argTypes:= #[a,I]})(Y:a=I)(h:sG P H a (JO env c) (JO env L) k=some r):pI P N o env H (idT (JO env c)) k r:=by
 subst Y;have x:=LC env;unfold sG at h;split at h;rename_i te C;obtain⟨e,Q,S⟩:=kT C;split at h;rename_i w v;have M:=AAu ok.heap (gf ok.env L) v;rw[<-x]at M;split at h;rename_i b;obtain⟨l,u,X⟩:=Db.1 h;obtain⟨W,j⟩:=np u;rw[Cp]at j;subst j;refine⟨_,_,?_,X,uV,Pz ok.heap rfl,CD.push _ _,Frame.push _ _ _⟩;rw[sO,Ri];have:=dW (N:=N) (H:=BH H) (K:=C6 _ _) R Q te.sz_pos S (by rw[x,b];rfl) M q! ⟨rfl,rfl⟩;exact this;rename_i id g ag n b;split at h;rename_i d l J T t;split at h;rename_i Z;have G:=DR Z;subst G;split at h;rename_i y;have F:=Ty.beq_eq _ _ y.1;injection F with p;have s:=Ty.beq_eq _ _ y.2;injection s with q;subst q;subst p;obtain⟨l2,u,h⟩:=Db.1 h;have f:(Ty.cast y.1 l:List d.D)=l:=rfl;rw[f]at u;obtain⟨W,rfl⟩:=np u;have hr:WE H id g d n:=by have:=gf ok.env c;rw[b]at this;exact this (.own id g d n) (by simp[TV.refs])
 obtain⟨_,A⟩:=hr.2 _ _ _ _ _ t;obtain⟨_,rfl⟩:=A rfl;have z:J=l.length:=ok.heap _ (BU t);have i:(BH H)[id]? =some (.live J (d.E.cl l)):=by rw[E6,t];rfl
 have m:CD H (H.set id (.buf false d (l++w) (l++w).length (g+1))):=CD.set t rfl λ_ _ _ _ _ h=>by cases h;exact⟨_,_,_,_,rfl,.inl (Nat.lt_succ_self _)⟩
 refine⟨_,_,?_,h,J2 ⟨q!,λad I l' n2 U hg=>?_⟩,Vg m ok.heap rfl,m,Frame.set (by rw[b];exact BI.2 rfl)⟩;have O:=d.E.clen l;have B:d.E.sz=d.sz:=rfl;rw[B]at O;have:=SO (N:=N) (H:=BH H) (g':=J+w.length) (K:=C6 _ _) R Q d.sz_pos S (by rw[x,b];rfl) i (by rw[O,z]) M q! (by rcases WL w.length with V|V;grind;exact .inl o!) ⟨rfl,rfl⟩;grind[N7,List.length_append,Ur.cl,TV.enc,Bs.one,Dr.enc];grind;cases h;cases h;cases h;cases h;cases h;cases h
end
def Nr(id ver:Nat)(t:Ty)(l:List t.D):Bs->Bs
 | .own id' ver' t' n=>match Nat.beq id id'&&Nat.beq ver ver' with|true=>.ls t l|false=>.own id' ver' t' n
 |x=>x
mutual
def od(id ver:Nat)(t:Ty)(l:List t.D):TV->TV
 | .c x=>.c (Nr id ver t l x)
 | .g cs=>.g (cs.map (Nr id ver t l))
 | .tup vs=>.tup (gn id ver t l vs)
 | .aptr a b n te i o=>.aptr a b n te i o
 | .bptr a v te n i o=>.bptr a v te n i o
 | .vptr cs post=>.vptr cs post
def gn(id ver:Nat)(t:Ty)(l:List t.D):List TV->List TV
 |[]=>[]
 |v::r=>od id ver t l v::gn id ver t l r
end
def Q6(id ver:Nat)(t:Ty)(l:List t.D):Dr->Dr
 | .live false cs=>.live false (cs.map (Nr id ver t l))
 |e=>e
def frz(id:Nat)(env:Bc)(H:Aq):Option (Bc×Aq):=
 match H[id]? with
 |some (.buf false t l _ ver)=>some (env.map λp=>(p.1,od id ver t l p.2),(H.map (Q6 id ver t l)).set id .dead)
 |_=>none
def To(x y:Cx)(a b:List AY):Prop:=b.length=a.length/\ ∀(i:Nat) (v':AY),b[i]? =some v'-> ∃v,a[i]? =some v/\Conv x y v v'
theorem To.append{b f:List AY}(c:To x y i Q)(g:To x y b f):To x y (i++b) (Q++f):=by refine⟨by simp[c.1,g.1],λa j h=>?_⟩;rcases Au a Q.length with d|d;rw[CL d]at h;obtain⟨v,q1,q2⟩:=c.2 a j h;grind;rw[Cb d]at h;obtain⟨v,q1,q2⟩:=g.2 _ j h;exact⟨v,by rw[Cb (by rw[<-c.1];exact d),<-c.1];exact q1,q2⟩
def To.later{x y:Cx}(l:x.Later y)(a:List AY):To x y a a:=⟨rfl,λ_ v h=>⟨v,h,λ_ r=>r.later l⟩⟩
theorem To.one{b:AY}(h:Conv x y u b):To x y [u] [b]:=⟨rfl,λi v a=>by
 match i,a with
 |0,a=>grind
 |i+1,a=>simp at a⟩
def To.agg{x y:Cx}{b a:List AY}(h:To x y b a):Conv x y (.agg b) (.agg a):=by
 intro c r;cases r with
 |agg i e hr=>refine .agg (by rw[i,h.1]) e λj k d g f=>?_;obtain⟨v,q1,q2⟩:=h.2 j k g;exact q2 _ (hr j v d q1 f)
def To.tup{x y:Cx}{b a:List AY}(h:To x y b a):Conv x y (.tup b) (.tup a):=by
 intro c r;cases r with
 |tup g hr=>refine .tup (by rw[g,h.1]) λj i d f e=>?_;obtain⟨v,q1,q2⟩:=h.2 j i f;exact q2 _ (hr j v d q1 e)
section
variable {x y:Cx} {H:Aq} {id n ver:Nat} {t:Ty} {l:List t.D} (lat:x.Later y) (hid:H[id]? =some (.buf false t l n ver)) (hc:Conv x y (.sl id n t.sz 0 n) (.vs t.sz (l.map t.enc)))
include lat hid hc
theorem oY(e:v.ok H):To x y v.enc (Nr id ver t l v).enc/\Conv x y v.one (Nr id ver t l v).one:=by
 have same: ∀w:Bs,To x y w.enc w.enc/\Conv x y w.one w.one:=λw=>⟨.later lat _,λ_ r=>r.later lat⟩
 cases v with
 |own f b h g=>simp only[Nr];split;rename_i a;simp only[BO]at a;have c:=DR a.1;have d:=DR a.2;subst c d;obtain⟨_,q⟩:=e.2 _ _ _ _ _ hid;obtain⟨rfl,rfl⟩:=q rfl;exact⟨.one hc,hc⟩;grind
 |_=>exact same _
def qJ: ∀{a:List Bs},lok H a->To x y (lvs a) (lvs (a.map (Nr id ver t l)))
 |[],_=>.later lat _
 |z::r,h=>by rw[Bt,HW,HW];exact(oY lat hid hc (h z k!)).1.append (qJ λw b=>h w (by simp[b]))
mutual
theorem tk: ∀{v:TV},v.ok H->Conv x y v.enc (od id ver t l v).enc
 | .c z,h=>(oY lat hid hc (h z (by simp[TV.refs]))).2
 | .g cs,h=>(qJ lat hid hc h).agg
 | .tup vs,h=>To.tup (rH (vs:=vs) h)
 | .aptr ..,_=>λ_ r=>r.later lat
 | .bptr ..,_=>λ_ r=>r.later lat
 | .vptr ..,_=>λ_ r=>r.later lat
theorem rH: ∀{vs:List TV},(TV.tup vs).ok H->To x y (TV.encL vs) (TV.encL (gn id ver t l vs))
 |[],_=>.later lat _
 |v::r,h=>by simp only[TV.encL,gn];have a:v.ok H:=qb h k!;have b:(TV.tup r).ok H:=Rq λw c=>qb h (by simp[c]);exact(To.one (tk a)).append (rH b)
end
end
def tj{l:List t.D}(c:CD G b)(d:v.ok G):(Nr N n t l v).ok b:=by
 cases v with
 |own f e h g=>simp only[Nr];split;trivial;exact c.leaf d
 |_=>exact c.leaf d
def ABX{l:List t.D}(H:CD G b)(h:lok G d):lok b (d.map (Nr N n t l)):=λz f=>by obtain⟨w,e,rfl⟩:=Bl.1 f;exact tj H (h w e)
mutual
theorem yo{H d:Aq}{id b:Nat}{t:Ty}{l:List t.D}(a:CD H d): ∀{v:TV},v.ok H->(od id b t l v).ok d
 | .c z,h=>J2 (tj a (h z (by simp[TV.refs])))
 | .g cs,h=>ABX a h
 | .tup vs,h=>vp a h
 | .aptr ..,h=>a.lok h
 | .bptr ..,h=>a.lok h
 | .vptr ..,h=>a.lok h
theorem vp{H c:Aq}{id b:Nat}{t:Ty}{l:List t.D}(d:CD H c): ∀{e:List TV},(TV.tup e).ok H->(TV.tup (gn id b t l e)).ok c
 |[],_=>λz i=>by simp[gn,TV.refs,TV.refsL]at i
 |v::r,h=>by have f:v.ok H:=qb h k!;have g:(TV.tup r).ok H:=Rq λw a=>qb h (by simp[a]);refine Rq λw a=>?_;simp only[gn]at a;rcases A8.1 a with rfl|a;exact yo d f;exact qb (vp d g) a
end
theorem ADp{l:List t.D}(f:b[N]? =some (.buf false t l n U)):CD b ((b.map (Q6 N U t l)).set N .dead):=by
 have s:=Gx f;refine⟨k!,λj y x v h=>⟨by simpa using h.1,λro K E F u c=>?_⟩,λj e c hr=>?_,λj m h x l2 v y a=>?_,λj m _ _ _ _ _ _ _ _ a=>?_⟩;by_cases d:j=N;grind;rw[Dw (λe=>d e.symm),CE]at c;cases a:b[j]? with
 |none=>grind
 |some e=>
  rw[a]at c;simp only[Bn,Al]at c;cases e with
  |live H k=>cases H<;>simp[Q6]at c
  |dead=>cases c
  |lp=>cases c
  |mp=>cases c
  |buf H q o p r=>simp only[Q6]at c;exact h.2 _ _ _ _ _ (by rw[a,c])
 have d:j≠N:=by rintro rfl;rw[f]at c;injection c with c;subst c;cases hr
 rw[Dw (λe=>d e.symm),CE,c];cases e with
 |live H k=>cases H with|true=>rfl|false=>cases hr
 |dead=>cases hr
 |buf H q o p r=>rfl
 |lp=>rfl
 |mp=>rfl
 by_cases d:j=N;grind;rw[Dw (λe=>d e.symm),CE]at a;cases g:b[j]? with
 |none=>rw[g]at a;cases a
 |some e=>
  rw[g]at a;simp only[Bn,Al]at a;cases e with
  |live H k=>cases H<;>simp[Q6]at a
  |dead=>cases a
  |lp=>cases a
  |mp=>cases a
  |buf H q o p r=>grind[Q6]
 by_cases d:j=N;grind[List.getElem?_set_self];rw[Dw (λe=>d e.symm),CE]at a;cases g:b[j]? with
 |none=>rw[g]at a;cases a
 |some e=>
  rw[g]at a;simp only[Bn,Al]at a;cases e with
  |live H k=>cases H<;>simp[Q6]at a
  |dead=>cases a
  |buf H q o p r=>cases a
  |mp=>cases a
  |lp w z G C I A B J=>injection a with _ q2 q3 q4 q5 q6 q7 _;subst q2 q3 q4 q5 q6 q7;exact⟨_,_,rfl⟩
theorem AHN{id:Nat}{env env2:Bc}{H K:Aq}(ok:Qs env H)(h:frz id env H=some (env2,K)):Qs env2 K/\CD H K/\ ∀N,Fv N (BH H).length (B9 env) (BH H) (B9 env2) (BH K):=by
 unfold frz at h;split at h;rename_i t l n i d;simp only[Al,EK]at h;obtain⟨rfl,rfl⟩:=h;have G:=Gx d;have A:=ADp d;have hn:n=l.length:=ok.heap _ (BU d);refine⟨⟨λp M=>?_,λe R=>?_⟩,A,λN=>?_⟩;obtain⟨q,z,rfl⟩:=Bl.1 M;exact yo A (ok.env q z);rcases WJ R with R|rfl;obtain⟨k,S,rfl⟩:=Bl.1 R;have F:=ok.heap k S;cases k with
 |live b D=>
  cases b with
  |true=>exact A.lok F
  |false=>exact ABX A F
 |dead=>trivial
 |buf b Q P T U=>exact F
 |lp=>exact F
 |mp=>exact F
 trivial;have u:(BH H)[id]? =some (.live n (t.E.cl l)):=by rw[E6,d];rfl
 refine Wf (by simp[BH]) λX g w s=>?_;have C: ∀j,(BH ((H.map (Q6 id i t l)).set id .dead))[j]? =if j=id then some .dead else(H[j]?).map λe=>(Q6 id i t l e).enc:=by intro j;rw[E6];by_cases v:j=id;subst v;rw[if_pos rfl,HG (by simpa using G)];rfl;grind
 have back: ∀(j:Nat) (e:FU),(BH ((H.map (Q6 id i t l)).set id .dead))[j]? =some e->e≠ .dead->j≠id/\ ∃k,(BH H)[j]? =some k/\k≠ .dead:=by
  intro j e a f;rw[C]at a;split at a;injection a with a;exact(f a.symm).elim;rename_i v;refine⟨v,?_⟩;cases z:H[j]? with
  |none=>rw[z]at a;cases a
  |some k=>
   refine⟨k.enc,by rw[E6,z];rfl,λL=>f ?_⟩;rw[z]at a;simp only[Bn,Al]at a;cases k with
   |live b D=>simp[Dr.enc]at L
   |dead=>exact a.symm
   |buf b Q P T U=>simp[Dr.enc]at L
   |lp=>simp[Dr.enc]at L
   |mp=>simp[Dr.enc]at L
 have y:(cx X g (BH H) w).Later (cx X g (BH ((H.map (Q6 id i t l)).set id .dead)) w):=iU (by simp[BH]) λj e a f=>(back j e a f).2;have hO: ∀B,g.io id=some B-> ¬(cx X g (BH ((H.map (Q6 id i t l)).set id .dead)) w).O B:=by rintro B I (hX|⟨j,e,a,f,J⟩);exact(s.out B hX).2 ⟨id,_,u,k!,I⟩;obtain⟨v,k,Y,Z⟩:=back j e a f;exact v (s.inj j id _ _ B Y u Z k! J I)
 have o:Conv (cx X g (BH H) w) (cx X g (BH ((H.map (Q6 id i t l)).set id .dead)) w) (.sl id n t.sz 0 n) (.vs t.sz (l.map t.enc)):=λc r=>Bp.froze s u (AHV t.E l) (by rw[hn];exact B5 _) y rfl hO r;refine⟨⟨by simp[BH],λj e' a=>?_⟩,λtt v' m=>?_⟩;rw[C]at a;split at a;injection a with a;exact .inl a.symm;cases z:H[j]? with
 |none=>rw[z]at a;cases a
 |some k=>
  rw[z]at a;simp only[Bn,Al]at a;have x:(BH H)[j]? =some k.enc:=by rw[E6,z];rfl
  cases k with
  |live b D=>
   refine .inr (.inl ?_);cases b with
   |true=>simp only[Q6,Dr.enc]at a;exact⟨0,lvs D,lvs D,x,a.symm,rfl,(To.later y _).2⟩
   |false=>simp only[Q6,Dr.enc]at a;obtain⟨V,W⟩:=qJ y d o (ok.heap _ (BU z));exact⟨0,lvs D,_,x,a.symm,V,W⟩
  |dead=>exact .inl a.symm
  |buf b Q P T U=>simp only[Q6,Dr.enc]at a;exact .inr (.inl ⟨T,Q.E.cl P,Q.E.cl P,x,a.symm,rfl,(To.later y _).2⟩)
  |lp=>subst a;exact .inr (.inr ⟨x,λ_ _ h=>by cases h⟩)
  |mp=>subst a;exact .inr (.inr ⟨x,λ_ _ h=>by cases h⟩)
 simp only[B9,Qu,Bl]at m;obtain⟨p,M,e⟩:=m;simp only[Function.comp,EK]at e;obtain⟨rfl,rfl⟩:=e;exact⟨p.2.enc,Bl.2 ⟨p,M,rfl⟩,tk y d o (ok.env p M)⟩;cases h
@[reducible] def DL:List Ty->Type
 |[]=>Unit
 |[t]=>t.D
 |t::u::r=>t.D×DL (u::r)
def inp:(ts:List Ty)->List TV->Option (DL ts)
 |[],[]=>some ()
 |[t],[v]=>t.data v
 |t::u::r,v::vs=>
  match t.data v,inp (u::r) vs with
  |some x,some y=>some (x,y)
  |_,_=>none
 |_,_=>none
def xv:(ts:List Ty)->DL ts->List TV
 |[],_=>[]
 |[t],x=>[t.tv x]
 |t::u::r,x=>t.tv x.1::xv (u::r) x.2
def nC:(ts:List Ty)->DL ts->List AY
 |[],_=>[]
 |[t],x=>[t.enc x]
 |t::u::r,x=>t.enc x.1::nC (u::r) x.2
def one:List TV->TV
 |[v]=>v
 |vs=>.tup vs
def qd:List AY->AY
 |[v]=>v
 |vs=>.tup vs
def K8(bt:Ty):(rs:List Ty)->DL (rs++[bt])->DL rs×bt.D
 |[],y=>((),y)
 |[_],y=>(y.1,y.2)
 |_::u::r,y=>((y.1,(K8 bt (u::r) y.2).1),(K8 bt (u::r) y.2).2)
inductive RW where
 |c2 (f:FuncId) (te:Ty) (ds rs:List Ty) (post:List AY) (g:List te.D->DL ds->Option (DL (rs++[.list te])))
 |cl (f:FuncId) (t:Ty)
 |c0 (f:FuncId) (ds rs:List Ty) (g:DL ds->Option (DL rs))
 |c1 (f:FuncId) (pos:Nat) (bt:Ty) (ds rs:List Ty) (g:bt.D->DL ds->Option (DL (rs++[bt])))
def RW.f:RW->FuncId
 | .c0 f .. =>f
 | .c1 f .. =>f
 | .c2 f .. =>f
 | .cl f _=>f
def fnB:AY->AY->Bool
 | .fn (.func F) [] [],.fn (.func G) [] []=>Nat.beq F G
 |_,_=>false
def AHL{w:AY}(h:fnB u w=true):u=w:=by unfold fnB at h;split at h<;>simp_all
def wK:List TV->List AY->Bool
 |[],[]=>true
 | .c (.raw v)::r,w::s=>fnB v w&&wK r s
 |_,_=>false
def zP: ∀{l:List TV} {p:List AY},wK l p=true->l.map TV.enc=p
 |[],[],_=>rfl
 |[],_::_,h=>by simp[wK]at h
 |v::r,[],h=>by cases v<;>simp[wK]at h
 |v::r,w::s,h=>by unfold wK at h;split at h;rename_i e;cases e;rename_i c d;injection c with a1 a2;injection d with a b;subst a1 a2 a b;simp only[BO]at h;rw[Bt,zP h.2];exact congrArg (· ::_) (AHL h.1);cases h
def WD:Nat->AY->List AY->List AY
 |0,v,l=>v::l
 |n+1,v,x::l=>x::WD n v l
 |_+1,v,[]=>[v]
def RW.Ok(P:Program):RW->Prop
 | .c2 f te ds rs post g=> ∀l x y,g l x=some y->(K8 (.list te) rs y).2.length=l.length-> ∀H id,H[id]? =some (.live l.length (te.E.cl l))->
  EM P f (.sl id l.length te.sz 0 l.length::(nC ds x++post)) H (C6 (qd (nC rs (K8 (.list te) rs y).1)) (H.set id (.live l.length (te.E.cl (K8 (.list te) rs y).2))))
 | .cl f t=> ∀(l:List t.D) (H:Aq),(∀e∈H,e.ok H)->(l=[]->EM P f [.vs t.sz []] (BH H) (C6 (.vs t.sz []) (BH (H++[.dead]))))/\
  ∀r,l≠ []->app [] l=some r->EM P f [.vs t.sz (l.map t.enc)] (BH H) (C6 (.sl H.length r.length t.sz 0 r.length) (BH (H++[.buf false t r r.length 0])))
 | .c0 f ds rs g=> ∀x y,g x=some y-> ∀H,EM P f (nC ds x) H (C6 (qd (nC rs y)) H)
 | .c1 f pos bt ds rs g=> ∀b x y,g b x=some y-> ∀H id,H[id]? =some (.live 0 (bt.enc b).cells)->EM P f (WD pos (.ptr id 0 0) (nC ds x)) H (C6 (qd (nC rs (K8 bt rs y).1)) (H.set id (.live 0 (bt.enc (K8 bt rs y).2).cells)))
section
variable {R:Type}
def ABK(c:RW)(vs:List TV)(H:Aq)(k:TV->Aq->Option R):Option R:=
 match c with
 | .c0 _ ds rs g=>match inp ds vs with|some x=>(g x).bind λy=>k (one (xv rs y)) H|none=>none
 | .c1 _ pos bt ds rs g=>
  match vs[pos]? with
  |some (.c (.raw (.ptr id 0 0)))=>
   match H[id]? with
   |some (.live false cs)=>
    match bt.all cs,inp ds (vs.take pos++vs.drop (pos+1))with
    |some b,some x=>(g b x).bind λy=>k (one (xv rs (K8 bt rs y).1)) (H.set id (.live false (bt.lvs (K8 bt rs y).2)))
    |_,_=>none
   |_=>none
  |_=>none
 | .c2 _ te ds rs post g=>
  match vs with
  | .c (.own id ver _ _)::r=>
   match H[id]? with
   |some (.buf false t l n' ver')=>
    match Nat.beq ver ver' with
    |true=>
     if h:(Ty.list t).beq (Ty.list te)=true then
      match inp ds (r.take ds.length),wK (r.drop ds.length) post with
      |some x,true=>(g (Ty.cast h l) x).bind λy=>
       cond (Nat.beq (K8 (.list te) rs y).2.length n') (k (one (xv rs (K8 (.list te) rs y).1)) (H.set id (.buf false te (K8 (.list te) rs y).2 n' ver'))) none
      |_,_=>none
     else none
    |false=>none
   |_=>none
  |_=>none
 | .cl _ t=>
  match vs with
  |[.c (.ls te l)]=>
   if h:(Ty.list te).beq (Ty.list t)=true then
    cond (decide (((l.length:Nat):Int)=0)) (k (.c (.ls t [])) (H++[.dead])) ((app (α:=t.D) [] (Ty.cast h l)).bind λr=>k (.c (.own H.length 0 t r.length)) (H++[.buf false t r r.length 0]))
   else none
  |[.c .nil]=>k (.c (.ls t [])) (H++[.dead])
  |_=>none
def aI: ∀(a:List Ty) (x:DL a),(xv a x).map TV.enc=nC a x
 |[],_=>rfl
 |[t],x=>by simp only[xv,nC,Bt,Hg,t.tv_enc]
 |t::u::r,x=>by simp only[xv,nC,Bt,t.tv_enc,aI (u::r)]
theorem nZ{H:Aq}: ∀(b:List Ty) (x:DL b),∀v∈xv b x,v.ok H
 |[],_,v,a=>by simp[xv]at a
 |[t],x,v,a=>by simp only[xv,BI]at a;subst a;exact t.tv_ok x
 |t::u::r,x,v,a=>by simp only[xv,A8]at a;rcases a with rfl|a;exact t.tv_ok _;exact nZ (u::r) x.2 v a
def sN(a:List TV):(one a).enc=qd (a.map TV.enc):=by
 match a with
 |[]=>rfl
 |[v]=>rfl
 |v::w::r=>simp only[one,qd,TV.enc,tT,Bt]
def xU(h: ∀v∈m,v.ok b):(one m).ok b:=by
 match m,h with
 |[],h=>exact Rq h
 |[v],h=>exact h v k!
 |v::w::r,h=>exact Rq h
def ZG: ∀{a:List Ty} {b:List TV} {x:DL a},inp a b=some x->DW (b.map TV.enc) (nC a x)
 |[],[],x,h=>DW.refl _
 |[t],[v],x,h=>DW.one (MN h)
 |t::u::r,v::b,x,h=>by simp only[inp]at h;split at h;rename_i y z c d;injection h with h;subst h;exact(DW.one (MN c)).append (ZG d);cases h
 |[],_::_,x,h=>by simp[inp]at h
 |[t],[],x,h=>by simp[inp]at h
 |[t],_::_::_,x,h=>by simp[inp]at h
 |_::_::_,[],x,h=>by simp[inp]at h
theorem uB: ∀{n:Nat} {a:List AY} {v:AY} {b:List AY},a[n]? =some v->DW (a.take n++a.drop (n+1)) b->DW a (WD n v b)
 |0,u::a,v,b,h,hl=>by simp at h;subst h;exact(DW.one (Xm.refl u)).append hl
 |n+1,u::a,v,b,h,hl=>by
  cases b with
  |nil=>have:=hl.1;simp at this
  |cons d b=>
   have c:Xm u d:=by obtain⟨w,q1,q2⟩:=hl.2 0 d rfl;grind
   have e:DW (a.take n++a.drop (n+1)) b:=⟨by have:=hl.1;simpa using this,λi g f=>hl.2 (i+1) g f⟩
   exact(DW.one c).append (uB h e)
def AFN(c:RW)(vs:List TV):List Nat:=
 match c with
 | .c0 .. =>[]
 | .c1 _ pos .. =>match vs[pos]? with|some v=>idT v|none=>[]
 | .c2 .. =>match vs[0]? with|some v=>idT v|none=>[]
 | .cl .. =>[]
def AJJ(c:RW)(vs:List TV):List TV:=
 match c with
 | .c2 .. =>vs.drop 1
 |_=>vs
def yT{c:RW}(hc:c.Ok P){k:TV→Aq→Option R}{r:R}(hv: ∀v∈m,v.ok b)(K: ∀e∈b,e.ok b)(h:ABK c m b k=some r):
  ∃v O,EM P c.f (m.map TV.enc) (BH b) (C6 v.enc (BH O))/\k v O=some r/\v.ok O/\(∀e∈O,e.ok O)/\CD b O/\Frame (AFN c m) b O:=by
 unfold ABK at h;split at h;rename_i f S A g;split at h;rename_i x hx;obtain⟨y,hy,h⟩:=Db.1 h;refine⟨_,b,?_,h,xU (nZ A y),K,CD.refl b,Frame.refl _ _⟩;rw[sN,aI];have hl:=ZG hx;refine EM.before (args2:=nC S x) (H2:=BH b) hl.1 (λX g0 w s=>⟨⟨rfl,λj e' p=>?_⟩,λj Z p=>?_⟩) (hc x y hy _);cases e' with
 |dead=>exact .inl rfl
 |live g1 L=>exact .inr (.inl ⟨g1,L,L,p,rfl,rfl,λi v hi=>⟨v,hi,λ_ r=>r⟩⟩)
 |_=>exact .inr (.inr ⟨p,k!⟩)
 obtain⟨v,q1,q2⟩:=hl.2 j Z p;exact⟨v,q1,λd W=>q2 _ _ W⟩;cases h;rename_i f pos J S A g;split at h;rename_i id hp;split at h;rename_i cs o;split at h;rename_i D x hb hx;obtain⟨y,hy,h⟩:=Db.1 h;have G:CD b (b.set id (.live false (J.lvs (K8 J A y).2))):=CD.set o rfl λ_ _ _ _ _ h=>by cases h
 refine⟨_,_,?_,h,xU (nZ A _),Vg G K (J.lvs_ok _),G,Frame.set (by simp only[AFN,hp];exact BI.2 rfl)⟩;rw[sN,aI,N7];have C:id<(BH b).length:=by rw[CR];exact Gx o
 have hl:=ZG hx;have ao:=Fa hb;have a:DW (m.map TV.enc) (WD pos (.ptr id 0 0) (nC S x)):=by refine uB ?_ (by rw[<-List.map_take,<-mq,<-M5];exact hl);rw[CE,hp];rfl
 have H:=hc D x y hy ((BH b).set id (.live 0 (J.enc D).cells)) id (by rw[HG C]);rw[Ya]at H;have e1:(Dr.live false (J.lvs (K8 J A y).2)).enc= .live 0 (J.enc (K8 J A y).2).cells:=by simp only[Dr.enc,J.lvs_enc]
 rw[e1];refine EM.before a.1 (λX g0 w s=>?_) H;have ad:BH b=(BH b).set id (.live 0 (lvs cs)):=by
  have:(BH b)[id]? =some (.live 0 (lvs cs)):=by rw[E6,o];rfl
  apply I2;intro j;by_cases F:j=id;subst F;rw[HG C,this];rw[Dw (λe=>F e.symm)]
 have al:(cx X g0 (BH b) w).Later (cx X g0 ((BH b).set id (.live 0 (J.enc D).cells)) w):=by refine iU k! λj e p ap=>?_;by_cases F:j=id;subst F;exact⟨.live 0 (lvs cs),by rw[E6,o];rfl,k!⟩;rw[Dw (λe=>F e.symm)]at p;exact⟨e,p,ap⟩
 refine⟨Ul.set_less C ad rfl ao al,λj Z p=>?_⟩;obtain⟨v,q1,q2⟩:=a.2 j Z p;exact⟨v,q1,λd W=>q2 _ _ (W.later al)⟩;cases h;cases h;cases h;rename_i f Y S A N g;split at h;rename_i id B t0 n0 r0;split at h;rename_i t l V ar o;split at h;rename_i hb;have ag:=DR hb;subst ag;split at h;rename_i I;have n:=Ty.beq_eq _ _ I;injection n with n;subst n;split at h;rename_i x hx hp;obtain⟨y,hy,h⟩:=Db.1 h;have z:(Ty.cast I l:List t.D)=l:=rfl;rw[z]at hy;have hn:V=l.length:=K _ (BU o);have hr:WE b id B t0 n0:=hv _ Iy (.own id B t0 n0) (by simp[TV.refs]);obtain⟨_,q⟩:=hr.2 _ _ _ _ _ o;obtain⟨rfl,rfl⟩:=q rfl;cases T:Nat.beq (K8 (.list t) A y).2.length V with
 |false=>rw[T]at h;cases h
 |true=>
  rw[T]at h;have M:(K8 (.list t) A y).2.length=V:=DR T;have G:CD b (b.set id (.buf false t (K8 (.list t) A y).2 V B)):=CD.set o rfl λ_ _ _ _ _ e=>by cases e;exact⟨_,_,_,_,rfl,.inr ⟨rfl,rfl⟩⟩
  refine⟨_,_,?_,h,xU (nZ A _),Vg G K M.symm,G,Frame.set (by simp[AFN,idT])⟩;rw[sN,aI,N7];have hl:=ZG hx;have U:=zP hp;have a:DW ((TV.c (.own id B t V)::r0).map TV.enc) (.sl id l.length t.sz 0 l.length::(nC S x++N)):=by
   rw[Bt,<-Da S.length r0,M5,U];have e1:(TV.c (.own id B t V)).enc= .sl id l.length t.sz 0 l.length:=by rw[<-hn];rfl
   rw[e1];rw[<-ss];rw[<-ss (l:=nC S x++N)];exact(DW.refl _).append (hl.append (DW.refl _))
  have H:=hc l x y hy (by rw[M,hn]) (BH b) id (by rw[E6,o,<-hn];rfl);have e2:(Dr.buf false t (K8 (.list t) A y).2 V B).enc= .live l.length (t.E.cl (K8 (.list t) A y).2):=by rw[<-hn];rfl
  rw[e2];refine EM.before a.1 (λX g0 w s=>⟨⟨rfl,λj e' p=>?_⟩,λj Z p=>?_⟩) H;cases e' with
  |dead=>exact .inl rfl
  |live g1 L=>exact .inr (.inl ⟨g1,L,L,p,rfl,rfl,λi v hi=>⟨v,hi,λ_ r=>r⟩⟩)
  |_=>exact .inr (.inr ⟨p,k!⟩)
  obtain⟨v,q1,q2⟩:=a.2 j Z p;exact⟨v,q1,λd W=>q2 _ _ W⟩
 cases h;cases h;cases h;cases h;cases h;rename_i f t;have same: ∀{args u:List AY} {Q:AY->Az->Prop},DW args u->EM P f u (BH b) Q->EM P f args (BH b) Q:=λa H=>by
  refine EM.before a.1 (λX g0 w s=>⟨⟨rfl,λj e' p=>?_⟩,λj Z p=>?_⟩) H;cases e' with
  |dead=>exact .inl rfl
  |live g1 L=>exact .inr (.inl ⟨g1,L,L,p,rfl,rfl,λi v hi=>⟨v,hi,λ_ r=>r⟩⟩)
  |_=>exact .inr (.inr ⟨p,k!⟩)
  obtain⟨v,q1,q2⟩:=a.2 j Z p;exact⟨v,q1,λd W=>q2 _ _ W⟩
 split at h;rename_i Y l;split at h;rename_i I;have n:=Ty.beq_eq _ _ I;injection n with n;subst n;have z:(Ty.cast I l:List Y.D)=l:=rfl;rw[z]at h;cases hz:decide (((l.length:Nat):Int)=0)with
 |true=>
  rw[hz]at h;have h0:l=[]:=by
   have:((l.length:Nat):Int)=0:=by simpa using hz
   exact EL o!
  subst h0;refine⟨TV.c (Bs.ls Y []),b++[Dr.dead],?_,h,J2 trivial,Pz K trivial,CD.push _ _,Frame.push _ _ _⟩;exact(hc [] b K).1 rfl
 |false=>
  rw[hz]at h;have h0:l≠ []:=by rintro rfl;simp at hz
  obtain⟨r,hr,h⟩:=Db.1 h;have e:Dr.ok (b++[.buf false Y r r.length 0]) (.buf false Y r r.length 0):=rfl;have q:=(hc l b K).2 r h0 hr;refine⟨TV.c (Bs.own b.length 0 Y r.length),b++[Dr.buf false Y r r.length 0],?_,h,uV,Pz K e,CD.push _ _,Frame.push _ _ _⟩;exact q
 cases h;refine⟨TV.c (Bs.ls t []),b++[Dr.dead],?_,h,J2 trivial,Pz K trivial,CD.push _ _,Frame.push _ _ _⟩;exact same (DW.one (Xm.nil t.sz_pos)) ((hc [] b K).1 rfl);cases h
end
section
variable {P:Program} {N:Nat} {o:Oper} {env:Env} {H:Az} {K:AY->Az->Prop}
def tf{sz:Nat}{rows:List AY}(n:o.op= .binOp .eql a c (.const (.slice none 0 0)) I)(E:P.underlying a=some (.slice W))(F:BJ env c= .vs sz rows)
  (C: ∀b,(rows≠ []->b=false)->K (.bool b) H):JM P N o env H K:=by
 apply Cv (by rw[n];rfl);intro X h e w s Q;have l:=DU s.env c;rw[F]at l;generalize i:e.eval c=cx0 at l;cases l with
 | @vs sz rows t cap f m D p z J=>
  have k:=run_underlying E w;have g:(execOp e.eval o).run P w= .ok (.value (.bool t.isNone)) w:=by
   unfold execOp;rw[n];have r:e.eval (.const (.slice none 0 0))= .slice none 0 0:=rfl;have u:(eqGuard .eql a c (.const (.slice none 0 0)) (.slice t rows.length cap) (.slice none 0 0)).run P w= .ok () w:=by unfold eqGuard;simp
   have v:(Op.equal a (.slice t rows.length cap) (.slice none 0 0)).run P w= .ok t.isNone w:=by
    have y: ∃d,Op.maxDepth=d+1:=⟨9999,rfl⟩
    obtain⟨d,A⟩:=y;unfold Op.equal;rw[A];cases t<;>simp[Op.equalIn,k]
   simp only[i,r,Sem.run_bind,u,Result.andThen_ok,binOp,v,Sem.run_pure]
  unfold Oper.wp;rw[g,Oper.upon_value];refine⟨_,_,h,H,rfl,C t.isNone (λj=>?_),.bool _,s.sim,Ha.refl _ _ _⟩;obtain⟨B,G,q,_⟩:=z j;rw[q];rfl
def JM.clear{t e:TypeId}{x:Operand}{id g l n sz:Nat}(ho:o.op= .call {callee:=.builtin .clear,args:= #[x],argTypes:= #[t]})(hd:o.dst=none)(he:eI P t=some (none,e,sz))(bz:SX P e=true)(hz:ZN P e=some Q)(W:Q.length=sz)
  (hx:BJ env x= .sl id g sz l n) (E:H[id]? =some (FU.live g i)) (a3:l+n*sz<=i.length) (hk:K (.tup []) (H.set id (.live g (W7 i l (List.replicate n Q).flatten)))):JM P N o env H K:=by
 apply Cv (by rw[ho];rfl);intro X h a w s z;obtain⟨bN,b,hi⟩:=Q5 he;obtain⟨M,zv,v,b2,a9,b0⟩:=Uk bz;have a1:=mF hi v;obtain⟨i',y,ax,a7,a5⟩:=eZ (cx X h H w) hz;have:i'=M:=by rw[v]at ax;exact(Ba ax).symm
 subst this;have:y=zv:=by rw[a9]at a7;exact(Ba a7).symm
 subst this;have A:y.cells.size=sz:=by rw[b0,a1]
 have rx:=DU s.env x;rw[hx]at rx;have R:=run_underlying bN w;have S:(List.replicate n Q).flatten.length=n*sz:=by simp[W]
 obtain⟨ap,al⟩:=s.sim.live id g i E;have bG: ∃ad cap,a.eval x= .slice ad n cap/\(n≠0-> ∃B,h.io id=some B/\ad=some ⟨B,l,none⟩):=by
  generalize a.eval x=c at rx;cases rx with
  |sl h1 h2 h3 hc=>rcases hc ap with⟨_,q2,_,q4⟩|⟨B,cap,q1,_,_,q4⟩;exact⟨none,0,by rw[q4,q2],λbt=>(bt q2).elim⟩;exact⟨_,cap,q4,λ_=>⟨B,q1,rfl⟩⟩
 obtain⟨ad,cap,Z,a'⟩:=bG;have a0:id<H.length:=by rcases Au id H.length with h2|h2;exact h2;rw[Cc h2]at E;cases E
 by_cases hn:n=0;subst hn;have F:(execOp a.eval o).run P w= .ok (.value (.tuple #[])) w:=by unfold execOp;rw[ho];simp only[resolve,invoke,builtin,Sem.run_bind,Sem.run_pure,Result.andThen_ok,Qv,Bt,Hg,Z,Builtin.clear_];simp[R];cases ad<;>simp
 unfold Oper.wp;rw[F,Oper.upon_value];have e1:H.set id (.live g (W7 i l (List.replicate 0 Q).flatten))=H:=by
  have:W7 i l (List.replicate 0 Q).flatten=i:=by simp[W7]
  rw[this];apply I2;intro j;by_cases a2:j=id;subst a2;rw[HG a0,E];rw[Dw λe=>a2 e.symm]
 rw[e1]at hk;exact⟨_,_,h,H,rfl,hk,.tup rfl λ_ _ _ h=>by (cases h),s.sim,Ha.refl _ _ _⟩;obtain⟨B,J,rfl⟩:=a' hn;rcases al with⟨a4,_⟩|⟨B',Y,T,fz,f,O,hb,ag,b1,ao,I⟩;rw[show(cx X h H w).io id=h.io id from rfl,J]at a4;cases a4;rw[show(cx X h H w).io id=h.io id from rfl,J]at O;injection O with e0;subst e0;have V:(Builtin.zeroCells y.cells n).size=n*sz:=by rw[ZO,A]
 have G: ∀j,j<n*sz-> ∃d u,(Builtin.zeroCells y.cells n)[j]? =some d/\(List.replicate n Q).flatten[j]? =some u/\d.oneCell'=true/\Bp (cx X h H w) u d:=by
  intro j r;have a6:0<sz:=by rcases WL sz with q|q;subst q;simp at r;exact q
  have hm:j%sz<y.cells.size:=by rw[A];exact Yd _ a6
  have D:y.cells[j%sz]? =some (y.cells[j%sz]'hm):=N2 hm;have ar: ∀(m j:Nat),j<m*sz->(List.replicate m Q).flatten[j]? =Q[j%sz]? :=by
   intro m;induction m with
   |zero=>intro j r;omega
   |succ m ih=>intro j r;rw[ms,pe];rcases Au j sz with bl|bb;rw[CL o!,WM bl];rw[Cb o!,W,ih (j-sz) (by rw[FG]at r;omega),<-Nat.mod_eq_sub_mod bb]
  have a8:Q[j%sz]? =some (Q[j%sz]'(by rw[W];exact Yd _ a6)):=A4 _;have U:(Builtin.zeroCells y.cells n)[j]? =some (y.cells[j%sz]'hm):=by
   unfold Builtin.zeroCells;rw[cH,Array.getElem?_range,if_pos (by rw[A];exact r)];have bm:j%y.cells.size<y.cells.size:=by rw[A];rw[A]at hm;exact hm
   rw[Bn,getElem!_pos y.cells _ bm];simp only[A]
  cases a5 with
  |agg q1 q2 q3=>exact⟨_,_,U,by rw[ar n j r,a8],q2 _ _ D,q3 _ _ _ a8 D⟩
 obtain⟨w',L,p1,p2,p3,p4,p5,p6,p7,p8,p9⟩:=Vj (P:=P) (off:=l) (Builtin.zeroCells y.cells n).toList 0 Y w hb (by simp[V];omega) ao (λd hd=>by
  obtain⟨j,r⟩:=Di hd;have bd:j<n*sz:=by rw[<-V];have:=(Kf.1 r).1;simpa using this
  obtain⟨d',u,q1,_,q3,_⟩:=G j bd;rw[P0]at r;rw[r]at q1;injection q1 with q1;rw[q1];exact q3)
 have F:(execOp a.eval o).run P w= .ok (.value (.tuple #[])) w':=by
  unfold execOp;rw[ho];simp only[resolve,invoke,builtin,Sem.run_bind,Sem.run_pure,Result.andThen_ok,Qv,Bt,Hg,Z,Builtin.clear_];have b3: ∀(α:Type) (p q:α),(match n with|0=>p|_+1=>q)=q:=by
   intro α p q;cases n with
   |zero=>exact(hn rfl).elim
   |succ m=>rfl
  obtain⟨m,rfl⟩: ∃m,n=m+1:=⟨n-1,o!⟩
  simp[R,zeroValue,typeInfo,v,a9];rw[p1];rfl
 have hh:Holds (cx X h H w) (W7 i l (List.replicate n Q).flatten) L fz:=by
  refine⟨λj=>if l<=j/\j<l+n*sz then(Builtin.zeroCells y.cells n).getD (j-l) undef else f j,by rw[lE (by rw[S];exact a3)];omega,by rw[p3];exact ao,λj u r=>?_⟩;rw[uk (by rw[S];exact a3),S]at r;rw[p4];simp only[Qy,Dh,V,P0];split at r;rename_i C;rw[if_pos C,if_pos C];obtain⟨d,u',q1,q2,q3,q4⟩:=G (j-l) o!;rw[q2]at r;injection r with r;subst r;have e:(Builtin.zeroCells y.cells n).getD (j-l) undef=d:=by rw[Q2,q1];rfl
  rw[e];exact⟨q1,q3,q4⟩;rename_i C;rw[if_neg C,if_neg C];exact I j u r
 obtain⟨q1,q2⟩:=s.sim.upd (g':=g) (B:=B) (arr:=L) (T:=T) (fz:=fz) (w':=w') E (Am _) (λ_=>⟨J,by rw[p3];exact ag.symm⟩) (.inl J) p2 (λk _ hk=>p5 k hk) p6 p7 p8 (by rw[p9];exact Am _) hh;unfold Oper.wp;rw[F,Oper.upon_value];exact⟨_,_,_,_,rfl,hk,.tup rfl λ_ _ _ h=>by (cases h),q1,q2⟩
def sA(k:o.op= .call {callee:=.builtin .clear,args:= #[c],argTypes:= #[a]})(m:P.underlying a=some (.slice I))
  (e:BJ env c= .vs n []) (l:K (.tup []) H):JM P N o env H K:=by
 apply Cv (by rw[k];rfl);intro X h x w s Q;have j:=DU s.env c;rw[e]at j;have d:=run_underlying m w;have i: ∃f cap,x.eval c= .slice f 0 cap:=by
  generalize x.eval c=t at j;cases j with
  |vs=>exact⟨_,_,rfl⟩
 obtain⟨f,cap,g⟩:=i;have b:(execOp x.eval o).run P w= .ok (.value (.tuple #[])) w:=by unfold execOp;rw[k];simp only[resolve,invoke,builtin,Sem.run_bind,Sem.run_pure,Result.andThen_ok,Qv,Bt,Hg,g,Builtin.clear_];simp[d];cases f<;>simp
 unfold Oper.wp;rw[b,Oper.upon_value];exact⟨_,_,h,H,rfl,l,.tup rfl λ_ _ _ h=>by (cases h),s.sim,Ha.refl _ _ _⟩
end
def XC(P:Program)(N:Nat)(ops:Array Oper):List Oper->Env->Az->(Env->Az->Prop)->Prop
 |[],env,H,Q=> ∃env1 H1,Fv N H.length env H env1 H1/\Q env1 H1
 |o::rest,env,H,Q=> ∃env1 H1,Fv N H.length env H env1 H1/\
  YW ops o.guard env1 (JM P N o env1 H1 λv H'=>XC P N ops rest (env1.putO o.dst v) H' Q) (XC P N ops rest (env1.putO o.dst (.tup [])) H1 Q)
def XC.weak{N:Nat}{Q:Env->Az->Prop}{env1:Env}{H e:Az}(w:Fv N H.length s H env1 e): ∀{os:List Oper},XC P N j os env1 e Q->XC P N j os s H Q
 |[],h=>by obtain⟨c,b,d,q⟩:=h;exact⟨c,b,w.trans (d.of_le w.1),q⟩
 |o::os,h=>by obtain⟨c,b,d,q⟩:=h;exact⟨c,b,w.trans (d.of_le w.1),q⟩
theorem th{r:Option Nat}{C:Exit→Act→World→Prop}{Q:Env→Az→Prop}:
  ∀(l:List Nat) (os:List Oper),l.map (j[·]?)=os.map some-> ∀(env:Env) (H:Az) (h:Gh) (a:Act) (w:World),PH N os=true->XC P N j os env H Q->St B h N env H a w->(∀f n y u q,Q f n->St B y N f n u q->Ha h H w y n q->u.defers=a.defers->C .normal u q)->wpOpsIn (FR r) 0 P j C l a w:=by
 intro l;induction l with
 |nil=>
  intro os d env H h a w _ hr s z;have:os=[]:=t!
  subst this;obtain⟨env1,A,b,hr⟩:=hr;obtain⟨x,e,E,d⟩:=b.2 B h a w s;exact z env1 A x a w hr e (Fv.ext rfl b.1 E d (Ha.refl h H w)) rfl
 |cons i l L=>
  intro os d env H h a w T hr s z;match os,d with
  |o::os,d=>
   simp at d;obtain⟨O,m⟩:=d;simp only[wpOpsIn,O];have g: ∀t,o.dst=some t->t<a.tmps.size:=by intro t Y;simp only[PH]at T;rw[s.size];grind
   have p:PH N os=true:=by simp_all[PH]
   obtain⟨env1,A,b,hr⟩:=hr;obtain⟨x,e,E,d⟩:=b.2 B h a w s;have M:=Fv.ext rfl b.1 E d (Ha.refl h H w);rcases yu e.env hr with⟨J,R⟩|⟨J,S⟩;rw[if_pos J];refine Oper.wpIn_mono ?_ (R r B x a w e C);rintro u q ⟨c,v,y,n,rfl,k,W,V,K⟩;have U:=K.later B;apply L os m _ n y _ q p k ⟨V,Oz.putO (e.env.later U) g W,(eU _ _ _).trans e.size⟩;intro env2 X m a2 G q2 F I D;exact z env2 X m a2 G q2 F (M.trans (K.trans I)) (D.trans (by cases o.dst<;>rfl));rw[if_neg q!];refine⟨λ_ _=>trivial,L os m _ A x _ w p S ⟨e.sim,Oz.putO e.env g (.tup rfl λ_ _ _ h=>by cases h),(eU _ _ _).trans e.size⟩ ?_⟩;intro env2 X m a2 G q2 F I D;exact z env2 X m a2 G q2 F (M.trans I) (D.trans (by cases o.dst<;>rfl))
theorem FZ{N:Nat}{H:Az}{Q:Exit->Env->Az->Prop}{id:Nat}{b:Array Oper}(i:PH N b.toList=true)(h:XC P N b b.toList s H (Q .normal)):M2 P N (.region id b false) s H Q:=by intro r X g a w n _;refine wpIn_region (th (List.range b.size) b.toList ?_ s H g a w i h n ?_);apply I2;grind;intro c d f l m q j k e;exact⟨f,c,d,q,j,k,.same e⟩
open Go.MapKept (IsKey)
def QL{α:Type}(n:Int)(v:α):List (Int×α)->List (Int×α)
 |[]=>[(n,v)]
 |p::r=>bif p.1==n then(n,v)::r else p::QL n v r
def K5{α:Type}(n:Int):List (Int×α)->Option α
 |[]=>none
 |p::r=>bif p.1==n then some p.2 else K5 n r
def zH{a c:Type}(f:a->c)(n:Int)(v:a): ∀b:List (Int×a),(QL n v b).map (λp=>(p.1,f p.2))=QL n (f v) (b.map λp=>(p.1,f p.2))
 |[]=>rfl
 |p::r=>by simp only[QL,Bt];cases p.1==n<;>simp[zH f n v r]
def uT{b c:Type}(f:b->c)(n:Int): ∀a:List (Int×b),K5 n (a.map λp=>(p.1,f p.2))=(K5 n a).map f
 |[]=>rfl
 |p::r=>by simp only[K5,Bt];cases p.1==n<;>simp[uT f n r]
section
variable {X:Nat->Prop} {h:Gh} {H:Az} {w:World}
def JN.of_extM{a:Gh}{d:World}(s:JN X h H w)(k:Ha h H w a p d)
  (key: ∀(id:Nat) (e:FU),p[id]? =some e->e≠ .dead->(H[id]? =some e/\a.gen id=h.gen id/\a.io id=h.io id/\a.cap id=h.cap id/\ ∀B,h.io id=some B->d.heap[B]? =w.heap[B]?)\/(e.isB=true/\BAt a d id e))
  (inj: ∀(id b:Nat) (e g:FU) (B:Nat),p[id]? =some e->p[b]? =some g->e≠ .dead->g≠ .dead->a.io id=some B->a.io b=some B->id=b):JN X a p d:=
 s.of_ext' k (λi e j f=>(key i e j f).imp id λh=>.inr (.inr h)) inj
theorem JN.push_m(s:JN X h H w)(o:Obj)(cap:Nat)(E:FU)(u:E.isB=true)
  (t:BAt (h.at_ H.length (some w.heap.size) 0 cap) {w with heap:=w.heap.push o} H.length E):
  JN X (h.at_ H.length (some w.heap.size) 0 cap) (H++[E]) {w with heap:=w.heap.push o}:=by
 refine s.of_extM (Ha.push o cap E) (λid e d g=>?_) λid q e r B m n b c k l=>?_;rcases Iv d with⟨a,d⟩|⟨rfl,rfl⟩;refine .inl ⟨d,by simp[Gh.at_,BZ a],by simp[Gh.at_,BZ a],by simp[Gh.at_,BZ a],λB f=>?_⟩;have:=s.io_at d g f;grind;grind;rcases Iv m with⟨l1,i⟩|⟨rfl,_⟩<;>rcases Iv n with⟨l2,j⟩|⟨rfl,_⟩;exact s.inj _ _ _ _ B i j b c (by simpa[Gh.at_,BZ l1]using k) (by simpa[Gh.at_,BZ l2]using l);have p:=s.io_at i b (by simpa[Gh.at_,BZ l1]using k);grind[Gh.at_];have p:=s.io_at j c (by simpa[Gh.at_,BZ l2]using l);grind[Gh.at_];rfl
def JN.setM(s:JN X h H w){E E':FU}{o o':Obj}{w':World}(g:H[N]? =some E)(J:E.isB=true)(v:E'.isB=true)(m:h.io N=some n)(K:w.heap[n]? =some o)(A: ∀r,o≠ .loop r)
  (G:w'.heap=w.heap.setIfInBounds n o') (C:w'.os=w.os) (B:w'.tape=w.tape) (M:w'.output=w.output) (x:BAt h w' N E'):
  JN X h (H.set N E') w'/\Ha h H w h (H.set N E') w':=by
 have d:N<H.length:=by rcases Au N H.length with f|f;exact f;rw[Cc f]at g;cases g
 have b:E≠ .dead:=by rintro rfl;cases J
 have O: ∀k,k≠n->w'.heap[k]? =w.heap[k]? :=λk h=>by rw[G];simp[O7 h]
 have own: ∀k,owned h (H.set N E') k->owned h H k:=by rintro k ⟨i,e,j,c,f⟩;rcases JL d j with⟨y,a⟩|⟨rfl,_⟩;exact⟨i,e,a,c,f⟩;exact⟨i,E,g,b,f⟩
 have I:Ha h H w h (H.set N E') w':=by refine⟨C,B,M,by rw[G];simp,λk _ hn=>O k λe=>hn ⟨N,E,g,b,by rw[e];exact m⟩,k!,λ_ _=>Am _,λ_ _ _=>⟨rfl,rfl⟩,λk O=>.inl (own k O),λk r hr=>⟨r,?_⟩⟩;refine(O k λe=>?_).trans hr;subst e;rw[K]at hr;injection hr with hr;exact A r hr
 refine⟨s.of_extM I (λi e j c=>?_) (λi D e F k j f p q t u=>?_),I⟩;rcases JL d j with⟨y,a⟩|⟨rfl,rfl⟩;refine .inl ⟨a,rfl,rfl,rfl,λk z=>O k λe=>?_⟩;subst e;exact y (s.inj i N _ _ k a g c b z m);exact .inr ⟨v,x⟩;rcases JL d j with⟨y,a⟩|⟨rfl,rfl⟩<;>rcases JL d f with⟨L,l⟩|⟨rfl,rfl⟩;exact s.inj i D e F k a l p q t u;exact s.inj i D e E k a g p b t u;exact s.inj i D E F k g l b q t u;rfl
end
def nN{k:IntKind}{n:Int}: ∀(l:List MapEntry) (a:List (Int×AY)) (i:Nat),l.length=a.length→(∀(j:Nat) (p:Int×AY),a[j]? =some p→ ∃e:MapEntry,l[j]? =some e∧e.key= .int k p.1)→
  (Instr.findNow (.int k) (.int k n) l i=some none/\K5 n a=none/\ ∀v,QL n v a=a++[(n,v)])\/∃j e p,Instr.findNow (.int k) (.int k n) l i=some (some (i+j,e.val))/\l[j]? =some e/\a[j]? =some p/\e.key= .int k n/\K5 n a=some p.2/\ ∀v,QL n v a=a.set j (n,v)
 |[],[],_,_,_=>.inl ⟨rfl,rfl,λ_=>rfl⟩
 |[],_::_,_,hl,_=>by simp at hl
 |_::_,[],_,hl,_=>by simp at hl
 |e::l,p::a,i,hl,h=>by
  obtain⟨z,o,r⟩:=h 0 p rfl;simp only[lU,Al]at o;subst o;have m:Instr.sameNow (.int k) (.int k n) e.key=some (n==p.1):=by rw[r];simp[Instr.sameNow]
  by_cases hn:p.1=n;refine .inr ⟨0,e,p,?_,rfl,rfl,by rw[r,hn],?_,λv=>?_⟩;simp[Instr.findNow,m,hn];simp[K5,hn];simp[QL,hn];have c:(n==p.1)=false:=by simp;exact λe=>hn e.symm
  have b:(p.1==n)=false:=by simpa using hn
  rcases nN (k:=k) (n:=n) l a (i+1) (by simpa using hl) (λj q x=>by simpa using h (j+1) q (by simpa using x))with⟨d,f,g⟩|⟨j,s,y,d,f,g,t,u,w⟩;exact .inl ⟨by simp[Instr.findNow,m,c,d],by simp[K5,b,f],λv=>by simp[QL,b,g]⟩;exact .inr ⟨j+1,s,y,by simp[Instr.findNow,m,c,d];omega,by simpa using f,by simpa using g,t,by simp[K5,b,u],λv=>by simp[QL,b,w]⟩
section
variable {P:Program} {N:Nat} {o:Oper} {env:Env} {H:Az} {K:AY->Az->Prop}
def JM.makeMap(k:IntKind)(c:o.op= .makeMap a none)(e:K (.mp H.length) (H++[.mp k []])):JM P N o env H K:=by
 apply Cv (by rw[c];rfl);intro X h t w s Q;have b:(execOp t.eval o).run P w= .ok (.value (.map (some w.heap.size))) {w with heap:=w.heap.push (.map #[] 0)}:=by unfold execOp;rw[c];rfl
 unfold Oper.wp;rw[b,Oper.upon_value];refine⟨_,_,_,_,rfl,e,?_,s.sim.push_m (.map #[] 0) 0 (.mp k []) rfl ⟨w.heap.size, #[],by simp[Gh.at_],by simp[Gh.at_],k!,rfl,λj p d=>by simp at d⟩,Ha.push _ _ _⟩;exact .mp (by simp[cx]) rfl λ_=>⟨w.heap.size,by simp[cx,Gh.at_],rfl⟩
def AD9(s:St B h N env H M w)(u:BJ env c= .mp n)(r:H[n]? =some (.mp z J)):
  ∃(a:Nat) (b:Array MapEntry),M.eval c= .map (some a)/\h.io n=some a/\h.gen n=0/\w.heap[a]? =some (.map b b.size)/\b.size=J.length/\∀(j:Nat) (p:Int×AY),J[j]? =some p-> ∃e:MapEntry,b[j]? =some e/\e.born=j/\e.key= .int z p.1/\ ∀c,Bp c p.2 e.val:=by
 have g:=DU s.env c;rw[u]at g;obtain⟨a,b,i,l,m,x,o⟩:=s.sim.bld n _ r rfl;generalize M.eval c=X at g;cases g with
 |mp t y q=>obtain⟨v,d,rfl⟩:=q l;rw[show(cx B h H w).io n=h.io n from rfl,i]at d;injection d with d;subst d;exact⟨a,b,rfl,i,l,m,x,o⟩
def ADu(s:St X h N env H M w)(d:BJ env c= .int z F):M.eval c= .int z F:=by have b:=DU s.env c;rw[d]at b;generalize M.eval c=a at b;cases b;rfl
theorem JM.mapUpdate{t U et:TypeId}{m I A:Operand}{id:Nat}{k:IntKind}{es:List (Int×AY)}{n:Int}{v:AY}(S:o.op= .mapUpdate t m I A)(hm:BJ env m= .mp id)(G:BJ env I= .int k n)
  (hp: ∀(x:Cx) (c:Value),Bp x (BJ env A) c-> ∀y,Bp y v c) (T:P.underlying t=some (.map U et)) (l:P.underlying U=some (.int k)) (E:H[id]? =some (.mp k es)) (R:K .any (H.set id (.mp k (QL n v es)))):JM P N o env H K:=by
 apply Cv (by rw[S];rfl);intro X h a w s Q;obtain⟨B,b,q1,q2,q3,q4,q5,q6⟩:=AD9 s hm E;have V:=ADu s G;have W:=hp _ _ (DU s.env A);generalize u:a.eval A=c at W;have ag:id<H.length:=q!
 have f:IsKey (.int k) (.int k n):=rfl;have q:B<w.heap.size:=(cE.1 q4).1;have z:execOp a.eval o=(do Instr.mapUpdate t (a.eval m) (a.eval I) (a.eval A);pure .skip):=by unfold execOp;rw[S]
 rcases nN (n:=n) (k:=k) b.toList es 0 q! (λj p d=>by obtain⟨e,Z,_,C,_⟩:=q6 j p d;exact⟨e,q!,C⟩)with⟨D,M,O⟩|⟨j,Y,p0,D,M,O,h4,h5,h6⟩;have g:(execOp a.eval o).run P w= .ok .skip {w with heap:=w.heap.setIfInBounds B (.map (b.push {key:=.int k n,val:=c,born:=b.size}) (b.size+1))}:=by rw[z,q1,V,u];simp[Instr.mapUpdate,run_underlying T,MapKept.run_getObj_map q4,MapKept.run_checkKey l f,MapKept.run_findKey l D,MapKept.run_setObj_map _ q4]
 unfold Oper.wp;rw[g,Oper.upon_skip];obtain⟨J,L⟩:=s.sim.setM (E':=.mp k (QL n v es)) (o':=.map (b.push {key:=.int k n,val:=c,born:=b.size}) (b.size+1))
  (w':={w with heap:=w.heap.setIfInBounds B (.map (b.push {key:=.int k n,val:=c,born:=b.size}) (b.size+1))}) E rfl rfl q2 q4 (λr e=>by cases e) rfl rfl rfl rfl (by refine⟨B,b.push {key:=.int k n,val:=c,born:=b.size},q2,q3,by simp[q],q!,λj p d=>?_⟩;rw[O]at d;rcases Qz j es.length with ap|rfl|ad;grind;rw[Cb (Am _),Gd]at d;simp only[lU,Al]at d;subst d;exact⟨{key:=.int k n,val:=c,born:=b.size},q!,q5,rfl,W⟩;rw[Cc w!]at d;cases d)
 exact⟨_,_,_,_,rfl,R,.any _,J,L⟩;have d:b[j]? =some Y:=by simpa using M
 have ao:j<b.size:=(cE.1 d).1;have g:(execOp a.eval o).run P w= .ok .skip {w with heap:=w.heap.setIfInBounds B (.map (b.modify j λe=>{e with key:=.int k n,val:=c}) b.size)}:=by rw[z,q1,V,u];simp[Instr.mapUpdate,run_underlying T,MapKept.run_getObj_map q4,MapKept.run_checkKey l f,MapKept.run_findKey l D,d,h4,MapKept.run_keyThatStays f,MapKept.run_setObj_map _ q4]
 unfold Oper.wp;rw[g,Oper.upon_skip];obtain⟨J,L⟩:=s.sim.setM (E':=.mp k (QL n v es)) (o':=.map (b.modify j λe=>{e with key:=.int k n,val:=c}) b.size)
  (w':={w with heap:=w.heap.setIfInBounds B (.map (b.modify j λe=>{e with key:=.int k n,val:=c}) b.size)}) E rfl rfl q2 q4 (λr e=>by cases e) rfl rfl rfl rfl (by refine⟨B,b.modify j λe=>{e with key:=.int k n,val:=c},q2,q3,by simp[q],q!,λi p F=>?_⟩;rw[h6,cD]at F;split at F;grind;rename_i al;obtain⟨e,Z,C⟩:=q6 i p F;exact⟨e,q!,C⟩)
 exact⟨_,_,_,_,rfl,R,.any _,J,L⟩
def ABy(P:Program)(t:TypeId):Option AY:=
 match (P.info? t).bind (·.zero)with
 |some (.agg cs)=>if cs.toList.all (·.oneCell')then some (.agg (cs.toList.map rE))else none
 |some (.bool b)=>some (.bool b)
 |_=>none
theorem ACw(h:ABy P a=some u)(w:World): ∃v,(zeroValue a).run P w= .ok v w/\ ∀x,Bp x u v:=by unfold ABy at h;split at h;rename_i d t;split at h;rename_i e;obtain⟨i,c,t⟩:=Db.1 t;refine⟨.agg d,by simp[zeroValue,typeInfo,c,t],λx=>?_⟩;have:=ya x (.agg d);grind[ACJ];cases h;rename_i b t;obtain⟨i,c,t⟩:=Db.1 t;injection h with h;subst h;exact⟨.bool b,by simp[zeroValue,typeInfo,c,t],λx=>.bool b⟩;cases h
theorem JM.lookup{id:Nat}{k:IntKind}{es:List (Int×AY)}{n:Int}{z:AY}{g:Bool}(T:o.op= .lookup a c L g)(hm:BJ env c= .mp id)(G:BJ env L= .int k n)
  (U:P.underlying a=some (.map I W)) (f:P.underlying I=some (.int k)) (hz:ABy P W=some z) (he:H[id]? =some (.mp k es))
  (hk:K (bif g then .tup [(K5 n es).getD z,.bool (K5 n es).isSome]else(K5 n es).getD z) H):JM P N o env H K:=by
 apply Cv (by rw[T];cases g<;>rfl);intro X h O w s Q;obtain⟨B,q,q1,q2,q3,q4,q5,q6⟩:=AD9 s hm he;have Y:=ADu s G;have i:IsKey (.int k) (.int k n):=rfl;have y:execOp O.eval o=(do pure (.value (<-Instr.lookup a (O.eval c) (O.eval L) g))):=by unfold execOp;rw[T]
 have x: ∀(J:Value) (v:AY) (b:Bool),(execOp O.eval o).run P w= .ok (.value (bif g then .tuple #[J,.bool b]else J)) w→Bp (cx X h H w) v J→K (bif g then .tup [v,.bool b]else v) H→
   Oper.wp P o O w (λZ V=> ∃J v E C,Z=O.put o.dst J/\K v C/\Bp (cx X E C V) v J/\JN X E C V/\Ha h H w E C V) Q:=by
  intro J v b A t hK;unfold Oper.wp;rw[A,Oper.upon_value];refine⟨_,_,h,H,rfl,hK,?_,s.sim,Ha.refl _ _ _⟩;cases g;exact t;refine .tup k! λj u d l S=>?_;rcases j with _|_|j;grind;simp at l S;subst l S;exact .bool b;grind
 rcases nN (n:=n) (k:=k) q.toList es 0 q! (λj p l=>by obtain⟨e,r,_,D,_⟩:=q6 j p l;exact⟨e,q!,D⟩)with⟨F,h2,R⟩|⟨j,M,m,F,h2,R,h4,h5,h6⟩;obtain⟨v,t,hr⟩:=ACw hz w;refine x v z false ?_ (hr _) q!;rw[y,q1,Y];cases g<;>simp[Instr.lookup,run_underlying U,MapKept.run_getObj_map q4,MapKept.run_checkKey f i,MapKept.run_findKey f F,t];obtain⟨e',r,_,_,D⟩:=q6 j m R;have l:q[j]? =some M:=q!
 rw[l]at r;injection r with r;subst r;refine x M.val m.2 true ?_ (D _) q!;rw[y,q1,Y];cases g<;>simp[Instr.lookup,run_underlying U,MapKept.run_getObj_map q4,MapKept.run_checkKey f i,MapKept.run_findKey f F]
theorem JM.range{id:Nat}{k:IntKind}{es:List (Int×AY)}(d:o.op= .range a c)(j:BJ env c= .mp id)(l:P.underlying a=some (.map I W))(g:H[id]? =some (.mp k es))
  (i:K (.itp H.length id) (H++[.it es.length []])):JM P N o env H K:=by
 apply Cv (by rw[d];rfl);intro X h n w s Q;obtain⟨B,e,q1,q2,q3,q4,q5,q6⟩:=AD9 s j g;have t:id<H.length:=q!
 have b:(execOp n.eval o).run P w= .ok (.value (.pointer (some ⟨w.heap.size,0,none⟩))) {w with heap:=w.heap.push (.mapIter (some B) es.length #[] es.length)}:=by unfold execOp;rw[d];simp only[q1];simp[Instr.range,run_underlying l,MapKept.run_getObj_map q4,newObj,q5];rfl
 unfold Oper.wp;rw[b,Oper.upon_value];refine⟨_,_,_,_,rfl,i,?_,s.sim.push_m (.mapIter (some B) es.length #[] es.length) B (.it es.length []) rfl ⟨w.heap.size,by simp[Gh.at_],by simp[Gh.at_],by simp[Gh.at_]⟩,Ha.push _ _ _⟩;exact .itp (by simp[cx]) (by simp[cx];omega) rfl λ_=>⟨w.heap.size,by simp[cx,Gh.at_],rfl,λ_=>by simp[cx,Gh.at_,BZ t,q2]⟩
def AGY{m:Nat}(s:St B h N env H M w)(F:BJ env c= .itp U m)(D:H[U]? =some (.it n O))(C:H[m]? =some (.mp z J)):
  ∃(k f:Nat) (b:Array MapEntry),M.eval c= .pointer (some ⟨k,0,none⟩)/\h.io U=some k/\h.gen U=0/\w.heap[k]? =some (.mapIter (some f) n O.toArray n)/\h.cap U=f/\w.heap[f]? =some (.map b b.size)/\b.size=J.length/\∀(j:Nat) (p:Int×AY),J[j]? =some p-> ∃e:MapEntry,b[j]? =some e/\e.born=j/\e.key= .int z p.1/\ ∀c,Bp c p.2 e.val:=by
 have l:=DU s.env c;rw[F]at l;obtain⟨k,o,q,r⟩:=s.sim.bld U _ D rfl;obtain⟨f,b,t,u,v,y,X⟩:=s.sim.bld m _ C rfl;generalize M.eval c=a at l;cases l with
 |itp E x I A=>obtain⟨G,g,rfl,d⟩:=A q;rw[show(cx B h H w).io U=h.io U from rfl,o]at g;injection g with g;subst g;have d:=d u;rw[show(cx B h H w).io m=h.io m from rfl,t]at d;injection d with d;have d:f=h.cap U:=d;subst d;exact⟨k,_,b,rfl,o,q,r,rfl,v,y,X⟩
theorem JM.next{x:Operand}{id m:Nat}{k:IntKind}{es:List (Int×AY)}{seen:List Nat}(ho:o.op= .next x false)(hx:BJ env x= .itp id m)(f:H[id]? =some (.it es.length seen))(he:H[m]? =some (.mp k es))
  (z:(∀j,j<es.length->j∈seen)->K (.tup [.bool false]) H)
  (C: ∀(j:Nat) (p:Int×AY),es[j]? =some p->j∉seen->K (.tup [.bool true,.int k p.1,p.2]) (H.set id (.it es.length (seen++[j])))):JM P N o env H K:=by
 apply Cv (by rw[ho];rfl);intro X h a w s Q;obtain⟨B,v,c,q1,q2,q3,q4,qc,q5,q6,q7⟩:=AGY s hx f he;have ao:execOp a.eval o=(do pure (.value (<-Instr.next (a.eval x) false o.type))):=by unfold execOp;rw[ho]
 have y: ∀(j:Nat) (e:MapEntry),c[j]? =some e->e.born=j/\j<es.length:=by
  intro j e q;have I:j<es.length:=by grind[Array.getElem?_eq_some_iff]
  obtain⟨e',E,T,_⟩:=q7 j _ (A4 I);rw[q]at E;injection E with E;subst E;exact⟨T,I⟩
 have t: ∀e∈c.toList,e.born<es.length:=λe A=>by grind[List.getElem?_of_mem]
 have M:w.heap[B]? =some (.mapIter (some v) es.length seen.toArray es.length):=q4;generalize V:Array.filter (λe:MapEntry=>!seen.toArray.contains e.born) c=L;have G: ∀e∈L.toList,e∈c.toList/\e.born∉seen:=λe A=>by rw[<-V]at A;simpa using A
 have E:L.filter (λx=>decide (x.born<es.length))=L:=Array.filter_eq_self.2 (λx hx=>by simpa using t x (G x (by simpa using hx)).1);have T:L.filter (λx=>decide (x.born>=es.length))= #[]:=by grind[Array.filter_eq_empty_iff]
 have D:(Instr.next (.pointer (some ⟨B,0,none⟩)) false o.type).run P w=((do
   let b:=(if L.isEmpty then #[none]else #[])++L.map some;match b[<-choose (.mapNext b.size)]? with
   |some (some e)=>
    setObj B (.mapIter (some v) es.length (seen.toArray.push e.born) c.size)
    pure (.tuple #[.bool true,e.key,e.val])
   |some none=>pure (.tuple #[.bool false])
   |none=>stuck "Next: no such candidate"):Sem Value).run P w:=by
  simp only[Instr.next,getObj,Sem.run_bind,Sem.run,M,q5,Result.andThen,next_test_false seen.toArray c es.length es.length t (Am _),P2,if_false,V,E,T,Array.append_empty];rfl
 by_cases h0:L.size=0;have W:L= #[]:=nl h0;subst W;have g:(execOp a.eval o).run P w= .ok (.value (.tuple #[.bool false])) w:=by simp_all[Sem.run_bind,Sem.run,Question.forced]
 unfold Oper.wp;rw[g,Oper.upon_value];refine⟨_,_,h,H,rfl,z λj q=>?_,.tup k! λi u d f n=>?_,s.sim,Ha.refl _ _ _⟩;obtain⟨e,O,R,_⟩:=q7 j _ (A4 q);rcases Classical.em (j∈seen)with U|U;exact U;have:e∈(Array.filter (λe:MapEntry=>!seen.toArray.contains e.born) c).toList:=by have A:e∈c:=vP O;simp[A,R,U]
 rw[V]at this;simp at this;rcases i with _|i;simp at f n;subst f n;exact .bool false;simp at f;have ar:L.isEmpty=false:=by simp[Array.isEmpty,h0]
 obtain⟨i,l,ap,Y,Z,ad,ag,al⟩: ∃(i:Nat) (l:World),i<L.size/\l.heap=w.heap/\l.os=w.os/\l.output=w.output/\l.tape=w.tape/\(choose (Question.mapNext L.size)).run P w= .ok i l:=by by_cases hf:L.size<=1;exact⟨0,w,o!,rfl,rfl,rfl,rfl,by simp[choose,Sem.run,Question.forced,hf]⟩;exact⟨_,w.drew,Yd _ o!,rfl,rfl,rfl,rfl,by simp only[choose,Sem.run,Question.forced,decide_eq_true_eq,hf,if_false,Question.cut];rfl⟩
 have A:L[i]∈L.toList:=k!
 obtain⟨m1,m2⟩:=G _ A;obtain⟨j,q⟩:=Di m1;have q:c[j]? =some L[i]:=by simpa using q
 obtain⟨O,R⟩:=y j _ q;obtain⟨e,S,c2,c3,c4⟩:=q7 j _ (A4 R);rw[q]at S;injection S with S;subst S;have F:B<w.heap.size:=(cE.1 q4).1;have g:(execOp a.eval o).run P w= .ok (.value (.tuple #[.bool true,.int k es[j].1,L[i].val])) {l with heap:=w.heap.setIfInBounds B (.mapIter (some v) es.length (seen++[j]).toArray es.length)}:=by
  rw[ao,q1,Sem.run_bind,D];simp only[ar,P2,if_false,Array.empty_append,Array.size_map,Sem.run_bind,al,Result.andThen_ok,cH,N2 ap,Bn];have J:(setObj B (.mapIter (some v) es.length (seen.toArray.push L[i].born) c.size)).run P l= .ok () {l with heap:=w.heap.setIfInBounds B (.mapIter (some v) es.length (seen++[j]).toArray es.length)}:=by simp[setObj,Sem.run,Y,M,O,q6]
  simp only[J,Result.andThen_ok,Sem.run_pure,c3]
 unfold Oper.wp;rw[g,Oper.upon_value];obtain⟨s1,s2⟩:=s.sim.setM (E':=.it es.length (seen++[j])) (o':=.mapIter (some v) es.length (seen++[j]).toArray es.length) (w':={l with heap:=w.heap.setIfInBounds B (.mapIter (some v) es.length (seen++[j]).toArray es.length)}) f rfl rfl q2 q4 (λr e=>by cases e) rfl Z ag ad
  ⟨B,q2,q3,by simp[F,qc]⟩
 refine⟨_,_,_,_,rfl,C j _ (A4 R) (by rw[<-O];exact m2),.tup k! λi u d f n=>?_,s1,s2⟩;rcases i with _|_|_|i;simp at f n;subst f n;exact .bool true;simp at f n;subst f n;exact .int _ _;simp at f n;subst f n;exact c4 _;simp at f
theorem JM.entry{x:Operand}{id m j:Nat}{k:IntKind}{es:List (Int×AY)}{seen:List Nat}{p:Int×AY}(l:o.op= .entry x)(A:BJ env x= .itp id m)(f:H[id]? =some (.it es.length (seen++[j])))(r:H[m]? =some (.mp k es))
  (v:es[j]? =some p) (y:K (.tup [.int k p.1,p.2]) H):JM P N o env H K:=by
 apply Cv (by rw[l];rfl);intro X h a w s Q;obtain⟨B,C,b,q1,q2,q3,q4,J,q5,q6,q7⟩:=AGY s A f r;obtain⟨e,D,n,q,E⟩:=q7 j p v;have t:b.find? (λx=>x.born==j)=some e:=by
  rw[<-Array.find?_toList,<-n];refine find_born e b.toList ?_ q!;have I:b.toList.map (·.born)=List.range b.size:=by refine I2 λi=>?_;rw[CE,P0];rcases Au i b.size with z|z;obtain⟨e,F,G,_⟩:=q7 i _ (A4 (by omega:i<es.length));grind;grind
  grind
 have c:(execOp a.eval o).run P w= .ok (.value (.tuple #[.int k p.1,e.val])) w:=by unfold execOp;rw[l];simp only[q1];simp[Instr.entry,getObj,Sem.run,q4,q5,q6,t,q]
 unfold Oper.wp;rw[c,Oper.upon_value];refine⟨_,_,h,H,rfl,y,.tup k! λi u d f g=>?_,s.sim,Ha.refl _ _ _⟩;rcases i with _|_|i;simp at f g;subst f g;exact .int _ _;grind;grind
end
mutual
def Ty.flat:Ty->Bool
 | .list _=>false
 | .arr _ t=>t.flat
 | .prod ts=>ts.flat
 |_=>true
def SY.flat:SY->Bool
 | .one t=>t.flat
 | .cons t ts=>t.flat&&ts.flat
end
def Plain(v:AY):Prop:= ∀(x:Cx) (c:Value),Bp x v c-> ∀y,Bp y v c
theorem Plain.agg{a:List AY}(h: ∀v∈a,Plain v):Plain (.agg a):=λx c r y=>by
 cases r with
 |agg e f i=>exact .agg e f λj v d b g=>h v (BU b) x d (i j v d b g) y
mutual
theorem Ty.plain_cells: ∀(t:Ty),t.flat=true-> ∀x:t.D,∀v∈(t.enc x).cells,Plain v
 | .bool,_,b,v,d=>by simp only[Ty.enc,AY.cells,BI]at d;subst d;exact λ_ c r y=>by cases r;exact .bool _
 | .int k,_,n,v,d=>by simp only[Ty.enc,AY.cells,BI]at d;subst d;exact λ_ c r y=>by cases r;exact .int _ _
 | .str,_,s,v,d=>by
  simp only[Ty.enc,AY.cells,BI]at d;subst d;exact λ_ c r y=>by
   cases r with
   |str t e=>exact .str t e
 | .list t,h,_,_,_=>by cases h
 | .arr n t,h,a,v,d=>by simp only[Ty.enc,AY.cells,Hh]at d;obtain⟨i,_,d⟩:=d;exact t.plain_cells h _ v d
 | .prod ts,h,x,v,d=>ts.plain_cells h x v d
theorem SY.plain_cells: ∀(b:SY),b.flat=true-> ∀x:b.D,∀v∈b.cells x,Plain v
 | .one t,h,x,v,a=>t.plain_cells h x v a
 | .cons t b,h,x,v,a=>by simp only[SY.flat,BO]at h;simp only[SY.cells,A1]at a;rcases a with a|a;exact t.plain_cells h.1 _ v a;exact b.plain_cells h.2 _ v a
end
theorem Ty.plain(t:Ty)(h:t.flat=true)(x:t.D):Plain (t.enc x):=by have a:=t.plain_cells h x;cases t<;>grind[Plain.agg,Ty.enc,AY.cells]
section
variable {R:Type}
def uQ(P:Program)(H:Aq)(t:TypeId)(k:TV->Aq->Option R):Option R:=
 match P.underlying t with
 |some (.map kt et)=>
  match P.underlying kt,AA5 P 1000 et with
  |some (.int kk),some ty=>k (.c (.raw (.mp H.length))) (H++[.mp false kk ty []])
  |_,_=>none
 |_=>none
def nR(P:Program)(H:Aq)(t:TypeId)(m kx v:TV)(k:TV->Aq->Option R):Option R:=
 match P.underlying t with
 |some (.map kt _)=>
  match m,kx with
  | .c (.raw (.mp id)),.c (.it kk n)=>
   match P.underlying kt,H[id]? with
   |some (.int k1),some (.mp false k2 ty es)=>
    if k1=kk/\k2=kk then
     match ty.flat with
     |true=>match ty.data v with|some x=>k Vp (H.set id (.mp false k2 ty (QL n x es)))|none=>none
     |false=>none
    else none
   |_,_=>none
  |_,_=>none
 |_=>none
def xQ(P:Program)(H:Aq)(t:TypeId)(g:Bool)(m kx:TV)(k:TV->Aq->Option R):Option R:=
 match P.underlying t with
 |some (.map kt et)=>
  match m,kx with
  | .c (.raw (.mp id)),.c (.it kk n)=>
   match P.underlying kt,H[id]?,ABy P et with
   |some (.int k1),some (.mp _ k2 ty es),some z=>
    if k1=kk/\k2=kk then
     match AY.beq z (ty.enc ty.zero)with
     |true=>k (bif g then .tup [ty.tv ((K5 n es).getD ty.zero),.c (.bl (K5 n es).isSome)]else ty.tv ((K5 n es).getD ty.zero)) H
     |false=>none
    else none
   |_,_,_=>none
  |_,_=>none
 |_=>none
variable {P:Program} {N:Nat} {o:Oper} {env:Bc} {H:Aq} {k:TV->Aq->Option R} {r:R}
theorem uR(ok:Qs env H)(b:o.op= .makeMap a none)(h:uQ P H a k=some r): ∀F,pI P N o env H F k r:=by intro F;unfold uQ at h;split at h;split at h;rename_i t c _ _;have st:CD H (H++[.mp false t c []]):=CD.push H _;refine⟨_,_,JM.makeMap t b ⟨?_,?_⟩,h,J2 trivial,Pz ok.heap trivial,st,Frame.push F H _⟩;show AY.mp (BH H).length=AY.mp H.length;rw[CR];rw[Ri];rfl;cases h;cases h
def qY{u:Operand}(ok:Qs env H)(E:o.op= .mapUpdate a c L u)(h:nR P H a (JO env c) (JO env L) (JO env u) k=some r):pI P N o env H (List.range H.length) k r:=by
 have b:=LC env;unfold nR at h;split at h;rename_i K I F;split at h;rename_i id J n D C;split at h;rename_i k1 q m d g i;split at h;rename_i f;obtain⟨w,A⟩:=f;subst w A;split at h;rename_i e;split at h;rename_i x G;have st:CD H (H.set id (.mp false q m (QL n x d))):=CD.set i rfl λ_ _ _ _ _ h=>by cases h
 refine⟨Vp,_,JM.mapUpdate (id:=id) (k:=q) (n:=n) (v:=m.enc x) (es:=d.map λp=>(p.1,m.enc p.2)) E (by rw[b,D];rfl) (by rw[b,C];rfl) (λy t l z=>?_) F g (by rw[E6,i];rfl) ⟨rfl,?_⟩,h,il,Vg st ok.heap trivial,st,λj B hn=>(hn (Hj.2 B)).elim⟩;rw[b]at l;exact m.plain e x y t (MN G y t l) z;rw[N7,<-zH];rfl;cases h;cases h;cases h;cases h;cases h;cases h
theorem vJ(ok:Qs env H)(y:o.op= .lookup a c L A)(h:xQ P H a A (JO env c) (JO env L) k=some r): ∀F,pI P N o env H F k r:=by
 intro F;have i:=LC env;unfold xQ at h;split at h;rename_i G D m;split at h;rename_i id E n x w;split at h;rename_i k1 ro C t j z f u B;split at h;rename_i d;obtain⟨l,q⟩:=d;subst l q;split at h;rename_i s;have e:(K5 n (j.map λp=>(p.1,t.enc p.2))).getD z=(t.tv ((K5 n j).getD t.zero)).enc:=by rw[uT,beq_eq _ _ s,Ty.tv_enc];cases K5 n j<;>rfl
 refine⟨_,H,JM.lookup (id:=id) (k:=C) (n:=n) (z:=z) (g:=A) (es:=j.map λp=>(p.1,t.enc p.2)) y (by rw[i,x];rfl) (by rw[i,w];rfl) m f B (by rw[E6,u];rfl) ⟨?_,rfl⟩,h,?_,ok.heap,CD.refl H,Frame.refl F H⟩;rw[e,uT];cases A<;>cases K5 n j<;>rfl;cases A;exact Ty.tv_ok _ _;refine Rq λv b=>?_;rcases A8.1 b with rfl|b;exact Ty.tv_ok _ _;simp at b;subst b;exact J2 trivial;cases h;cases h;cases h;cases h;cases h
end
inductive Tgt where
 |fn (F:FuncId)
 |yd (id:Nat)
abbrev Tn:= ∀{R:Type},Tgt->List TV->Aq->(TV->Aq->Option R)->Option R
def iR(ops:Array Oper)(g:Option (Nat×Bool))(env:Bc):Option Bool:=
 match g with
 |none=>some true
 |some (j,want)=>
  match (ops[j]?).bind (·.dst)with
  |some d=>match env.get d with| .c (.bl b)=>some (b==want)| .tup []=>some false|_=>none
  |none=>none
def K6:List Bs->List Nat
 |[]=>[]
 | .own id _ _ _::r=>id::K6 r
 |_::r=>K6 r
def behind(H:Aq)(v:TV):List Nat:=
 match v with
 | .c (.raw (.ptr id 0 0))=>match H[id]? with|some (.live false cs)=>K6 cs|_=>[]
 |v=>K6 v.refs
def II:List Nat->Bc->Aq->Bc×Aq
 |[],env,H=>(env,H)
 |id::r,env,H=>match frz id env H with|some (e,h)=>II r e h|none=>II r env H
def ABU:List RW->FuncId->Option RW
 |[],_=>none
 |c::r,F=>match Nat.beq c.f F with|true=>some c|false=>ABU r F
def AFt:List AY->List TV->Bool
 |[.fn (.func C) _ _],vs=>match vs.getLast? with|some (.c (.raw (.fn (.func D) _ _)))=>Nat.beq C D|_=>true
 |_,_=>true
def AIM:RW->List TV->Bool
 | .c2 _ _ _ _ post _,.c (.own _ _ _ _)::r=>AFt post r
 | .c2 _ _ _ _ _ _,_=>false
 |_,_=>true
def tc:List RW->FuncId->List TV->Option RW
 |[],_,_=>none
 |c::r,F,vs=>match Nat.beq c.f F&&AIM c vs with|true=>some c|false=>tc r F vs
def lY(env:Bc)(op:Op):Option (FuncId×List TV):=
 match op with
 | .call c=>
  match c.callee with
  | .value f=>match JO env f with| .c (.raw (.fn (.func F) first caps))=>some (F,first.map tvA++c.args.toList.map (JO env)++caps.map tvA)|_=>none
  |_=>none
 |_=>none
def uw(env:Bc)(c:Call):Option (Nat×List TV):=
 match c.callee with
 | .value f=>match JO env f with| .c (.raw (.yf id))=>some (id,c.args.toList.map (JO env))|_=>none
 |_=>none
def mj(cs:List RW)(env:Bc)(H:Aq)(op:Op):List Nat:=
 match op with
 | .call c=>
  match lY env (.call c)with
  |some (F,vs)=>match tc cs F vs with|some ct=>(AJJ ct vs).flatMap (behind H)|none=>[]
  |none=>[]
 | .buildSlice _ _ parts=>parts.toList.flatMap λp=>K6 (JO env p.2).refs
 | .store _ a v=>match JO env a with| .aptr .. =>K6 (JO env v).refs| .bptr .. =>K6 (JO env v).refs|_=>[]
 | .slice _ x _ _ _=>K6 (JO env x).refs
 |_=>[]
def Wk(H H':Aq):Aq:=H++H'.drop H.length
def isNil:List R->Bool
 |[]=>true
 |_=>false
section
variable {R:Type}
def xG(cs:List RW)(env:Bc)(H:Aq)(op:Op):List Nat:=
 match op with
 | .store _ a _=>idT (JO env a)
 | .mapUpdate .. =>List.range H.length
 | .call c=>
  match lY env (.call c)with
  |some (F,vs)=>match tc cs F vs with|some ct=>AFN ct vs|none=>(match isNil vs with|true=>[]|false=>List.range H.length)
  |none=>
   match uw env c with
   |some _=>List.range H.length
   |none=>match c with|{callee:=.builtin .append,args:=⟨[s,_]⟩,.. }=>idT (JO env s)|_=>[]
 |_=>[]
def yj(P:Program)(cs:List RW)(call:Tn)(env:Bc)(H:Aq)(op:Op)(k:TV->Aq->Option R):Option R:=
 match op with
 | .alloc t=>zu P H t k
 | .box _ x=>AFD H (JO env x) k
 | .store t a v=>storeT P H t (JO env a) (JO env v) k
 | .buildSlice t len parts=>Z1 P env H t len parts k
 | .makeSlice t x y=>iV P H t (JO env x) (JO env y) k
 | .makeMap t none=>uQ P H t k
 | .mapUpdate t m x y=>nR P H t (JO env m) (JO env x) (JO env y) k
 | .lookup t m x g=>xQ P H t g (JO env m) (JO env x) k
 | .convert s d x=>
  match kd P d with
  | .bytes=>uu P H s d (JO env x) k
  |_=>quT P env H (.convert s d x) λv=>k v H
 | .call c=>
  match lY env (.call c)with
  |some (F,vs)=>
   match Enters P F with
   |true=>
    match tc cs F vs with
    |some ct=>ABK ct vs H k
    |none=>match isNil vs with|true=>call (.fn F) [] (H.map Dr.lock) λv H'=>k v (Wk H H')|false=>call (.fn F) vs H k
   |false=>none
  |none=>
   match uw env c with
   |some (id,vs)=>call (.yd id) vs H k
   |none=>
    match c with
    |{callee:=.builtin .append,args:=⟨[s,x]⟩,argTypes:=⟨[t,t']⟩}=>match Nat.beq t t' with|true=>sG P H t (JO env s) (JO env x) k|false=>none
    |c=>quT P env H (.call c) λv=>k v H
 |op=>quT P env H op λv=>k v H
def force(f:Bool)(v:TV)(k:TV->Option R):Option R:=
 match f with
 |true=>match v with| .c (.bl b)=>cond b (k (.c (.bl true))) (k (.c (.bl false)))|v=>k v
 |false=>k v
def guards(ops:Array Oper):List Nat:=ops.toList.filterMap λo=>o.guard.map (·.1)
def Oj(j:Nat):List Nat->Bool
 |[]=>false
 |i::r=>match Nat.beq i j with|true=>true|false=>Oj j r
def AAS{α:Type}(l:List α)(i:Int)(z:α):Option (List α):=if 0<=i/\i<=(l.length:Int)then some (l.take i.toNat++List.replicate (l.length-i.toNat) z)else none
def ABN(o1 o2:Oper):Option (Nat×TypeId×Operand×Operand):=
 match o1.dst,o1.op,o1.guard,o2.dst,o2.op,o2.guard with
 |some d,.slice t x (some lo) none none,none,none,.call {callee:=.builtin .clear,args:=⟨[.tmp d']⟩,argTypes:=⟨[t']⟩},none=>match Nat.beq d d'&&Nat.beq t t' with|true=>some (d,t,x,lo)|false=>none
 |_,_,_,_,_,_=>none
def AHF(P:Program)(H:Aq)(t:TypeId)(x lo:TV)(k:Aq->Option R):Option R:=
 match x,lo with
 | .c (.own id ver _ _),.c (.it _ i)=>
  match H[id]? with
  |some (.buf false t2 l n2 ver2)=>
   match Nat.beq ver ver2,elT P t,eI P t with
   |true,some te,some (none,e,_)=>
    if h:(Ty.list t2).beq (Ty.list te)=true then
     match ux P e with
     |some z=>match te.all z with|some zd=>(AAS (α:=te.D) (Ty.cast h l) i zd).bind λl'=>k (H.set id (.buf false te l' n2 ver2))|none=>none
     |none=>none
    else none
   |_,_,_=>none
  |_=>none
 |_,_=>none
def AFK(o:Oper):List Oper->Option (Nat×TypeId×Operand×Operand)
 |o2::_=>ABN o o2
 |[]=>none
def zV(P:Program)(cs:List RW)(call:Tn)(ops:Array Oper)(gs:List Nat)(sk:Bool):List Oper->Nat->Bc->Aq->(Bc->Aq->Option R)->Option R
 |[],_,env,H,k=>k env H
 |o::r,j,env,H,k=>
  match sk with
  |true=>zV P cs call ops gs false r (j+1) env H k
  |false=>
   match AFK o r with
   |some (d,t,x,lo)=>AHF P H t (JO env x) (JO env lo) λH'=>zV P cs call ops gs true r (j+1) (env.put d Vp) H' k
   |none=>
    match iR ops o.guard env with
    |some true=>
     match II (mj cs env H o.op) env H with
     |(env1,H1)=>yj P cs call env1 H1 o.op λv H'=>force (Oj j gs) v λv'=>zV P cs call ops gs false r (j+1) (env1.putO o.dst v') H' k
    |some false=>zV P cs call ops gs false r (j+1) (env.putO o.dst (.tup [])) H k
    |none=>none
end
def ov(H:Aq)(v:TV):Prop:= ∀id ver t n,Bs.own id ver t n∈v.refs-> ∀t' l n' ver',H[id]? ≠some (.buf false t' l n' ver')
structure E5(A:List Nat)(env:Bc)(H:Aq)(env':Bc)(H':Aq):Prop where
 step:CD H H'
 same: ∀t,t∉A->ov H (env.get t)->env'.get t=env.get t
def ov.step(h:CD G b)(d:e.ok G)(k:ov G e):ov b e:=by intro id a t n c;have hr:=d (.own id a t n) c;exact h.nb id hr.1 (k id a t n c)
theorem E5.refl(A:List Nat)(env:Bc)(H:Aq):E5 A env H env H:=⟨CD.refl H,λ_ _ _=>rfl⟩
def E5.trans{A B:List Nat}{d g i:Bc}{c e f:Aq}(ok: ∀p∈d,p.2.ok c)(a:E5 A d c g e)(b:E5 B g e i f):E5 (A++B) d c i f:=by refine⟨a.step.trans b.step,λt l k=>?_⟩;have j:=a.same t (λh=>l (Gb _ h)) k;rw[b.same t (λh=>l (M7 _ h)) (by rw[j];exact k.step a.step (qO ok t)),j]
def E5.mono{B:List Nat}(a:E5 O g b Y G)(h: ∀t,t∈O->t∈B):E5 B g b Y G:=⟨a.step,λt A f=>a.same t (λq=>A (h t q)) f⟩
def xK{t u:Nat}(h:u≠t): ∀env:Bc,(Bc.del t env).get u=env.get u
 |[]=>rfl
 |(k,v)::r=>by simp only[Bc.del];by_cases a:k=t;subst a;rw[HB];simp only[Bc.get,beq_false (O7 h)];exact xK h r;rw[beq_false a];simp only[Bc.get];rw[xK h r]
def pD(h:n≠N):(g.put N e).get n=g.get n:=by simp_all[Bc.put,Bc.get,beq_false,O7,xK]
theorem xR{p:Nat×TV}{t:Nat}: ∀{env:Bc},p∈Bc.del t env->p∈env
 |(k,v)::r,h=>by simp only[Bc.del]at h;split at h;exact CQ _ (xR h);rcases A8.1 h with rfl|h;simp;exact CQ _ (xR h)
theorem iZ{d:Option Nat}(h: ∀p∈g,p.2.ok b)(H:e.ok b): ∀p∈g.putO d e,p.2.ok b:=by
 cases d with
 |none=>exact h
 |some t=>intro p a;rcases A8.1 a with rfl|a;exact H;grind[xR]
def oZ{l:List t.D}(g:b[N]? =some (.buf false t l n U))(j: ∀a f e d,v= .own a f e d-> ∀i l2 h c,b[a]? ≠some (.buf false i l2 h c)):Nr N U t l v=v:=by
 cases v with
 |own a f e d=>simp only[Nr];split<;>simp_all
 |_=>rfl
mutual
theorem tm{H:Aq}{id n k:Nat}{t:Ty}{l:List t.D}(d:H[id]? =some (.buf false t l n k)): ∀{v:TV},ov H v->od id k t l v=v
 | .c z,h=>by simp only[od];rw[oZ d λa j i f e=>h a j i f (by simp[TV.refs,e])]
 | .g b,h=>by
  simp only[od,TV.g.injEq];have: ∀b:List Bs,(∀a j i f,Bs.own a j i f∈b-> ∀s l2 q m,H[a]? ≠some (.buf false s l2 q m))->b.map (Nr id k t l)=b:=by
   intro b;induction b with
   |nil=>intro _;rfl
   |cons z r p=>intro h;rw[Bt,p λa j i f o=>h a j i f (by simp[o]),oZ d λa j i f e=>h a j i f (by simp[e])]
  exact this b h
 | .tup vs,h=>by simp only[od];rw[rI d (vs:=vs) h]
 | .aptr ..,_=>rfl
 | .bptr ..,_=>rfl
 | .vptr ..,_=>rfl
theorem rI{H:Aq}{id n c:Nat}{t:Ty}{l:List t.D}(b:H[id]? =some (.buf false t l n c)): ∀{vs:List TV},ov H (.tup vs)->gn id c t l vs=vs
 |[],_=>rfl
 |v::r,h=>by simp only[gn];rw[tm b (v:=v) λa g f e d=>h a g f e (by simp only[TV.refs,TV.refsL,A1];exact .inl d),rI b (vs:=r) λa g f e d=>h a g f e (by simp only[TV.refs,TV.refsL,A1]at d⊢;exact .inr d)]
end
def ABZ{f:TV->TV}(a:f Vp=Vp)(t:Nat): ∀env:Bc,Bc.get (env.map λp=>(p.1,f p.2)) t=f (env.get t)
 |[]=>a.symm
 |(k,v)::r=>by simp only[Bt,Bc.get];split;rfl;exact ABZ a t r
def ADo(h:frz N g b=some (Y,G))(t:Nat)(d:ov b (g.get t)):Y.get t=g.get t:=by unfold frz at h;split at h;rename_i e l n H a;obtain⟨rfl,rfl⟩:=h;rw[ABZ (f:=od N H e l) rfl];exact tm a d;cases h
def Rk: ∀(a:List Nat) {env:Bc} {H:Aq},Qs env H→Qs (II a env H).1 (II a env H).2∧E5 [] env H (II a env H).1 (II a env H).2∧
  ∀N,Fv N (BH H).length (B9 env) (BH H) (B9 (II a env H).1) (BH (II a env H).2)
 |[],env,H,ok=>⟨ok,E5.refl _ _ _,λN=>Fv.refl N _ _⟩
 |id::r,env,H,ok=>by simp only[II];split;rename_i e h b;obtain⟨f,c,j⟩:=AHN ok b;obtain⟨g,i,k⟩:=Rk r f;refine⟨g,(E5.trans (A:=[]) (B:=[]) ok.env ⟨c,λt _ d=>ADo b t d⟩ i),λN=>(j N).trans ((k N).of_le (by rw[CR,CR];exact c.len))⟩;exact Rk r ok
section
variable {P:Program} {N:Nat} {R:Type}
def ABE(P:Program)(args:List AY)(H:Az)(v:AY)(H':Az):Tgt->Prop
 | .fn F=>EM P F args H (C6 v H')
 | .yd id=> ∀(N:Nat) (o:Oper) (c:Call) (f:Operand) (env:Env),o.op= .call c->c.callee= .value f->BJ env f= .yf id->c.args.toList.map (BJ env)=args->JM P N o env H (C6 v H')
def Xl(P:Program)(call:Tn):Prop:= ∀{R:Type} tg vs H (k:TV->Aq->Option R) r,(∀v∈vs,v.ok H)->(∀e∈H,e.ok H)->call tg vs H k=some r->
 ∃v H',ABE P (vs.map TV.enc) (BH H) v.enc (BH H') tg/\k v H'=some r/\v.ok H'/\(∀e∈H',e.ok H')/\CD H H'
theorem kv(h:iR j q g=some true){B:Prop}(a:V):YW j q (B9 g) V B:=by unfold iR at h;grind[YW,Wx,VC,TV.enc,Bs.one]
theorem ot(h:iR j q g=some false){B:Prop}(b:B):YW j q (B9 g) V B:=by unfold iR at h;unfold YW;split at h;cases h;rename_i a c;unfold Wx;split at h;rename_i d f;simp only[f,VC];split at h;grind[TV.enc,Bs.one];rename_i e;simp[e];exact b;cases h;cases h
theorem xM(e: ∀d b,g.get d= .c (.bl b)->Y.get d= .c (.bl b))(h:iR j q g=some true):iR j q Y=some true:=by cases q<;>grind[iR]
theorem tZ: ∀{a:List RW} {F:FuncId} {c:RW},ABU a F=some c->c∈a/\c.f=F
 |d::r,F,c,h=>by simp only[ABU]at h;split at h;simp_all;obtain⟨b,e⟩:=tZ h;grind
theorem td: ∀{a:List RW} {F:FuncId} {b:List TV} {c:RW},tc a F b=some c->c∈a/\c.f=F
 |d::r,F,b,c,h=>by simp only[tc]at h;split at h;simp_all;obtain⟨e,g⟩:=td h;grind
theorem wo{e:Op}(h:lY g e=some (S,m)):Go.Ab.callT (BJ (B9 g)) e=some (.inl (S,m.map TV.enc))/\ ∀H,(∀p∈g,p.2.ok H)-> ∀v∈m,v.ok H:=by
 unfold lY at h;split at h;rename_i c;split at h;rename_i f d;split at h;rename_i G first a b
 simp at h;obtain⟨rfl,rfl⟩:=h;have j:BJ (B9 g) f= .fn (.func G) first a:=by rw[LC,b];rfl
 have k: ∀l:List AY,(l.map tvA).map TV.enc=l:=by
  intro l;conv=>rhs;rw[<-fD l]
  grind[List.map_congr_left,im]
 refine⟨?_,λH F v i=>?_⟩;simp_all[Go.Ab.callT,LC];simp at i;grind[lI,gf];cases h;cases h;cases h
theorem zj{c:Call}(h:uw g c=some (N,m)):(∃f,c.callee= .value f/\BJ (B9 g) f= .yf N/\c.args.toList.map (BJ (B9 g))=m.map TV.enc)/\ ∀H,(∀p∈g,p.2.ok H)-> ∀v∈m,v.ok H:=by unfold uw at h;split at h;rename_i f a;split at h;rename_i i b;injection h with h;injection h with d e;subst d e;refine⟨⟨f,a,by rw[LC,b];rfl,?_⟩,λH j v k=>?_⟩;grind[List.map_congr_left,LC];grind[gf];cases h;cases h
def AHk{k:TV->Aq->Option R}{r:R}(ok:Qs g b)(h:quT P g b o.op (λv=>k v b)=some r): ∀F,pI P N o g b F k r:=by intro F;obtain⟨v,a,H,c⟩:=wM ok h;exact⟨v,b,Dc a ⟨rfl,rfl⟩,H,c,ok.heap,CD.refl b,Frame.refl F b⟩
theorem vC(H:Aq):BH (H.map Dr.lock)=BH H:=by grind[BH,List.map_congr_left,uN]
theorem zE(h: ∀e∈b,e.ok b): ∀e∈b.map Dr.lock,e.ok (b.map Dr.lock):=by
 have f: ∀id a t n,WE b id a t n->WE (b.map Dr.lock) id a t n:=λid a t n q=>by
  refine⟨by simpa using q.1,λro y l w k c=>?_⟩;rw[CE]at c;cases j:b[id]? with
  |none=>grind
  |some e=>
   rw[j]at c;simp at c;cases e<;>simp only[Dr.lock]at c<;>first|(cases c;done)|skip
   injection c with _ m v o p;subst m o p;exact q.2 _ _ _ _ _ j
 have d: ∀x:Bs,x.ok b->x.ok (b.map Dr.lock):=λx i=>by
  cases x with
  |own id a t n=>exact f _ _ _ _ i
  |_=>trivial
 intro e c;obtain⟨u,r,rfl⟩:=Bl.1 c;have g:=h u r;cases u with
 |dead=>trivial
 |live H s=>exact λx i=>d x (g x i)
 |buf=>exact g
 |lp=>exact g
 |mp=>exact g
theorem ADP(L: ∀e∈b,e.ok b)(st:CD (b.map Dr.lock) G)(F: ∀e∈G,e.ok G):
  (∀v:TV,v.ok G->v.ok (Wk b G))/\(∀e∈Wk b G,e.ok (Wk b G))/\CD b (Wk b G)/\ ∀x:Cx,Ul x x (BH G) (BH (Wk b G)):=by
 have K:b.length<=G.length:=by simpa using st.len
 have c:(Wk b G).length=G.length:=by grind[Wk,List.length_append,List.length_drop]
 have o: ∀j,j<b.length->(Wk b G)[j]? =b[j]? :=λj p=>CL p;have I: ∀j,b.length<=j->(Wk b G)[j]? =G[j]? :=λj p=>by grind[Wk]
 have keep: ∀(j:Nat) (e:Dr),b[j]? =some e->e≠ .dead->G[j]? =some e.lock:=λj e p a=>by apply st.ro j e.lock (by rw[CE,p];rfl);cases e<;>first|rfl|exact(a rfl).elim
 have A: ∀id f t n,WE G id f t n->WE (Wk b G) id f t n:=λid f t n q=>by refine⟨by rw[c];exact q.1,λro P l O D d=>?_⟩;rcases Au id b.length with h|h;rw[o id h]at d;exact q.2 _ _ _ _ _ (keep id _ d k!);rw[I id h]at d;exact q.2 _ _ _ _ _ d
 have k: ∀x:Bs,x.ok G->x.ok (Wk b G):=λx C=>by
  cases x with
  |own id f t n=>exact A _ _ _ _ C
  |_=>trivial
 have B:CD b (Wk b G):=by refine⟨by rw[c];exact K,λid f t n q=>⟨by rw[c];exact C7 q.1 K,λro P l O D d=>?_⟩,λid e d _=>?_,λid w h=>by rw[o id w];exact h,λid w _ _ _ _ _ _ _ _ h=>by rw[o id w]at h;exact⟨_,_,h⟩⟩;rw[o id q.1]at d;exact q.2 _ _ _ _ _ d;grind
 refine⟨λv N x C=>k x (N x C),λe d=>?_,B,λx=>⟨by rw[CR,CR,c],λj Q p=>?_⟩⟩;rcases A1.1 d with d|d;exact B.ent (L e d);have E:=F e (WI d);cases e with
 |dead=>trivial
 |live H s=>exact λx C=>k x (E x C)
 |buf=>exact E
 |lp=>exact E
 |mp=>exact E
 rw[E6]at p;cases J:(Wk b G)[j]? with
 |none=>grind
 |some y=>
  rw[J]at p;simp at p;subst p;have same:(BH G)[j]? =some y.enc->y.enc= .dead\/(∃g s u,(BH G)[j]? =some (.live g s)/\y.enc= .live g u/\u.length=s.length/\ ∀(i:Nat) (z:AY),u[i]? =some z-> ∃v,s[i]? =some v/\Conv x x v z)\/((BH G)[j]? =some y.enc/\ ∀g s,y.enc≠ .live g s):=λh=>by
   cases y with
   |dead=>exact .inl rfl
   |live H s=>exact .inr (.inl ⟨_,_,_,h,rfl,rfl,λi z h=>⟨z,h,λ_ r=>r⟩⟩)
   |buf H t l m f=>exact .inr (.inl ⟨_,_,_,h,rfl,rfl,λi z h=>⟨z,h,λ_ r=>r⟩⟩)
   |lp=>exact .inr (.inr ⟨h,λ_ _ h=>by cases h⟩)
   |mp=>exact .inr (.inr ⟨h,λ_ _ h=>by cases h⟩)
  rcases Au j b.length with h|h;rw[o j h]at J;by_cases M:y= .dead;subst M;exact .inl rfl;grind[E6,uN];grind[E6]
theorem rF{u:List RW}(y: ∀c∈u,c.Ok P){i:Tn}(l:Xl P i){k:TV->Aq->Option R}{r:R}(ok:Qs g b)(h:yj P u i g b o.op k=some r):pI P N o g b (xG u g b o.op) k r:=by
 have s: ∀t,o.op=t->quT P g b t (λv=>k v b)=some r-> ∀F,pI P N o g b F k r:=λt e h=>AHk ok q!;generalize a:o.op=t at h;unfold yj at h;split at h;exact wj ok a h;exact AAB ok a h;exact xr ok a h;exact nu ok a h;exact qX ok a h;grind[uR];exact qY ok a h;grind[vJ];split at h;exact uv ok a h;grind;rename_i c;split at h;rename_i F q m;obtain⟨K,C⟩:=wo m;split at h;rename_i x;split at h;rename_i L n;obtain⟨M,O⟩:=td n;obtain⟨v,d,q1,q2,q3,q4,q5,q6⟩:=yT (y L M) (C b ok.env) ok.heap h;rw[O]at q1;exact⟨v,d,o6 q! x q1,q2,q3,q4,q5,by simp only[xG,m,n];exact q6⟩;rename_i n;split at h;rename_i H;have A:q=[]:=by cases q<;>first|rfl|cases H
 subst A;obtain⟨v,d,q1,q2,q3,q4,q5⟩:=l (.fn F) [] (b.map Dr.lock) _ r (λv Q=>by cases Q) (zE ok.heap) h;obtain⟨E,G,I,J⟩:=ADP ok.heap q5 q4;have B:EM P F [] (BH b) (C6 v.enc (BH d)):=by grind[ABE,vC]
 refine⟨v,Wk b d,JM.after (o6 q! x B) λX W w _=>?_,q2,E v q3,G,I,?_⟩;have hr:=(J (cx X W (BH d) w)).onto;exact⟨hr,λc r=>r.later hr.later⟩;simp only[xG,m,n];exact λj p _=>CL p;rename_i H;obtain⟨v,d,q1,q2,q3,q4,q5⟩:=l (.fn F) q b k r (C b ok.env) ok.heap h;have z:=H;exact⟨v,d,o6 (by rw[a];exact K) x q1,q2,q3,q4,q5,by simp only[xG,m,n,z];exact λj p hn=>(hn (Hj.2 p)).elim⟩;cases h;rename_i m;split at h;rename_i id q D;obtain⟨⟨f,S,T,U⟩,V⟩:=zj D;obtain⟨v,d,q1,q2,q3,q4,q5⟩:=l (.yd id) q b k r (V b ok.env) ok.heap h;exact⟨v,d,q1 N o c f (B9 g) a S T U,q2,q3,q4,q5,by simp only[xG,m,D];exact λj p hn=>(hn (Hj.2 p)).elim⟩;grind[u5,Nat.eq_of_beq_eq_true,xG];grind
theorem nO{k:TV->Option R}{r:R}(h:force A e k=some r):k e=some r:=by unfold force at h;grind
def oO(ops:List Oper):List Nat:=ops.filterMap (·.dst)
def tQ{b:Oper}{d:Nat}(h:ABN o b=some (d,a,L,c)):o.dst=some d/\o.op= .slice a L (some c) none none/\o.guard=none/\b.dst=none/\b.op= .call {callee:=.builtin .clear,args:= #[.tmp d],argTypes:= #[a]}/\b.guard=none:=by unfold ABN at h;split at h;rename_i e f g i j k;split at h<;>simp_all;cases h
def vn{a:Ty}{z:List AY}{b:a.D}(h:DW z (a.enc b).cells): ∀n:Nat,DW (List.replicate n z).flatten (a.E.cl (List.replicate n b))
 |0=>DW.refl _
 |n+1=>by exact DW.append h (vn h n)
theorem AAF{o1 o2:Oper}{d:Nat}{t:TypeId}{x lo:Operand}{env:Bc}{H:Aq}{k:Aq→Option R}{r:R}(ok:Qs env H)(hc:ABN o1 o2=some (d,t,x,lo))(h:AHF P H t (JO env x) (JO env lo) k=some r):
  ∃v G,JM P N o1 (B9 env) (BH H) (C6 v (BH H))/\JM P N o2 ((B9 env).put d v) (BH H) (C6 (.tup []) (BH G))/\k G=some r/\(∀e∈G,e.ok G)/\CD H G:=by
 obtain⟨_,c2,_,c4,U,_⟩:=tQ hc;unfold AHF at h;split at h;rename_i id c t0 n0 kk i hx Z;split at h;rename_i a l b ao y;split at h;rename_i te e ar hb ag F;split at h;rename_i S;split at h;rename_i z hz;split at h;rename_i zd al;obtain⟨w,o,h⟩:=Db.1 h;have T:=DR hb;subst T;have u:=Ty.beq_eq _ _ S;injection u with u;subst u;have B:(Ty.cast S l:List a.D)=l:=rfl;rw[B]at o;have hr:WE H id c t0 n0:=by have:=gf ok.env x;rw[hx]at this;exact this (.own id c t0 n0) (by simp[TV.refs])
 obtain⟨_,q⟩:=hr.2 _ _ _ _ _ y;obtain⟨rfl,rfl⟩:=q rfl;have hn:b=l.length:=ok.heap _ (BU y);obtain⟨e',I,M⟩:=kT ag;rw[I]at F;injection F with F;injection F with _ F;injection F with X Y;subst X Y;obtain⟨z1,z2⟩:=ZP hz;have p:=Fa al;have C:(lvs z).length=a.sz:=by rw[<-p.1,a.enc_len]
 unfold AAS at o;split at o;rename_i hi;injection o with o;have O:CD H (H.set id (.buf false a w b c)):=CD.set y rfl λ_ _ _ _ _ e=>q!
 have J:Dr.ok (H.set id (.buf false a w b c)) (.buf false a w b c):=by show b=w.length;grind
 have m:(BH H)[id]? =some (.live b (a.E.cl l)):=by rw[E6,y];rfl
 have A:id<(BH H).length:=q!
 have ex:BJ (B9 env) x= .sl id b a.sz 0 b:=by rw[LC,hx];rfl
 have el:BJ (B9 env) lo= .int kk i:=by rw[LC,Z];rfl
 have W:Tm (BH H) id b=true:=by simp[Tm,m]
 have s: ∀v,BJ ((B9 env).put d v) (.tmp d)=v:=λv=>by simp[BJ,Env.put,Env.get]
 have j:=a.E.clen l;have Q:a.E.sz=a.sz:=rfl;rw[Q]at j;have ad:CO P (B9 env) (BH H) o1.op=some (if i.toNat=0 then .sl id b a.sz 0 b else if i.toNat=b then .vs a.sz []else .sl id b a.sz (0+i.toNat*a.sz) (b-i.toNat)):=by
  rw[c2];have b1:Xn 0 (some (AY.int kk i))=some i.toNat:=by grind[Xn,uU]
  have b2: ∀n,Xn n none=some n:=λ_=>rfl;simp only[CO,ex,el,Bn,Option.map_none,lG,b1,b2,I];rw[if_pos ⟨trivial,a.sz_pos,o!,Am _,Am _,W,k!⟩];grind
 have g: ∀V,a.E.cl l=V->(BH H).set id (.live b V)=BH H:=λV ap=>by apply I2;grind
 have f:DW (W7 (a.E.cl l) (i.toNat*a.sz) (List.replicate (b-i.toNat) (lvs z)).flatten) (a.E.cl w):=by
  have e1:a.E.cl w=a.E.cl (l.take i.toNat)++a.E.cl (List.replicate (b-i.toNat) zd):=by grind[Ur.cl]
  have e2:(a.E.cl l).take (i.toNat*a.sz)=a.E.cl (l.take i.toNat):=by
   have e3:a.E.cl l=a.E.cl (l.take i.toNat)++a.E.cl (l.drop i.toNat):=by grind[List.take_append_drop,Ur.cl]
   have e4:(a.E.cl (l.take i.toNat)).length=i.toNat*a.sz:=by rw[a.E.clen,BM,Q];grind
   grind
  have e5:(a.E.cl l).drop (i.toNat*a.sz+(List.replicate (b-i.toNat) (lvs z)).flatten.length)=[]:=by apply lP;simp[C];rw[<-FG];grind
  unfold W7;rw[e1,e2,e5,D4];exact(DW.refl _).append (vn p _)
 have L:JM P N o2 ((B9 env).put d (if i.toNat=0 then .sl id b a.sz 0 b else if i.toNat=b then .vs a.sz []else .sl id b a.sz (0+i.toNat*a.sz) (b-i.toNat))) (BH H) (C6 (.tup []) (BH (H.set id (.buf false a w b c)))):=by
  have e6:BH (H.set id (.buf false a w b c))=(BH H).set id (.live b (a.E.cl w)):=by rw[N7];rfl
  rw[e6];by_cases h0:i.toNat=0;rw[if_pos h0];refine JM.set_less A ?_ f;have:=JM.clear (N:=N) (K:=C6 (.tup []) _) U c4 I M z1 C (s (.sl id b a.sz 0 b)) m (by rw[j,hn];omega) ⟨rfl,rfl⟩;grind;rw[if_neg h0];by_cases h1:i.toNat=b;rw[if_pos h1];have e7:w=l:=t!
  rw[e7,g _ rfl];exact sA U (Q5 I).1 (s _) ⟨rfl,rfl⟩;rw[if_neg h1];refine JM.set_less A ?_ f;have:=JM.clear (N:=N) (K:=C6 (.tup []) _) U c4 I M z1 C (s (.sl id b a.sz (0+i.toNat*a.sz) (b-i.toNat))) m (by rw[j,<-hn,D7,<-FG];apply O6;omega) ⟨rfl,rfl⟩;grind
 exact⟨_,_,Dc ad ⟨rfl,rfl⟩,L,h,Vg O ok.heap J,O⟩;grind;cases h;cases h;cases h;cases h;cases h;cases h
def AEq:Fv N (BH b).length ((B9 g).put n u) (BH b) (B9 (g.put n Vp)) (BH b):=by
 refine Wf rfl λX H w s=>⟨Ul.refl _ _,λt f m=>?_⟩
 rw[oP]at m;rcases A8.1 m with e|m;injection e with a d;subst a d;exact⟨u,Iy,λc _=>.any c⟩;exact⟨f,CQ _ m,λ_ r=>r⟩
theorem ia{J:List RW}(m: ∀c∈J,c.Ok P){p:Tn}(l:Xl P p){D:Array Oper}{gs:List Nat}: ∀(os:List Oper) (j:Nat) (env:Bc) (H:Aq) (k:Bc→Aq→Option R) (r:R),Qs env H→zV P J p D gs false os j env H k=some r→
  ∃f i,XC P N D os (B9 env) (BH H) (λe h=>e=B9 f/\h=BH i)/\k f i=some r/\Qs f i/\E5 (oO os) env H f i
 |[],j,env,H,k,r,ok,h=>⟨env,H,⟨_,_,Fv.refl _ _ _,rfl,rfl⟩,h,ok,E5.refl _ _ _⟩
 |o::os,j,env,H,k,r,ok,h=>by
  simp only[zV]at h;have B: ∀{e:Bc} {h:Aq} {v:TV},E5 (oO [o]) e h (e.putO o.dst v) h:=by
   intro e h v;refine⟨CD.refl h,λt U _=>?_⟩;cases hd:o.dst with
   |none=>rfl
   |some d=>refine pD λe=>U ?_;simp[oO,hd,e]
  have z: ∀t,t∈oO [o]++oO os->t∈oO (o::os):=by grind[oO]
  split at h;rename_i d t x lo y;cases os with
  |nil=>cases y
  |cons o2 E=>
   have hc:=y;obtain⟨c1,c2,c3,c4,c5,c6⟩:=tQ hc;obtain⟨v,C,M,w2,T,W,st⟩:=AAF (N:=N) ok hc h;have g:Qs (env.put d Vp) C:=⟨iZ (d:=some d) (st.env ok.env) il,W⟩
   obtain⟨f,i,L,Y,F,G⟩:=ia m l E (j+1+1) _ C k r g T;refine⟨f,i,⟨B9 env,BH H,Fv.refl N _ _,?_⟩,Y,F,?_⟩;rw[c3];apply JM.mono M;rintro u _ ⟨rfl,rfl⟩;rw[c1];refine⟨(B9 env).put d u,BH H,Fv.refl N _ _,?_⟩;rw[c6];apply JM.mono w2;rintro _ _ ⟨rfl,rfl⟩;rw[c4];exact XC.weak AEq L;have Z:E5 (oO [o]) env H (env.put d Vp) C:=by exact⟨st,λu hu _=>pD λe=>hu (by simp[oO,c1,e])⟩
   refine(E5.trans ok.env Z G).mono λu hu=>?_;grind[oO,List.mem_cons_of_mem]
  split at h;rename_i S;obtain⟨K,t1,M⟩:=Rk (mj J env H o.op) ok;generalize II (mj J env H o.op) env H=q at h K t1 M;obtain⟨env1,C⟩:=q;obtain⟨v,I,e1,e2,e3,e4,e5,_⟩:=rF (N:=N) m l K h;have O:=nO e2;have g:Qs (env1.putO o.dst v) I:=⟨iZ (e5.env K.env) e3,e4⟩
  obtain⟨f,i,L,E,F,G⟩:=ia m l os (j+1) _ I k r g O;refine⟨f,i,?_,E,F,?_⟩;refine⟨B9 env1,BH C,M N,kv ?_ ?_⟩;exact xM (λd b hb=>by rw[t1.same d (λh=>by cases h) (by rw[hb];intro id ag t n hm;simp[TV.refs]at hm),hb]) S;exact λrr X h0 a w s Q=>Wd (e1 rr X h0 a w s Q) (by rintro a' w' ⟨c,u,h',ad,ha,⟨rfl,rfl⟩,V,hs,hx⟩;exact⟨c,_,h',_,ha,by show XC P N D os ((B9 env1).putO o.dst v.enc) (BH I) _;rw[<-YO];exact L,V,hs,hx⟩);have Z:E5 (oO [o]) env1 C (env1.putO o.dst v) I:=by exact⟨e5,λt U T=>(B (h:=C)).same t U T⟩
  have:=(E5.trans (A:=[]) ok.env t1 (E5.trans K.env Z G))
  exact this.mono z;rename_i S;have g:Qs (env.putO o.dst (.tup [])) H:=⟨iZ ok.env (Rq λv V=>by cases V),ok.heap⟩
  obtain⟨f,i,L,E,F,G⟩:=ia m l os (j+1) _ H k r g h;refine⟨f,i,⟨B9 env,BH H,Fv.refl N _ _,ot S ?_⟩,E,F,(E5.trans ok.env B G).mono z⟩;have:(B9 env).putO o.dst (.tup [])=B9 (env.putO o.dst (.tup [])):=by rw[YO];rfl
  grind;cases h
end
end Go.Ab
