/- Texts of wip, joined and shortened by wip/tools/pack.py; nothing is assumed. -/
import Derived.Test.YtdjfjcnheopcdaaGreatK2
import Derived.Laws.IdiomRangeMap
noncomputable section
set_option linter.all false
namespace Go.Ab
def UZ(H:Ap)(id ver:Nat)(t:Ty)(n:Nat):Prop:=
 id<H.length/\ ∀ro t' l n' ver',H[id]? =some (.buf ro t' l n' ver')->ver<=ver'/\(ver=ver'->t'=t/\n'=n)
def Bu.ok(H:Ap):Bu->Prop
 | .own id ver t n=>UZ H id ver t n
 |_=>True
def lok(H:Ap)(cs:List Bu):Prop:= ∀x∈cs,x.ok H
mutual
def TV.refs:TV->List Bu
 | .c x=>[x]
 | .g cs=>cs
 | .aptr .. =>[]
 | .bptr id ver t n _ _=>[.own id ver t n]
 | .vptr cs _=>cs
 | .tup vs=>TV.refsL vs
def TV.refsL:List TV->List Bu
 |[]=>[]
 |v::r=>v.refs++TV.refsL r
end
def TV.ok(H:Ap)(v:TV):Prop:=lok H v.refs
def Ds.ok(H:Ap):Ds->Prop
 | .live _ cs=>lok H cs
 | .buf _ _ l n _=>n=l.length
 | .dead=>True
 | .lp _ _ _ env _ _ _ _=> ∀p∈env,∀id ver t n,Bu.own id ver t n∉p.2.refs
 | .mp .. =>True
structure PE(env:Bd)(H:Ap):Prop where
 env: ∀p∈env,p.2.ok H
 heap: ∀e∈H,e.ok H
variable {a I W:TypeId}{N n U:Nat}{b G:Ap}{c L:Operand}{d:List Bu}{e T:TV}{P:Program}{t:Ty}{g Y:Bd}{i Q:List AZ}{w:World}{j:Array Oper}{m:List TV}{p Z:Ax}{o:Oper}{q:Option (Nat×Bool)}{h:Gh}{s:Env}{u:AZ}{X:Nat->Prop}{v:Bu}{z:IntKind}{A:Bool}{x y:Cx}{B:Nat→Prop}{C:Option TV}{D:Ds}{E:Array (Nat×Operand)}{F:Int}{J:List (Int×AZ)}{R:Type}{M:Act}{O:List Nat}{S:FuncId}{V:Prop}
theorem Iw{H:List Bu}:lok b (d++H)↔lok b d/\lok b H:=by grind[lok]
theorem ADC:lok b []:=λ_ h=>by cases h
def sP{v:TV}: ∀{l:List TV},v∈l-> ∀x∈v.refs,x∈TV.refsL l
 |w::r,a,x,hx=>by simp only[TV.refsL,Ao];rcases Av.1 a with rfl|a;exact .inl hx;exact .inr (sP a x hx)
def ms(h:(TV.tup m).ok b)(H:e∈m):e.ok b:=λx c=>h x (by simp only[TV.refs];exact sP H x c)
def Qg{H:Ap}: ∀{vs:List TV},(∀v∈vs,v.ok H)->(TV.tup vs).ok H
 |[],_=>λx a=>by simp[TV.refs,TV.refsL]at a
 |v::r,h=>by have:=Qg (vs:=r) λw b=>h w (by simp[b]);intro x a;simp only[TV.refs,TV.refsL,Ao]at a;rcases a with a|a;exact h v k! x a;exact this x a
theorem ma(h: ∀p∈g,p.2.ok b)(t:Nat):(g.get t).ok b:=by
 induction g with
 |nil=>intro x a;simp only[Bd.get,Rv,TV.refs,BC]at a;subst a;trivial
 |cons p r H=>grind[Bd.get]
theorem xw(v:Value):(AAs v).ok b:=by
 cases v with
 |pointer p=>cases p<;>trivial
 |slice a l c=>
  cases a with
  |some _=>trivial
  |none=>
   match l,c with
   |0,0=>trivial
   |0,_+1=>trivial
   |_+1,_=>trivial
 |_=>trivial
def dz:Rv.ok b:=λx a=>by simp only[Rv,TV.refs,BC]at a;subst a;trivial
theorem Js{H:Ap}(h:v.ok H):(TV.c v).ok H:=λy a=>by grind[TV.refs]
theorem AEn(v:Value):(cvT v).ok b:=by
 cases v with
 |agg a=>
  simp only[cvT];cases h:a.toList.all (·.oneCell')with
  |false=>exact dz
  |true=>intro x H;grind[TV.refs,xw]
 |_=>exact Js (xw _)
theorem Y5{H:Ap}(h: ∀p∈g,p.2.ok H)(x:Operand):(Is g x).ok H:=by
 cases x with
 |tmp t=>exact ma h t
 |const v=>exact AEn v
 |global _=>exact dz
 |func f=>exact Js trivial
theorem Gi(a b:List Bu):lvs (a++b)=lvs a++lvs b:=Zt
theorem HX(x:Bu)(b:List Bu):lvs (x::b)=x.enc++lvs b:=Iq
theorem bc: ∀a:List Bu,(lvs a).length=AB9 a
 |[]=>rfl
 |x::r=>by rw[HX,Ag,x.enc_len,bc r];rfl
def ON: ∀{c:List Bu} {n:Nat} {a b:List Bu},Vq c n=some (a,b)->c=a++b/\(lvs a).length=n
 |c,0,a,b,h=>by cases c<;>simp only[Vq]at h<;>obtain⟨rfl,rfl⟩:=h<;>exact⟨rfl,rfl⟩
 |x::r,n+1,a,b,h=>by simp only[Vq]at h;split at h;rename_i e;split at h;rename_i g i f;obtain⟨rfl,rfl⟩:=h;obtain⟨j,d⟩:=ON f;rw[HX,Ag,d,x.enc_len];simp_all;cases h;cases h
mutual
theorem Ty.lvs_enc: ∀(t:Ty) (x:t.D),lvs (t.lvs x)=(t.enc x).cells
 | .bool,_=>rfl
 | .int _,_=>rfl
 | .str,_=>rfl
 | .list _,_=>rfl
 | .arr n t,a=>by simp only[Ty.lvs,lvs,Iq,lz,Db,Bu.enc]
 | .prod ts,x=>by simp only[Ty.lvs,Ty.enc,AZ.cells];exact ts.lvs_cells x
theorem RJ.lvs_cells: ∀(a:RJ) (x:a.D),Go.Ab.lvs (a.lvs x)=a.cells x
 | .one t,x=>by simp only[RJ.lvs,RJ.cells];exact t.lvs_enc x
 | .cons t a,x=>by simp only[RJ.lvs,RJ.cells];rw[Gi,t.lvs_enc,a.lvs_cells]
end
mutual
theorem Ty.lvs_ok{H:Ap}: ∀(t:Ty) (x:t.D),lok H (t.lvs x)
 | .bool,_=>λy b=>by simp only[Ty.lvs,BC]at b;subst b;trivial
 | .int _,_=>λy b=>by simp only[Ty.lvs,BC]at b;subst b;trivial
 | .str,_=>λy b=>by simp only[Ty.lvs,BC]at b;subst b;trivial
 | .list _,_=>λy b=>by simp only[Ty.lvs,BC]at b;subst b;trivial
 | .arr n t,a=>λy b=>by simp only[Ty.lvs,BC]at b;subst b;trivial
 | .prod ts,x=>by simp only[Ty.lvs];exact ts.lvs_ok x
theorem RJ.lvs_ok{H:Ap}: ∀(a:RJ) (x:a.D),lok H (a.lvs x)
 | .one t,x=>by simp only[RJ.lvs];exact t.lvs_ok x
 | .cons t a,x=>by simp only[RJ.lvs];exact Iw.2 ⟨t.lvs_ok _,a.lvs_ok _⟩
end
def MA(h:v.scalar=true):v.enc=[v.one]:=by
 cases v with
 |ar n t a=>cases h
 |_=>rfl
def Bu.scalar_cells(h:v.scalar=true):v.one.cells=[v.one]:=by
 cases v with
 |ar n t a=>cases h
 |raw x=>cases x<;>first|rfl|cases h
 |_=>rfl
theorem Qh(h:part P a d N=some e):
  (∃n,tI P a=some (true,n)/\N+n<=(lvs d).length/\e.enc= .agg (((lvs d).drop N).take n)\/tI P a=some (false,n)/\(lvs d)[N]? =some e.enc)/\ ∀H,lok H d->e.ok H:=by
 unfold part at h;split at h;rename_i t r l;obtain⟨rfl,j⟩:=ON l;split at h;rename_i n i;split at h;rename_i b c g;obtain⟨rfl,k⟩:=ON g;injection h with h;subst h;refine⟨⟨n,.inl ⟨i,?_,?_⟩⟩,λH f=>?_⟩;simp only[Gi,Ag];omega;simp only[TV.enc,Gi,AZ.agg.injEq];rw[<-j,QW,<-k,Wi];exact(Iw.1 (Iw.1 f).2).1;cases h;rename_i n i;split at h;rename_i x r;split at h;rename_i m;injection h with h;subst h;refine⟨⟨n,.inr ⟨i,?_⟩⟩,λH f=>Js ((Iw.1 f).2 x k!)⟩;rw[Gi,HX,MA m,Ch o!];simp[j,TV.enc];cases h;cases h;cases h;cases h
def iL(h:part P a d N=some e)
  (hr: ∀n,N+n<=(lvs d).length->PZ p u n=some (((lvs d).drop N).take n)):eJ P a p u=some e.enc:=by
 obtain⟨⟨n,c|c⟩,_⟩:=Qh h;obtain⟨i,g,t⟩:=c;simp only[eJ,i,hr n g,Bl,t];obtain⟨i,t⟩:=c;have k:N<(lvs d).length:=by rcases Aw N (lvs d).length with f|f;exact f;rw[Cn f]at t;cases t
 simp only[eJ,i,hr 1 o!,AD];rw[List.head?_take,List.head?_drop,t];rfl
theorem nY(h:Vp b N=some d): ∃ro,b[N]? =some (.live ro d):=by grind[Vp]
theorem FC(H:Ap)(id:Nat):(BJ H)[id]? =(H[id]?).map Ds.enc:=CD
theorem po(h:Vp b N=some d):(BJ b)[N]? =some (.live 0 (lvs d)):=by obtain⟨ro,H⟩:=nY h;rw[FC,H];rfl
def ADA(H: ∀e∈b,e.ok b)(h:Vp b N=some d):lok b d:=by obtain⟨ro,c⟩:=nY h;exact H _ (BP c)
def wS{l:List t.D}(h:fS b N n t=some l): ∃ro a,b[N]? =some (.buf ro t l a n):=by unfold fS at h;split at h;rename_i ro i j a d e;split at h;rename_i g;have c:=DG g;subst c;split at h;rename_i f;have H:=f;have:=Ty.beq_eq i t H;subst this;injection h with h;refine⟨ro,a,?_⟩;rw[e,<-h];rfl;cases h;cases h;cases h
def kJ{l:List t.D}(d: ∀e∈b,e.ok b)(hr:UZ b N U t n)(h:fS b N U t=some l):(BJ b)[N]? =some (.live n (t.E.cl l))/\l.length=n:=by obtain⟨ro,f,H⟩:=wS h;obtain⟨_,c⟩:=hr.2 _ _ _ _ _ H;obtain⟨_,rfl⟩:=c rfl;have:f=l.length:=d _ (BP H);refine⟨?_,this.symm⟩;rw[FC,H];rfl
def wN{a:Hf (n+1) t.D}(h:AAW d N n t=some a): ∃c b,d=c++(.ar n t a::b)/\(lvs c).length=N:=by unfold AAW at h;split at h;rename_i c l m k b i;split at h;rename_i j;have:=Ty.beq_eq _ _ j;injection this with e f;subst e f;injection h with h;obtain⟨e,f⟩:=ON i;refine⟨c,b,?_,f⟩;rw[e,<-h];rfl;cases h;cases h
theorem Zy(n:Nat)(t:Ty)(a:Hf (n+1) t.D):(Bu.ar n t a).enc=br (n+1) t.E a:=rfl
section
variable {P:Program} {R:Type} {H:Ap} {k:TV->Option R} {r:R}
theorem VP(h:okT C k=some r): ∃v,C=some v/\k v=some r:=by unfold okT at h;grind
theorem eC(v:AZ):(z7 v).enc=v:=by cases v<;>rfl
theorem gb(v:AZ):(z7 v).ok H:=by cases v<;>exact Js trivial
theorem gS{o:Option AZ}(h:okA o k=some r): ∃v,o=some v/\k (z7 v)=some r:=by unfold okA at h;grind
theorem iC{o:Option R}(h:cond A none o=some r):A=false/\o=some r:=q!
theorem nZ(C: ∀t∈H,t.ok H)(D:e.ok H)(h:loadT P H a e k=some r): ∃u,eJ P a (BJ H) e.enc=some u.enc/\k u=some r/\u.ok H:=by
 unfold loadT at h;split at h;rename_i id g;split at h;rename_i B q;obtain⟨u,f,o⟩:=VP h;refine⟨u,iL f λn c=>?_,o,(Qh f).2 H (ADA C q)⟩;grind[TV.enc,Bu.one,PZ,po];cases h;rename_i B d;obtain⟨u,f,o⟩:=VP h;refine⟨u,iL f λn c=>?_,o,(Qh f).2 H D⟩;simp only[TV.enc,PZ];grind;rename_i id p n b i g;split at h;rename_i B q;split at h;rename_i v G;obtain⟨t,z,h⟩:=Dt.1 h;obtain⟨u,f,o⟩:=VP h;obtain⟨j,d,rfl,s⟩:=wN G;refine⟨u,iL f λm c=>?_,o,(Qh f).2 H (b.lvs_ok t)⟩;rw[b.lvs_enc,b.enc_len]at c;obtain⟨w,x⟩:=AAT b.E (lvs j) (lvs d) z c;have F:lvs (j++(.ar n b v::d))=lvs j++br (n+1) b.E v++lvs d:=by rw[Gi,HX,Zy,A2]
 simp only[TV.enc,PZ,po q,F];have y:p+i.toNat*b.sz+g=(lvs j).length+i.toNat*b.E.sz+g:=by rw[s];rfl
 rw[y,if_pos ⟨trivial,w⟩,x,b.lvs_enc];rfl;cases h;cases h;rename_i id A b n i g;split at h;rename_i l q;obtain⟨t,z,h⟩:=Dt.1 h;obtain⟨u,f,o⟩:=VP h;obtain⟨y,_⟩:=kJ C (D (.own id A b n) (by simp[TV.refs])) q;refine⟨u,iL f λm c=>?_,o,(Qh f).2 H (b.lvs_ok t)⟩;rw[b.lvs_enc,b.enc_len]at c;obtain⟨w,x⟩:=AEd b.E z c;simp only[TV.enc,PZ,y];rw[if_pos ⟨trivial,w⟩];show some (List.take m (List.drop (i.toNat*b.E.sz+g) (b.E.cl l)))=_;rw[x,b.lvs_enc];rfl;cases h;cases h
theorem wP{i:BinOp}(h:AEe P i a e T k=some r): ∃u,ue P i a e.enc T.enc=some u.enc/\k u=some r/\u.ok H:=by
 unfold AEe at h;split at h;rename_i n x o b;simp only[TV.enc,Bu.one,ue];split at h;obtain⟨c,h⟩:=iC h;have d: ¬b<0:=by simpa using c
 refine⟨_,?_,h,Js trivial⟩;grind[gX,TV.enc,Bu.one];obtain⟨c,h⟩:=iC h;have d: ¬b<0:=by simpa using c
 refine⟨_,?_,h,Js trivial⟩;grind[gX,TV.enc,Bu.one];split at h;rename_i t;obtain⟨c,h⟩:=iC h;have d: ¬b=0:=by simpa using c
 refine⟨_,?_,h,Js trivial⟩;grind[mB,TV.enc,Bu.one];cases h;split at h;rename_i t;obtain⟨c,h⟩:=iC h;have d: ¬b=0:=by simpa using c
 refine⟨_,?_,h,Js trivial⟩;grind[mB,TV.enc,Bu.one];cases h;grind[gS,gb,eC];rename_i x b;simp only[TV.enc,Bu.one,ue];split at h;split at h;rename_i t;exact⟨_,by simp only[if_pos t,TV.enc,Bu.one],h,Js trivial⟩;cases h;split at h;rename_i t;exact⟨_,by simp only[if_pos t,TV.enc,Bu.one],h,Js trivial⟩;cases h;cases h;rename_i x b;simp only[TV.enc,Bu.one,ue];split at h;obtain⟨s,j,h⟩:=Dt.1 h;exact⟨_,by simp only[sm,TV.enc,Bu.one];exact AE2 j,h,Js trivial⟩;grind[gS,eC,gb];rename_i l bs;split at h;rename_i m f;split at h;rename_i g;simp only[TV.enc,ue,f,if_pos g];split at h;exact⟨_,by simp only[TV.enc,Bu.one,eqT],h,Js trivial⟩;exact⟨_,by simp only[TV.enc,Bu.one,eqT],h,Js trivial⟩;cases h;cases h;cases h;cases h
def zu{a:UnOp}(h:unT a e k=some r): ∃u,unV a e.enc=some u.enc/\k u=some r/\u.ok H:=by unfold unT at h;split at h;obtain⟨e,b,h⟩:=gS h;exact⟨_,by rw[eC];exact b,h,gb e⟩;cases h
def AFm(l:List Int):(Ty.int .u8).E.cl l=l.map (tH .u8).f:=by
 unfold TI.cl;induction l with
 |nil=>rfl
 |cons n l a=>simp only[Bv,Iq,a];rfl
def zA:Vv P p I a (.int z F)=Vv P [] I a (.int z F):=by unfold Vv;cases kd P a<;>rfl
def zB{s:List UInt8}:Vv P p I a (.str s)=Vv P [] I a (.str s):=by unfold Vv;cases kd P a<;>rfl
def uk(g: ∀d∈H,d.ok H)(c:e.ok H)(h:AAn P H I a e k=some r): ∃u,Vv P (BJ H) I a e.enc=some u.enc/\k u=some r/\u.ok H:=by
 unfold AAn at h;split at h;rename_i l;split at h;rename_i b;exact⟨_,ABS l b.1 b.2,h,Js trivial⟩;cases h;rename_i id f n;split at h;rename_i b;split at h;rename_i l j;obtain⟨i,hn⟩:=kJ g (c (.own id f (.int .u8) n) (by simp[TV.refs])) j;refine⟨_,?_,h,Js trivial⟩;simp only[TV.enc,Bu.one,Vv,b.1,b.2,if_true,rowsOf,i];rw[if_pos ⟨trivial,rfl,by rw[(Ty.int .u8).E.clen,hn];show 0+n<=n*1;omega⟩];have:((Ty.int .u8).E.cl l).length=n:=by rw[(Ty.int .u8).E.clen,hn];exact Nat.mul_one n
 rw[gr,<-this,Hj,AFm];exact congrArg (Option.map AZ.str) (uO l);cases h;cases h;obtain⟨e,c,h⟩:=gS h;exact⟨_,by rw[eC];exact zA.trans c,h,gb e⟩;obtain⟨e,c,h⟩:=gS h;exact⟨_,by rw[eC];exact zB.trans c,h,gb e⟩;cases h
end
section
variable {P:Program} {R:Type} {H:Ap} {k:TV->Option R} {r:R}
theorem fo(h:Vp H N=some d):SP (BJ H) N 0=true:=by simp[SP,po h]
def tD{l:List t.D}(b: ∀e∈H,e.ok H)(hr:UZ H N U t n)(h:fS H N U t=some l):SP (BJ H) N n=true:=by simp[SP,(kJ b hr h).1]
theorem mO(x: ∀s∈H,s.ok H)(g:e.ok H)(h:jk P H N n e k=some r): ∃u,Un P (BJ H) N n e.enc=some u.enc/\k u=some r/\u.ok H:=by
 unfold jk at h;split at h;rename_i B t f z;split at h;cases h;rename_i hn;have d:f≠0:=λs=>t!
 unfold Un;simp only[z,if_neg d];split at h;rename_i id o;split at h;rename_i p c;exact⟨_,by simp only[TV.enc,Bu.one,shift,fo c,if_true],h,Js trivial⟩;cases h;rename_i p q;split at h;rename_i a b A;obtain⟨rfl,y⟩:=ON A;refine⟨_,?_,h,(Iw.1 g).2⟩;simp only[TV.enc,shift];rw[if_pos (by simp only[Ag,Gi];omega),Gi,A2,<-y,QW];cases h;rename_i id m f w i o;split at h;rename_i p c;refine⟨_,?_,h,λ_ h=>by cases h⟩;grind[TV.enc,shift,fo];cases h;rename_i id j w f i o;split at h;rename_i l c;refine⟨_,?_,h,g⟩;simp only[TV.enc,shift,tD x (g (.own id j w f) (by simp[TV.refs])) c,if_true,bm];cases h;cases h;cases h
theorem tu(h:part P a d N=some e)(c: ∀t,N+t<=(lvs d).length->n+t<=i.length/\(i.drop n).take t=((lvs d).drop N).take t):qF P a i n=some e.enc:=by grind[Qh,qF,List.head?_take,List.head?_drop]
theorem tK(d:e.ok H)(h:wZ P N n e k=some r): ∃u,pF P N n e.enc=some u.enc/\k u=some r/\u.ok H:=by unfold wZ at h;split at h;rename_i s t f g a;obtain⟨u,c,b⟩:=VP h;refine⟨u,?_,b,(Qh c).2 H d⟩;simp only[pF,a,TV.enc];grind[tu];cases h
theorem oY{a:Hf n R}{x:R}(h:GA a F=some x):0<=F/\F<n:=by obtain⟨c,j,rfl,_⟩:=lZ h;grind
theorem mg(s: ∀t∈H,t.ok H)(C:e.ok H)(h:jp P H a e T k=some r): ∃u,Us P (BJ H) a e.enc T.enc=some u.enc/\k u=some r/\u.ok H:=by
 unfold jp at h;split at h;rename_i L T;simp only[TV.enc,Bu.one,Us];split at h;rename_i len z sz p;simp only[p];split at h;rename_i id D;split at h;rename_i G m;split at h;rename_i F n b v g K;split at h;rename_i d;obtain⟨rfl,rfl⟩:=d;obtain⟨t,c,h⟩:=Dt.1 h;refine⟨_,?_,h,λ_ h=>by cases h⟩;rw[if_pos (oY c)];simp only[TV.enc,Bu.one,shift,fo m,if_true,P0];cases h;cases h;cases h;rename_i n b v M g;split at h;rename_i d;obtain⟨rfl,rfl⟩:=d;obtain⟨t,c,h⟩:=Dt.1 h;refine⟨_,?_,h,b.lvs_ok t⟩;rw[if_pos (oY c)];obtain⟨_,o,q,_⟩:=AAY b.E c [] [];simp only[By,Db,Ba,EL]at o q;have B:T.toNat*b.sz+b.sz<=(br (n+1) b.E v).length:=o;simp only[TV.enc,shift,HX,Zy];rw[if_pos q!];rw[b.lvs_enc,A2,lu o!];have y:(br (n+1) b.E v).drop (T.toNat*b.sz)=(b.enc t).cells++(br (n+1) b.E v).drop (T.toNat*b.sz+b.sz):=by rw[<-Nf];have I:((br (n+1) b.E v).drop (T.toNat*b.sz)).take b.sz=(b.enc t).cells:=q;grind[List.take_append_drop]
 rw[y,A2];rfl;cases h;cases h;rename_i z sz p;simp only[p];split at h;rename_i b l;split at h;rename_i d;subst d;obtain⟨t,c,h⟩:=Dt.1 h;obtain⟨q1,q2⟩:=AGk (f:=b.enc) c;refine⟨_,?_,h,b.lvs_ok t⟩;simp only[TV.enc,Bu.one];rw[if_pos ⟨q1,trivial⟩,q2,b.lvs_enc,Db];rfl;cases h;rename_i id j b n;split at h;rename_i l m;split at h;rename_i d;subst d;obtain⟨t,c,h⟩:=Dt.1 h;have hr:=C (.own id j b n) (by simp[TV.refs]);obtain⟨J,hn⟩:=kJ s hr m;refine⟨.bptr id j b n T 0,?_,h,λx w=>by simp only[TV.refs,BC]at w;subst w;exact hr⟩;obtain⟨_,_,_,_,A,o,_,_⟩:=o7 b.E c;simp only[TV.enc,Bu.one];rw[if_pos ⟨A,o!,trivial,tD s hr m⟩,EL,P0];cases h;cases h;cases h;cases h;cases h
theorem kV{e:TypeId}{sz:Nat}{cs:List Bu}{i:Int}(b:lok H cs): ∀{m j:Nat},su P e sz cs i k m j=some r-> ∃u,(0<=i/\i<((j+m:Nat):Int))/\qF P e (lvs cs) (i.toNat*sz)=some u.enc/\k u=some r/\u.ok H
 |m+1,j,h=>by
  simp only[su]at h;cases a:decide (i=Int.ofNat j)with
  |true=>
   rw[a]at h;have f:i=(j:Int):=q!
   obtain⟨u,d,c⟩:=VP h;refine⟨u,o!,?_,c,(Qh d).2 H b⟩;grind[tu]
  |false=>rw[a]at h;obtain⟨u,q1,q2⟩:=kV b (m:=m) (j:=j+1) h;grind
theorem tU(A:e.ok H)(h:wg P a e T k=some r): ∃u,gQ P a e.enc T.enc=some u.enc/\k u=some r/\u.ok H:=by
 unfold wg at h;split at h;rename_i B T;split at h;rename_i n c v;split at h;rename_i len x sz o;split at h;rename_i z;obtain⟨rfl,rfl⟩:=z;obtain⟨t,p,h⟩:=Dt.1 h;obtain⟨u,q,f⟩:=VP h;refine⟨u,?_,f,(Qh q).2 H (c.lvs_ok t)⟩;simp only[TV.enc,Bu.one,gQ,o];rw[if_pos (oY p)];refine tu q λm d=>?_;rw[c.lvs_enc,c.enc_len,EL]at d;obtain⟨j,l⟩:=AAT c.E (off:=0) [] [] p (m:=m) (by rw[EL];exact d);simp at j l;have w:lvs [Bu.ar n c v]=br (n+1) c.E v:=by grind[Zy,lvs]
 rw[w,c.lvs_enc,gr];exact⟨j,l⟩;cases h;cases h;rename_i g _;split at h;rename_i len x sz o;split at h;obtain⟨u,q1,q2,q3⟩:=kV (cs:=g) (H:=H) A h;grind[TV.enc,Bu.one,gQ];cases h;cases h;rename_i s;split at h;rename_i f;obtain⟨b,y,h⟩:=Dt.1 h;exact⟨_,by simp only[TV.enc];exact AF1 y f,h,Js trivial⟩;cases h;cases h;cases h
theorem kI{d:Nat}(h:yw d C=some F)(a:0<=F):V1 d (C.map TV.enc)=some F.toNat:=by unfold yw at h;grind[V1,TV.enc,Bu.one,pz]
theorem uK{i m:Option TV}(h:xT P a e C i m k=some r): ∃u,gY P (BJ H) a e.enc (C.map TV.enc) (i.map TV.enc) (m.map TV.enc)=some u.enc/\k u=some r/\u.ok H:=by unfold xT at h;split at h;cases h;split at h;rename_i s;split at h;rename_i l w g b;split at h;rename_i y;obtain⟨x,c,h⟩:=Dt.1 h;refine⟨_,?_,h,Js trivial⟩;unfold RF at c;split at c;rename_i v;simp only[TV.enc,Bu.one,gY,kI (d:=0) g v.1,kI b (lh v.1 v.2.1)];grind;cases c;cases h;cases h;rename_i z f;split at h;rename_i l w A sz g b q;split at h;rename_i y;obtain⟨x,c,h⟩:=Dt.1 h;refine⟨_,?_,h,Js trivial⟩;unfold X8 at c;split at c;rename_i v;have t:(f.map z.enc).length=f.length:=Bs _;have n:=kI (d:=0) g v.1;have o:=kI b (lh v.1 v.2.1);have p:V1 f.length none=some f.length:=rfl;simp only[TV.enc,Bu.one,gY,t,n,o,p,q];grind[List.map_take,List.map_drop];cases c;cases h;cases h;cases h
def wk(d: ∀t∈H,t.ok H)(g:e.ok H)(h:AEx P H a e k=some r): ∃u,pn P (BJ H) a e.enc=some u.enc/\k u=some r/\u.ok H:=by unfold AEx at h;split at h;rename_i s v;exact⟨_,by simp only[pn,v,TV.enc,Bu.one],h,Js trivial⟩;rename_i n t v;exact⟨_,by simp only[pn,v,TV.enc,Bu.one],h,Js trivial⟩;rename_i b l t v;exact⟨_,by simp only[pn,v,TV.enc,Bu.one,Bs],h,Js trivial⟩;rename_i t id c b n v;split at h;rename_i l f;refine⟨_,?_,h,Js trivial⟩;simp only[pn,v,TV.enc,Bu.one];cases h;rename_i t v;exact⟨_,by simp only[pn,v,TV.enc,Bu.one],h,Js trivial⟩;cases h
end
def XX(h:e.words=some d):e.enc.solid=true/\e.enc.cells=lvs d/\ ∀H,e.ok H->lok H d:=by unfold TV.words at h;split at h;rename_i x;split at h;rename_i a;simp at a;injection h with h;subst h;refine⟨a.2,?_,λH b=>b⟩;rw[HX,MA a.1];exact Bu.scalar_cells a.1;cases h;injection h with h;subst h;exact⟨rfl,rfl,λH b=>b⟩;cases h
theorem iO{f c:List Bu}{e n:Nat}(h:zo d e f n=some c)(hn:(lvs f).length=n):lvs c=VS (lvs d) e (lvs f)/\e+n<=(lvs d).length/\ ∀H,lok H d->lok H f->lok H c:=by unfold zo at h;split at h;rename_i a r i;obtain⟨rfl,l⟩:=ON i;split at h;rename_i m b g;obtain⟨rfl,o⟩:=ON g;refine⟨?_,by simp only[Gi,Ag];omega,λH j k=>?_⟩;grind[VS,Gi];grind[Iw];cases h;cases h
mutual
theorem Ty.zlvs_ok{H:Ap}: ∀t:Ty,lok H t.zlvs
 | .bool=>λy a=>by simp only[Ty.zlvs,BC]at a;subst a;trivial
 | .int _=>λy a=>by simp only[Ty.zlvs,BC]at a;subst a;trivial
 | .str=>λy a=>by simp only[Ty.zlvs,BC]at a;subst a;trivial
 | .list _=>λy a=>by simp only[Ty.zlvs,BC]at a;subst a;trivial
 | .arr n t=>λy a=>by simp only[Ty.zlvs,BC]at a;subst a;trivial
 | .prod b=>by simp only[Ty.zlvs];exact b.zlvs_ok
theorem RJ.zlvs_ok{H:Ap}: ∀a:RJ,lok H a.zlvs
 | .one t=>by simp only[RJ.zlvs];exact t.zlvs_ok
 | .cons t a=>by simp only[RJ.zlvs];exact Iw.2 ⟨t.zlvs_ok,a.zlvs_ok⟩
end
def zQ(v:AZ):(rp v).enc=[v]:=by cases v<;>rfl
theorem ABD(v:AZ):(rp v).ok b:=by cases v<;>trivial
theorem mi: ∀z:List AZ,lvs (z.map rp)=z
 |[]=>rfl
 |v::r=>by rw[Bv,HX,mi r,zQ];rfl
theorem yR(z:List AZ):lok b (z.map rp):=λx a=>by grind[ABD]
theorem Xb(h:qa P a=some d):XZ P a=some (lvs d)/\ ∀H,lok H d:=by unfold qa at h;split at h;rename_i z b;split at h;rename_i e t;split at h;rename_i c;injection h with h;subst h;exact⟨by rw[b,gx _ _ c],λH=>e.zlvs_ok⟩;grind[mi,yR];grind[mi,yR];cases h
theorem pG{p:YV}: ∀{a:List (Nat×TV)} {c b:List Bu},uy p c a=some b->nS p (lvs c) (a.map λq=>(q.1,q.2.enc))=some (lvs b)/\ ∀H,lok H c->(∀q∈a,q.2.ok H)->lok H b
 |[],c,b,h=>by simp only[uy,Am]at h;subst h;exact⟨rfl,λH h _=>h⟩
 |(i,v)::r,c,b,h=>by simp only[uy]at h;split at h;rename_i m size z t l;split at h;rename_i k;have e:=DG k;split at h;rename_i s d;obtain⟨x,y,o⟩:=XX l;obtain⟨u,w,n⟩:=iO d (by rw[bc,e]);obtain⟨q1,q2⟩:=pG h;refine⟨?_,λH g f=>q2 H (n H g (o H (f (i,v) k!))) λq j=>f q (by simp[j])⟩;grind[nS,bc];cases h;cases h;cases h
section
variable {P:Program} {R:Type} {env:Bd} {H:Ap} {k:TV->Option R} {r:R}
theorem uf{v:List (Nat×TV)}(h:wT P a v=some e):om P a (v.map λq=>(q.1,q.2.enc))=some e.enc/\((∀q∈v,q.2.ok H)->e.ok H):=by unfold wT at h;split at h;rename_i z p t j;obtain⟨k,f⟩:=Xb t;rw[SC]at h;obtain⟨g,c,rfl⟩:=h;obtain⟨i,b⟩:=pG c;refine⟨?_,λd=>b H (f H) d⟩;grind[om,TV.enc];cases h
def mu: ∀{l:List TV} {m:List AZ},qJ l=some m->m=l.map TV.enc
 |[],m,h=>by simp only[qJ,Am]at h;subst h;rfl
 | .c x::r,m,h=>by simp only[qJ]at h;split at h;rename_i b _ a;injection h with h;subst h;rw[Bv,<-mu a];rfl;cases h
 | .g _::_,m,h=>by simp[qJ]at h
 | .aptr .. ::_,m,h=>by simp[qJ]at h
 | .bptr .. ::_,m,h=>by simp[qJ]at h
 | .vptr .. ::_,m,h=>by simp[qJ]at h
 | .tup _::_,m,h=>by simp[qJ]at h
def sE(h:mmT A e T k=some r): ∃u,mmV A [e.enc,T.enc]=some u.enc/\k u=some r/\u.ok H:=by unfold mmT at h;split at h;exact⟨_,by simp only[TV.enc,Bu.one,mmV],h,Js trivial⟩;cases h
def wz{z:TV}(h:AEy e T z k=some r): ∃u,mm3 e.enc T.enc z.enc=some u.enc/\k u=some r/\u.ok H:=by unfold AEy at h;split at h;exact⟨_,by simp only[TV.enc,Bu.one,mm3],h,Js trivial⟩;cases h
theorem sO{F:Op}(ok:PE env H)(h:quT P env H F k=some r): ∃v,Cb P (B4 env) (BJ H) F=some v.enc/\k v=some r/\v.ok H:=by
 have j: ∀x,(Is env x).ok H:=Y5 ok.env;have g:=JW env;unfold quT at h;split at h;grind[Cb];grind[Cb];rename_i c a b;split at h;rename_i t K;have w:BL (B4 env) c= .bool t:=by rw[g,K];rfl
 grind[Cb,Bool.false_eq_true];cases h;obtain⟨u,d,e⟩:=nZ ok.heap (j _) h;grind[Cb];rename_i x;split at h;grind[BL,B4,Cb,fo,TV.enc,Bu.one,Js];grind[BL,B4,Cb,TV.enc,Bu.one,Js];grind[BL,B4,lvs,Cb,TV.enc];grind[BL,B4,Cb,fo,TV.enc];rename_i id D G n i B s;split at h;rename_i l A;have w:BL (B4 env) x= .ptr id n (i.toNat*G.sz+B):=by rw[g,s];rfl
 have:=j x;rw[s]at this;exact⟨_,by simp only[Cb,w,tD ok.heap (this (.own id D G n) (by simp[TV.refs])) A,if_true,TV.enc],h,this⟩;cases h;cases h;simp_all[wP,Cb];obtain⟨u,d,e⟩:=zu (H:=H) h;exact⟨u,by simp only[Cb,g,d],e⟩;obtain⟨u,d,e⟩:=uk ok.heap (j _) h;exact⟨u,by simp only[Cb,g,d],e⟩;obtain⟨u,d,e⟩:=mO ok.heap (j _) h;exact⟨u,by simp only[Cb,g,d],e⟩;obtain⟨u,d,e⟩:=tK (j _) h;exact⟨u,by simp only[Cb,g,d],e⟩;obtain⟨u,d,e⟩:=mg ok.heap (j _) h;exact⟨u,by simp only[Cb,g,d],e⟩;obtain⟨u,d,e⟩:=tU (H:=H) (j _) h;exact⟨u,by simp only[Cb,g,d],e⟩;rename_i t x Q O R;obtain⟨u,d,e⟩:=uK (H:=H) h;have q: ∀o:Option Operand,o.map (BL (B4 env))=(o.map (Is env)).map TV.enc:=by
  intro o;cases o with
  |none=>rfl
  |some y=>simp only[Bl,g]
 exact⟨u,by simp only[Cb,g,q,d],e⟩;rename_i x i;split at h;rename_i N s;split at h;rename_i v z;have w:BL (B4 env) x= .tup (N.map TV.enc):=by rw[g,s];simp only[TV.enc,pB]
 have E:=j x;rw[s]at E;exact⟨v,by simp only[Cb,w,CD,z,Bl],h,ms E (BP z)⟩;cases h;cases h;rename_i f a b;split at h;rename_i l m A L;refine⟨_,?_,h,Js trivial⟩;have q: ∀o:List Operand,o.map (BL (B4 env))=(o.map (Is env)).map TV.enc:=by intro o;rw[Mf];exact Me λy _=>g y
 simp only[Cb,q,<-mu A,<-mu L,TV.enc,Bu.one];cases h;rename_i t C;obtain⟨v,z,h⟩:=VP h;obtain⟨I,J⟩:=uf (H:=H) z;refine⟨v,?_,h,J λq M=>?_⟩;simp only[Cb];rw[<-I,Mf];congr 1;exact Me λp _=>by simp only[Function.comp,g]
 obtain⟨p,_,rfl⟩:=Bh.1 M;exact j _;obtain⟨u,d,e⟩:=wk ok.heap (j _) h;exact⟨u,by simp only[Cb,g,d],e⟩;obtain⟨u,d,e⟩:=sE (H:=H) h;exact⟨u,by simp only[Cb,g,d],e⟩;obtain⟨u,d,e⟩:=sE (H:=H) h;exact⟨u,by simp only[Cb,g,d],e⟩;obtain⟨u,d,e⟩:=wz (H:=H) h;exact⟨u,by simp only[Cb,g,d],e⟩;cases h
end
def Conv(x y:Cx)(v v':AZ):Prop:= ∀c,Bp x v c->Bp y v' c
def TG(x y:Cx)(H H2:Ax):Prop:=
 H2.length=H.length/\ ∀(j:Nat) (e':FZ),H2[j]? =some e'->e'= .dead\/
  (∃g cs cs',H[j]? =some (.live g cs)/\e'= .live g cs'/\cs'.length=cs.length/\ ∀(i:Nat) (v':AZ),cs'[i]? =some v'-> ∃v,cs[i]? =some v/\Conv x y v v')\/
  (H[j]? =some e'/\ ∀g cs,e'≠ .live g cs)
theorem TG.refl(x:Cx)(H:Ax):TG x x H H:=by
 refine⟨rfl,λj a d=>?_⟩;cases a with
 |live g c=>exact .inr (.inl ⟨g,c,c,d,rfl,rfl,λi v b=>⟨v,b,λ_ r=>r⟩⟩)
 |_=>grind
theorem TG.own{H d:Ax}{h:Gh}(hr:TG x y H d): ∀B,owned h d B->owned h H B:=by rintro B ⟨j,f,i,c,a⟩;rcases hr.2 j f i with b|⟨g,k,e,b,_⟩|⟨b,_⟩;grind;exact⟨j,_,b,k!,a⟩;exact⟨j,_,b,c,a⟩
def TG.later{h:Gh}{H a:Ax}{w:World}{x y:Cx}(hr:TG x y H a):(cx X h H w).Later (cx X h a w):={size:=Aq _,keep:=λ_ _ _ _=>rfl,own:=λB _ b=>b.imp _root_.id (hr.own B),n:=by simp[cx,hr.1],gen:=λ_ _=>Aq _,same:=λ_ _ _=>⟨rfl,rfl⟩}
theorem Ix.rel{X:Nat->Prop}(s:Ix X h p w)(hr:TG (cx X h p w) (cx X h Z w) p Z):Ix X h Z w:=by
 have y:=hr.own (h:=h);have M:(cx X h p w).Later (cx X h Z w):=hr.later;have back: ∀{j:Nat} {e:FZ},Z[j]? =some e->e≠ .dead-> ∃N,p[j]? =some N/\N≠ .dead:=by intro j e l ad;rcases hr.2 j e l with a|⟨g,z,C,a,_⟩|⟨a,_⟩;grind;grind;grind
 refine⟨λB H=>⟨(s.out B H).1,λho=>(s.out B H).2 (y B ho)⟩,λj Q C l=>?_,λj L l=>?_,λi j e e' B a c J K O D=>?_,s.bldKeep λj e l H=>?_⟩;rcases hr.2 j _ l with a|⟨g,z,o,a,c,O,D⟩|⟨_,a⟩;cases a;injection c with R S;subst R S;obtain⟨I,W⟩:=s.live j Q z a;refine⟨I,?_⟩;rcases W with⟨k,h0⟩|⟨B,A,T,P,f,k,V,q,n,G,b⟩;refine .inl ⟨k,?_⟩;grind;refine .inr ⟨B,A,T,P,f,k,V,q,o!,G,λi v' Y=>?_⟩;obtain⟨v,hv,U⟩:=D i v' Y;obtain⟨p1,p2,p3⟩:=b i v hv;exact⟨p1,p2,U _ p3⟩;grind;rcases hr.2 j _ l with a|⟨g,z,o,_,c,_⟩|⟨a,_⟩;cases a;cases c;obtain⟨I,B,r,q1,q2,q3,q4,q5,q6,q7,q8,q9⟩:=s.lp j L a;exact⟨I,B,r,q1,q2,q3,q4,q5,q6,q7,q8,λt v m=>⟨(q9 t v m).1,(q9 t v m).2.later M⟩⟩;obtain⟨d,E,F⟩:=back a J;obtain⟨d',u,x⟩:=back c K;exact s.inj i j _ _ B E u F x O D;refine⟨?_,rfl,rfl,rfl,λ_ _ _ _ _=>rfl⟩;rcases hr.2 j _ l with a|⟨g,z,o,_,c,_⟩|⟨a,_⟩;subst a;cases H;subst c;cases H;exact a
theorem TG.onto(hr:TG (cx X h p w) (cx X h p w) p Z):TG (cx X h p w) (cx X h Z w) p Z:=by have e:(cx X h p w).Later (cx X h Z w):=hr.later;refine⟨hr.1,λj k H=>?_⟩;rcases hr.2 j k H with d|⟨g,f,b,d,l,m,n⟩|d;grind;refine .inr (.inl ⟨g,f,b,d,l,m,λi q o=>?_⟩);obtain⟨v,q1,q2⟩:=n i q o;exact⟨v,q1,λc r=>(q2 c r).later e⟩;grind
def Uz{env2:Env}(f:Z.length=p.length)(hr: ∀X h w,Ix X h p w→TG (cx X h p w) (cx X h Z w) p Z∧ ∀t c,(t,c)∈env2→ ∃v,(t,v)∈s∧Conv (cx X h p w) (cx X h Z w) v c):
  Fz N p.length s p env2 Z:=by
 refine⟨o!,λX h a w H=>?_⟩;obtain⟨q1,q2⟩:=hr X h w H.sim;refine⟨h,⟨H.sim.rel q1,λt c m=>?_,H.size⟩,λ_ _=>⟨rfl,rfl,rfl⟩,q1.own⟩;obtain⟨v,d,e⟩:=q2 t c m;exact⟨(H.env t v d).1,e _ (H.env t v d).2⟩
def TG.ext{X:Nat->Prop}{c:Gh}{H a b:Ax}{d:World}(hr:TG x y H b)(e:HC c a d h H w):HC c a d h b w where
 os:=e.os
 tape:=e.tape
 output:=e.output
 size:=e.size
 keep:=e.keep
 n:=by rw[hr.1];exact e.n
 gen:=e.gen
 same:=e.same
 fresh B hB:=e.fresh B (hr.own B hB)
 loops:=e.loops
def JC.after{N:Nat}{H:Ax}{v f:AZ}{H1 b:Ax}(h:JC P N o s H (C6 v H1))
  (hr: ∀X h w,Ix X h H1 w->TG (cx X h H1 w) (cx X h b w) H1 b/\Conv (cx X h H1 w) (cx X h b w) v f):JC P N o s H (C6 f b):=by
 intro r X g a w p Q;apply Uv (h r X g a w p Q);rintro n l ⟨c,u,d,m,i,⟨rfl,rfl⟩,j,e,k⟩;obtain⟨q1,q2⟩:=hr X d l e;exact⟨c,_,d,_,i,⟨rfl,rfl⟩,q2 _ j,e.rel q1,TG.ext (X:=X) q1 k⟩
def JC.before{N:Nat}{env2:Env}{H H2:Ax}{K:AZ->Ax->Prop}(b:Fz N H.length s H env2 H2)(h:JC P N o env2 H2 K):JC P N o s H K:=by intro r X g a w x Q;obtain⟨f,q,j,l⟩:=b.2 X g a w x;apply Uv (h r X f a w q Q);rintro t u ⟨c,v,e,d,i,k,n,m,p⟩;exact⟨c,v,e,d,i,k,n,m,(Fz.ext rfl b.1 j l (HC.refl g H w)).trans p⟩
def EJ.before{args args2:List AZ}{H H2:Ax}{K:AZ→Ax→Prop}(hn:args2.length=args.length)
  (hr: ∀X h w,Ix X h H w->TG (cx X h H w) (cx X h H2 w) H H2/\ ∀(j:Nat) (b:AZ),args2[j]? =some b-> ∃v,args[j]? =some v/\Conv (cx X h H w) (cx X h H2 w) v b)
  (h:EJ P S args2 H2 K):EJ P S args H K:=by
 intro X g w a s n k;obtain⟨q1,q2⟩:=hr X g w s;refine(h X g w a (s.rel q1) o! λj b c m l=>?_).mono ?_;obtain⟨v,o,d⟩:=q2 j b m;exact d _ (k j v c o l);rintro e t ⟨c,v,i,f,rfl,q,r,p,x⟩;exact⟨c,v,i,f,rfl,q,r,p,(TG.ext (X:=X) q1 (HC.refl g H w)).trans x⟩
def V0(v v':AZ):Prop:= ∀(x:Cx) (c:Value),Bp x v c->Bp x v' c
def V0.refl(v:AZ):V0 v v:=λ_ _ h=>h
def V0.nil{sz:Nat}(h:0<sz):V0 .nils (.vs sz []):=λ_ _ r=>r.nil_vs h
def Dc(cs cs':List AZ):Prop:=cs'.length=cs.length/\ ∀(i:Nat) (v':AZ),cs'[i]? =some v'-> ∃v,cs[i]? =some v/\V0 v v'
theorem Dc.refl(a:List AZ):Dc a a:=⟨rfl,λ_ v h=>⟨v,h,.refl v⟩⟩
theorem Dc.append{b f:List AZ}(c:Dc i Q)(g:Dc b f):Dc (i++b) (Q++f):=by refine⟨by simp[c.1,g.1],λa j h=>?_⟩;rcases Aw a Q.length with d|d;rw[CO d]at h;obtain⟨v,q1,q2⟩:=c.2 a j h;grind;rw[Ch d]at h;obtain⟨v,q1,q2⟩:=g.2 _ j h;exact⟨v,by rw[Ch (by rw[<-c.1];exact d),<-c.1];exact q1,q2⟩
theorem Dc.one{b:AZ}(h:V0 u b):Dc [u] [b]:=⟨rfl,λi v a=>by
 match i,a with
 |0,a=>grind
 |i+1,a=>simp at a⟩
def Dc.agg{b a:List AZ}(h:Dc b a):V0 (.agg b) (.agg a):=by
 intro x c r;cases r with
 |agg i e hr=>refine .agg (by rw[i,h.1]) e λj k d g f=>?_;obtain⟨v,q1,q2⟩:=h.2 j k g;exact q2 _ _ (hr j v d q1 f)
mutual
def Ty.mk:(t:Ty)->List Bu->Option (t.D×List Bu)
 | .bool,.bl b::r=>some (b,r)
 | .int k,.it k' n::r=>if k=k' then some (n,r)else none
 | .str,.st s::r=>some (s,r)
 | .list t,.ls t' l::r=>if h:(Ty.list t').beq (Ty.list t)=true then some (Ty.cast h l,r)else none
 | .list _,.nil::r=>some ([],r)
 | .arr n t,.ar n' t' a::r=>if h:(Ty.arr n' t').beq (Ty.arr n t)=true then some (Ty.cast h a,r)else none
 | .prod ts,ls=>ts.mk ls
 |_,_=>none
def RJ.mk:(ts:RJ)->List Bu->Option (ts.D×List Bu)
 | .one t,ls=>t.mk ls
 | .cons t ts,ls=>
  match t.mk ls with
  |some (x,r)=>match ts.mk r with|some (y,r')=>some ((x,y),r')|none=>none
  |none=>none
end
mutual
theorem Ty.mk_spec: ∀(t:Ty) (b:List Bu) (x:t.D) (r:List Bu),t.mk b=some (x,r)-> ∃a,b=a++r/\Dc (lvs a) (t.enc x).cells
 | .bool,b,x,r,h=>by
  cases b with
  |nil=>simp[Ty.mk]at h
  |cons y b=>
   cases y<;>simp only[Ty.mk]at h<;>try (cases h;done)
   simp only[Am,Du]at h;obtain⟨rfl,rfl⟩:=h;exact⟨[_],rfl,Dc.refl _⟩
 | .int k,b,x,r,h=>by
  cases b with
  |nil=>simp[Ty.mk]at h
  |cons y b=>
   cases y<;>simp only[Ty.mk]at h<;>try (cases h;done)
   split at h;rename_i f;subst f;simp only[Am,Du]at h;obtain⟨rfl,rfl⟩:=h;exact⟨[_],rfl,Dc.refl _⟩;cases h
 | .str,b,x,r,h=>by
  cases b with
  |nil=>simp[Ty.mk]at h
  |cons y b=>
   cases y<;>simp only[Ty.mk]at h<;>try (cases h;done)
   simp only[Am,Du]at h;obtain⟨rfl,rfl⟩:=h;exact⟨[_],rfl,Dc.refl _⟩
 | .list t,b,x,r,h=>by
  cases b with
  |nil=>simp[Ty.mk]at h
  |cons y b=>
   cases y<;>simp only[Ty.mk]at h<;>try (cases h;done)
   split at h;rename_i c;simp only[Am,Du]at h;obtain⟨rfl,rfl⟩:=h;refine⟨[_],rfl,?_⟩;have d:((Ty.list t).enc (Ty.cast c ‹_›))=_:=am c _;rw[d];exact Dc.refl _;cases h;simp only[Am,Du]at h;obtain⟨rfl,rfl⟩:=h;exact⟨[_],rfl,Dc.one (V0.nil t.sz_pos)⟩
 | .arr n t,b,x,r,h=>by
  cases b with
  |nil=>simp[Ty.mk]at h
  |cons y b=>
   cases y<;>simp only[Ty.mk]at h<;>try (cases h;done)
   split at h;rename_i c;simp only[Am,Du]at h;obtain⟨rfl,rfl⟩:=h;refine⟨[_],rfl,?_⟩;have d:((Ty.arr n t).enc (Ty.cast c ‹_›))=_:=am c _;rw[d];have e: ∀y:Bu,lvs [y]=y.enc:=λy=>by rw[HX];simp[lvs]
   rw[e];exact Dc.refl _;cases h
 | .prod ts,b,x,r,h=>ts.mk_spec b x r (by simpa only[Ty.mk]using h)
theorem RJ.mk_spec: ∀(d:RJ) (c:List Bu) (x:d.D) (r:List Bu),d.mk c=some (x,r)-> ∃a,c=a++r/\Dc (lvs a) (d.cells x)
 | .one t,c,x,r,h=>t.mk_spec c x r (by simpa only[RJ.mk]using h)
 | .cons t d,c,x,r,h=>by simp only[RJ.mk]at h;split at h;rename_i y e f;split at h;rename_i z k g;simp only[Am,Du]at h;obtain⟨rfl,rfl⟩:=h;obtain⟨a,rfl,i⟩:=t.mk_spec c y e f;obtain⟨b,rfl,j⟩:=d.mk_spec e z k g;exact⟨a++b,by rw[A2],by rw[Gi];exact i.append j⟩;cases h;cases h
end
def Ty.isAgg:Ty->Bool
 | .arr .. =>true
 | .prod _=>true
 |_=>false
def Ty.all(t:Ty)(ls:List Bu):Option t.D:=
 match t.mk ls with
 |some (x,[])=>some x
 |_=>none
theorem Fg{x:t.D}(h:t.all d=some x):Dc (Go.Ab.lvs d) (t.enc x).cells:=by unfold Ty.all at h;split at h;rename_i y c;obtain⟨a,rfl,b⟩:=t.mk_spec d y [] c;grind;cases h
def Ty.data(t:Ty)(v:TV):Option t.D:=
 match v with
 | .c x=>match t.isAgg|| !x.scalar with|true=>none|false=>t.all [x]
 | .g cs=>match t.isAgg with|true=>t.all cs|false=>none
 |_=>none
def Ty.scalar_cells(h:t.isAgg=false)(x:t.D):(t.enc x).cells=[t.enc x]:=by cases t<;>first|rfl|cases h
def Ty.agg_enc(h:t.isAgg=true)(x:t.D):t.enc x= .agg (t.enc x).cells:=by cases t<;>first|rfl|cases h
def MB{v:TV}{x:t.D}(h:t.data v=some x):V0 v.enc (t.enc x):=by unfold Ty.data at h;split at h;rename_i y;split at h;cases h;rename_i a;simp at a;have:=Fg h;rw[t.scalar_cells a.1,HX,MA a.2]at this;obtain⟨u,b,c⟩:=this.2 0 _ rfl;simp at b;subst b;exact c;rename_i d;split at h;rename_i a;have:=(Fg h).agg;rw[<-t.agg_enc a]at this;exact this;cases h;cases h
def Ty.tv(t:Ty)(x:t.D):TV:=
 match t,x with
 | .bool,b=>.c (.bl b)
 | .int k,n=>.c (.it k n)
 | .str,s=>.c (.st s)
 | .list t,l=>.c (.ls t l)
 | .arr n t,a=>.g [.ar n t a]
 | .prod ts,x=>.g (ts.lvs x)
def Ty.tv_enc(t:Ty)(x:t.D):(t.tv x).enc=t.enc x:=by
 cases t with
 |arr n t=>
  have a: ∀y:Bu,Go.Ab.lvs [y]=y.enc:=λy=>by rw[HX];simp[Go.Ab.lvs]
  simp only[Ty.tv,TV.enc,a];rfl
 |prod b=>simp only[Ty.tv,TV.enc,b.lvs_cells];rfl
 |_=>rfl
def Ty.tv_ok(t:Ty)(x:t.D):(t.tv x).ok b:=by
 cases t with
 |prod a=>exact a.lvs_ok x
 |_=>exact Js trivial
def Ds.ro:Ds->Bool
 | .dead=>false
 | .live b _=>b
 | .buf b _ _ _ _=>b
 | .lp b _ _ _ _ _ _ _=>b
 | .mp b _ _ _=>b
def Ds.isLp:Ds->Bool
 | .lp .. =>true
 |_=>false
def zz(H H':Ap):Prop:= ∀(id:Nat),id<H.length-> ∀ro F n env ps a b s,H'[id]? =some (.lp ro F n env ps a b s)-> ∃ro0 s0,H[id]? =some (.lp ro0 F n env ps a b s0)
def zz.refl(H:Ap):zz H H:=λ_ _ _ _ _ _ _ _ _ _ h=>⟨_,_,h⟩
def Ds.lock:Ds->Ds
 | .dead=>.dead
 | .live _ cs=>.live true cs
 | .buf _ t l n ver=>.buf true t l n ver
 | .lp _ F n env ps a b s=>.lp true F n env ps a b s
 | .mp _ k t es=>.mp true k t es
theorem pp(e:Ds):e.lock.enc=e.enc:=by cases e<;>rfl
structure CE(H H':Ap):Prop where
 len:H.length<=H'.length
 refs: ∀id ver t n,UZ H id ver t n->UZ H' id ver t n
 ro: ∀(id:Nat) (e:Ds),H[id]? =some e->e.ro=true->H'[id]? =some e
 nb: ∀id,id<H.length->(∀t l n ver,H[id]? ≠some (.buf false t l n ver))-> ∀t l n ver,H'[id]? ≠some (.buf false t l n ver)
 lp:zz H H'
theorem CE.refl(H:Ap):CE H H:=⟨Aq _,λ_ _ _ _ h=>h,λ_ _ h _=>h,λ_ _ h=>h,.refl H⟩
def CE.trans{a b c:Ap}(h:CE a b)(k:CE b c):CE a c:=⟨DH h.len k.len,λid d t n q=>k.refs id d t n (h.refs id d t n q),λid e q r=>k.ro id e (h.ro id e q r) r,λid q r=>k.nb id (DM q h.len) (h.nb id q r),λid q _ _ _ _ _ _ _ _ r=>by obtain⟨g,i,f⟩:=k.lp id (DM q h.len) _ _ _ _ _ _ _ _ r;exact h.lp id q _ _ _ _ _ _ _ _ f⟩
def CE.leaf(h:CE G b)(k:v.ok G):v.ok b:=by
 cases v with
 |own id a t n=>exact h.refs id a t n k
 |_=>trivial
def CE.lok(h:CE b G)(k:lok b d):lok G d:=λx c=>h.leaf (k x c)
def CE.tv(h:CE b G)(k:e.ok b):e.ok G:=h.lok k
def CE.ent(h:CE b G)(k:D.ok b):D.ok G:=by
 cases D with
 |live H d=>exact h.lok k
 |buf H t l n c=>exact k
 |dead=>trivial
 |lp=>exact k
 |mp=>exact k
def CE.env{H a:Ap}(h:CE H a){env:Bd}(k: ∀p∈env,p.2.ok H): ∀p∈env,p.2.ok a:=λp b=>h.tv (k p b)
theorem CE.push(H:Ap)(e:Ds):CE H (H++[e]):=by refine⟨k!,λid g t n h=>⟨by have:=h.1;simp;omega,λro f l d a b=>?_⟩,λid i b hr=>?_,λid c h=>q!,λid c _ _ _ _ _ _ _ _ h=>q!⟩;rw[CO h.1]at b;exact h.2 ro f l d a b;grind
def CE.set{H:Ap}{id:Nat}{r:Ds}(o:H[id]? =some D)(hr:D.ro=false)
  (y: ∀ro t l n k,r= .buf ro t l n k-> ∃d v p f,D= .buf d t v p f/\(f<k\/(f=k/\p=n)))
  (B: ∀ro F n env z a b s,r= .lp ro F n env z a b s-> ∃d w,D= .lp d F n env z a b w:=by intro _ _ _ _ _ _ _ _ h;cases h):CE H (H.set id r):=by
 have m:id<H.length:=by rcases Aw id H.length with u|u;exact u;rw[Cn u]at o;cases o
 refine⟨k!,λj k t n h=>⟨by simpa using h.1,λro I l G A g=>?_⟩,λj E g x=>?_,λj g h t l n k i=>?_,λj g _ _ _ _ _ _ _ _ i=>?_⟩;by_cases c:j=id;subst c;rw[H8 m]at g;injection g with g;obtain⟨d,v,p,f,q1,q2⟩:=y _ _ _ _ _ g;subst q1;obtain⟨C,e⟩:=h.2 _ _ _ _ _ o;rcases q2 with q2|⟨rfl,rfl⟩;exact⟨o!,λD=>o!⟩;exact⟨C,e⟩;rw[Dy (λD=>c D.symm)]at g;exact h.2 _ _ _ _ _ g;have c:j≠id:=by rintro rfl;rw[o]at g;injection g with g;subst g;rw[hr]at x;cases x
 rw[Dy (λD=>c D.symm)];exact g;by_cases c:j=id;subst c;rw[H8 m]at i;injection i with i;obtain⟨d,v,p,f,q1,_⟩:=y _ _ _ _ _ i;subst q1;have:d=false:=hr;subst this;exact h _ _ _ _ o;rw[Dy (λD=>c D.symm)]at i;exact h _ _ _ _ i;by_cases c:j=id;subst c;rw[H8 m]at i;injection i with i;obtain⟨d,w,q⟩:=B _ _ _ _ _ _ _ _ i;exact⟨d,w,by rw[o,q]⟩;rw[Dy (λD=>c D.symm)]at i;exact⟨_,_,i⟩
theorem PD{H:Ap}(h: ∀x∈H,x.ok H)(b:D.ok (H++[D])): ∀x∈H++[D],x.ok (H++[D]):=by intro x a;rcases Ao.1 a with a|a;exact(CE.push H D).ent (h x a);grind
def Tz{H:Ap}{id:Nat}(d:CE H (H.set id D))(h: ∀x∈H,x.ok H)(c:D.ok (H.set id D)): ∀x∈H.set id D,x.ok (H.set id D):=by intro x b;rcases Px b with b|rfl;exact d.ent (h x b);exact c
def Frame(F:List Nat)(H H':Ap):Prop:= ∀j,j<H.length->j∉F->H'[j]? =H[j]?
def Frame.refl(F:List Nat)(H:Ap):Frame F H H:=λ_ _ _=>rfl
def Frame.push(F:List Nat)(H:Ap)(e:Ds):Frame F H (H++[e]):=λ_ a _=>CO a
theorem Frame.set{F:List Nat}{H:Ap}{id:Nat}(h:id∈F):Frame F H (H.set id D):=λj _ hn=>Dy λq:id=j=>hn q!
def idT:TV->List Nat
 | .c (.raw a)=>mc a
 | .c (.own id _ _ _)=>[id]
 | .aptr id .. =>[id]
 | .bptr id .. =>[id]
 |_=>[]
theorem AC6(v:TV):mc v.enc=idT v:=by
 cases v with
 |c x=>
  cases x with
  |_=>rfl
 |_=>rfl
def Qb(H:Ap)(e:Ds):BJ (H++[e])=BJ H++[e.enc]:=by simp[BJ]
theorem Ni(H:Ap)(id:Nat)(e:Ds):BJ (H.set id e)=(BJ H).set id e.enc:=by simp[BJ]
theorem Ce(H:Ap):(BJ H).length=H.length:=Bs _
section
variable {R:Type}
def storeT(P:Program)(H:Ap)(t:TypeId)(p v:TV)(k:TV->Ap->Option R):Option R:=
 match v.words,tI P t with
 |some ws,some (_,n)=>
  match Nat.beq (AB9 ws) n with
  |false=>none
  |true=>
   match p with
   | .c (.raw (.ptr id 0 off))=>
    match H[id]? with
    |some (.live false cs)=>match zo cs off ws n with|some cs'=>k Rv (H.set id (.live false cs'))|none=>none
    |_=>none
   | .aptr id base m te i off=>
    match H[id]? with
    |some (.live false cs)=>
     match Vq cs base with
     |some (pre,.ar m' te' a::post)=>
      if h:(Ty.arr m' te').beq (Ty.arr m te)=true then
       (GA (n:=m+1) (Ty.cast h a) i).bind λe=>
        match zo (te.lvs e) off ws n with
        |some ls=>match te.all ls with|some e'=>k Rv (H.set id (.live false (pre++(.ar m te (T2 (n:=m+1) (Ty.cast h a) i e')::post))))|none=>none
        |none=>none
      else none
     |_=>none
    |_=>none
   | .bptr id ver te _ i off=>
    match H[id]? with
    |some (.buf false te' l n' ver')=>
     match Nat.beq ver ver' with
     |true=>
      if h:(Ty.list te').beq (Ty.list te)=true then
       (ix (α:=te.D) (Ty.cast h l) i).bind λe=>
        match zo (te.lvs e) off ws n with
        |some ls=>match te.all ls with|some e'=>k Rv (H.set id (.buf false te (F6 (α:=te.D) (Ty.cast h l) i e') n' ver'))|none=>none
        |none=>none
      else none
     |false=>none
    |_=>none
   |_=>none
 |_,_=>none
theorem vp{b d:List AZ}(h:N+d.length<=Q.length):VS (i++Q++b) (i.length+N) d=i++VS Q N d++b:=by
 unfold VS;have e:(i++Q++b).take (i.length+N)=i++Q.take N:=by rw[A2,jT,BQ o!,Wj,bj o!]
 have f:(i++Q++b).drop (i.length+N+d.length)=Q.drop (N+d.length)++b:=by grind[List.drop_drop,List.drop_left]
 grind
theorem TG.set_less{H m n:Ax}{f cs':List AZ}(k:N<H.length)(s:m=H.set N (.live U f))(t:n=H.set N (.live U cs'))(o:Dc f cs')(d:x.Later y):TG x y m n:=by
 subst s t;refine⟨k!,λj p a=>?_⟩;by_cases b:j=N;subst b;rw[H8 k]at a;injection a with a;subst a;refine .inr (.inl ⟨U,f,cs',q!,rfl,o.1,λi l h=>?_⟩);obtain⟨v,q1,q2⟩:=o.2 i l h;exact⟨v,q1,λc r=>q2 _ _ (r.later d)⟩;rw[Dy (λe=>b e.symm)]at a;cases p with
 |live q c0=>exact .inr (.inl ⟨q,c0,c0,q!,rfl,rfl,λi l h=>⟨l,h,λc r=>r.later d⟩⟩)
 |_=>grind
theorem dm(l:Z.length=p.length)(i: ∀(j:Nat) (e:FZ),Z[j]? =some e->e≠ .dead-> ∃a,p[j]? =some a/\a≠ .dead):(cx X h p w).Later (cx X h Z w):={size:=Aq _,keep:=λ_ _ _ _=>rfl,gen:=λ_ _=>Aq _,same:=λ_ _ _=>⟨rfl,rfl⟩,n:=by simp[cx,l],own:=λB _ m=>m.imp _root_.id (λ⟨j,e,k,d,c⟩=>by obtain⟨a,f,g⟩:=i j e k d;exact⟨j,a,f,g,c⟩)}
theorem JC.set_less{N:Nat}{b cs':List AZ}(d:n<p.length)(h:JC P N o s p (C6 u (p.set n (.live U b))))(f:Dc b cs'):JC P N o s p (C6 u (p.set n (.live U cs'))):=by
 refine JC.after h λX e w _=>?_;have a:(cx X e (p.set n (.live U b)) w).Later (cx X e (p.set n (.live U cs')) w):=by grind[dm]
 exact⟨TG.set_less d rfl rfl f a,λc r=>r.later a⟩
theorem Gw{l:List R}{x:R}(h:l[N]? =some x):N<l.length:=q!
variable {P:Program} {N:Nat} {o:Oper} {env:Bd} {H:Ap} {k:TV->Ap->Option R} {r:R}
def lX(P:Program)(N:Nat)(o:Oper)(env:Bd)(H:Ap)(F:List Nat)(k:TV->Ap->Option R)(r:R):Prop:=
 ∃v H',JC P N o (B4 env) (BJ H) (C6 v.enc (BJ H'))/\k v H'=some r/\v.ok H'/\(∀e∈H',e.ok H')/\CE H H'/\Frame F H H'
theorem uL(ok:PE env H)(ho:o.op= .store a c L)(h:storeT P H a (Is env c) (Is env L) k=some r):lX P N o env H (idT (Is env c)) k r:=by
 have W:=JW env;have a2:(Is env L).ok H:=Y5 ok.env L;have ao:(Is env c).ok H:=Y5 ok.env c;unfold storeT at h;split at h;rename_i ws b n hw ht;obtain⟨w1,Z,w3⟩:=XX hw;split at h;cases h;rename_i hn;have f:(lvs ws).length=n:=by grind[bc,Nat.eq_of_beq_eq_true]
 have S:tI P a=some (b,(Is env L).enc.cells.length):=q!
 split at h;rename_i id d G;split at h;rename_i cs u;split at h;rename_i M hs;obtain⟨s1,s2,s3⟩:=iO hs f;have C:(BJ H)[id]? =some (.live 0 (lvs cs)):=by rw[FC,u];rfl
 have j:CE H (H.set id (.live false M)):=CE.set u rfl λ_ _ _ _ _ h=>by cases h
 refine⟨Rv,_,JC.store ho (id:=id) (g:=0) (off:=d) (v:=(Is env L).enc) (by rw[W,G];rfl) (W L) w1 C S (by rw[Z,f];exact s2) ⟨rfl,?_⟩,h,dz,Tz j ok.heap (j.lok (s3 H (ok.heap _ (BP u)) (w3 H a2))),j,Frame.set (by rw[G];exact BC.2 rfl)⟩;rw[Ni,Z,<-s1];rfl;cases h;cases h;rename_i id A m te i d G;split at h;rename_i cs u;split at h;rename_i w X x t p hs;split at h;rename_i hb;have U:=Ty.beq_eq _ _ hb;injection U with hm T;subst hm T;obtain⟨e,hg,h⟩:=Dt.1 h;split at h;rename_i ls R;split at h;rename_i O B;obtain⟨ad,J⟩:=ON hs;obtain⟨s1,s2,_⟩:=iO R f;have s:=Fg B;have q:(Ty.cast hb t:Hf (X+1) x.D)=t:=rfl;rw[q]at hg h;obtain⟨h0,I,rfl,rfl⟩:=lZ hg;obtain⟨y,c2,q1,q2,q3⟩:=ol x.E t I;have C:(BJ H)[id]? =some (.live 0 (lvs w++y++(x.enc (t I)).cells++(c2++lvs p))):=by rw[FC,u,ad];show some (FZ.live 0 (lvs (w++(.ar X x t::p))))=_;rw[Gi,HX,Zy,q1];simp only[A2];rfl
 have j:CE H (H.set id (.live false (w++(.ar X x (T2 (n:=X+1) t (I.val:Int) O)::p)))):=CE.set u rfl λ_ _ _ _ _ h=>by cases h
 have al:lok H cs:=ok.heap _ (BP u);rw[ad]at al;obtain⟨o1,o2⟩:=Iw.1 al;refine⟨Rv,_,?_,h,dz,Tz j ok.heap (j.lok (Iw.2 ⟨o1,λz hz=>?_⟩)),j,Frame.set (by rw[G];exact BC.2 rfl)⟩;have F:d+(lvs ws).length<=(x.enc (t I)).cells.length:=by rw[f,<-x.lvs_enc];exact s2
 have st:=JC.store (P:=P) (N:=N) (K:=C6 .any ((BJ H).set id (.live 0 (VS (lvs w++y++(x.enc (t I)).cells++(c2++lvs p)) (A+(I.val:Int).toNat*x.sz+d) (Is env L).enc.cells)))) ho (id:=id) (g:=0)
  (off:=A+(I.val:Int).toNat*x.sz+d) (v:=(Is env L).enc) (by rw[W,G];rfl) (W L) w1 C S (by rw[Z,f];simp only[Ag,q2,J];have:x.E.sz=x.sz:=rfl;rw[f]at F;simp only[Dl,this];omega) ⟨rfl,rfl⟩
 have ea:A+(I.val:Int).toNat*x.sz+d=(lvs w++y).length+d:=by rw[Ag,J,q2,Dl];rfl
 rw[Z,ea,vp F]at st;have Q:=JC.set_less (cs':=lvs (w++(.ar X x (T2 (n:=X+1) t (I.val:Int) O)::p))) (by rw[Ce];exact Gw u) st (by rw[Gi,HX,Zy,q3 O];simp only[A2];refine(Dc.refl _).append ((Dc.refl _).append (Dc.append ?_ (Dc.refl _)));rw[<-x.lvs_enc,<-s1];exact s);rw[Ni];exact Q;rcases Av.1 hz with rfl|hz;trivial;exact o2 z (by simp[hz]);cases h;cases h;cases h;cases h;cases h;rename_i id V te nn i d G;split at h;rename_i x l Y a3 u;split at h;rename_i hv;have a1:=DG hv;subst a1;split at h;rename_i hb;have U:=Ty.beq_eq _ _ hb;injection U with T;subst T;obtain⟨e,hg,h⟩:=Dt.1 h;split at h;rename_i ls R;split at h;rename_i O B;obtain⟨s1,s2,_⟩:=iO R f;have s:=Fg B;have q:(Ty.cast hb l:List x.D)=l:=rfl;rw[q]at hg h;obtain⟨y,c2,q1,q2,q3,q4,_,q5⟩:=o7 x.E hg;have hr:UZ H id V x nn:=by rw[G]at ao;exact ao (.own id V x nn) (by simp[TV.refs])
 obtain⟨_,a0⟩:=hr.2 _ _ _ _ _ u;obtain⟨_,rfl⟩:=a0 rfl;have ax:Y=l.length:=ok.heap _ (BP u);have C:(BJ H)[id]? =some (.live Y (y++(x.enc e).cells++c2)):=by rw[FC,u];show some (FZ.live Y (x.E.cl l))=_;rw[q1];rfl
 have j:CE H (H.set id (.buf false x (F6 l i O) Y V)):=CE.set u rfl λ_ _ _ _ _ h=>by cases h;exact⟨_,_,_,_,rfl,.inr ⟨rfl,rfl⟩⟩
 refine⟨Rv,_,?_,h,dz,Tz j ok.heap ((ABJ ax.symm).symm),j,Frame.set (by rw[G];exact BC.2 rfl)⟩;have F:d+(lvs ws).length<=(x.enc e).cells.length:=by rw[f,<-x.lvs_enc];exact s2
 have st:=JC.store (P:=P) (N:=N) (K:=C6 .any ((BJ H).set id (.live Y (VS (y++(x.enc e).cells++c2) (i.toNat*x.sz+d) (Is env L).enc.cells)))) ho (id:=id) (g:=Y)
  (off:=i.toNat*x.sz+d) (v:=(Is env L).enc) (by rw[W,G];rfl) (W L) w1 C S (by rw[Z,f];simp only[Ag,q2];have:x.E.sz=x.sz:=rfl;rw[f]at F;rw[this];omega) ⟨rfl,rfl⟩
 have ea:i.toNat*x.sz+d=y.length+d:=by rw[q2];rfl
 rw[Z,ea,vp F]at st;have Q:=JC.set_less (cs':=x.E.cl (F6 l i O)) (by rw[Ce];exact Gw u) st (by unfold F6;rw[q5 O];refine Dc.append (Dc.append (Dc.refl _) ?_) (Dc.refl _);rw[<-x.lvs_enc,<-s1];exact s);rw[Ni];exact Q;cases h;cases h;cases h;cases h;cases h;cases h;cases h
end
section
variable {R:Type}
def wK(P:Program)(H:Ap)(t:TypeId)(k:TV->Ap->Option R):Option R:=
 match qa P t with
 |some z=>k (.c (.raw (.ptr H.length 0 0))) (H++[.live false z])
 |none=>none
def ACX(H:Ap)(v:TV)(k:TV->Ap->Option R):Option R:=
 match v.words with
 |some ws=>k (.c (.raw (.ptr H.length 0 0))) (H++[.live false ws])
 |none=>none
def jG(t:Ty):List TV->Option (List t.D)
 |[]=>some []
 |v::r=>match t.data v,jG t r with|some x,some xs=>some (x::xs)|_,_=>none
def elT(P:Program)(t:TypeId):Option Ty:=
 match eI P t with
 |some (none,e,sz)=>
  match xY P 1000 e with
  |some te=>if sz=te.sz/\RI P e=true then some te else none
  |none=>none
 |_=>none
def du(len:Nat)(te:Ty)(parts:Array (Nat×Operand))(vs:List TV):Bool:=
 decide (parts.toList.map (·.1)=List.range len)&&(vs.all λv=>match v.words with|some ws=>Nat.beq (AB9 ws) te.sz|none=>false)&&Nat.ble len 4096&&Nat.ble te.sz 4096
def YA(P:Program)(env:Bd)(H:Ap)(t:TypeId)(len:Nat)(parts:Array (Nat×Operand))(k:TV->Ap->Option R):Option R:=
 match elT P t with
 |some te=>
  match du len te parts (parts.toList.map λp=>Is env p.2)with
  |true=>match jG te (parts.toList.map λp=>Is env p.2)with|some xs=>k (.c (.own H.length 0 te xs.length)) (H++[.buf false te xs xs.length 0])|none=>none
  |false=>none
 |none=>none
def nI(P:Program)(env:Bd)(t:TypeId)(len:Nat)(parts:Array (Nat×Operand))(k:TV->Option R):Option R:=
 match elT P t with
 |some te=>
  match du len te parts (parts.toList.map λp=>Is env p.2)with
  |true=>match jG te (parts.toList.map λp=>Is env p.2)with|some xs=>k (.c (.ls te xs))|none=>none
  |false=>none
 |none=>none
def dp(P:Program)(H:Ap)(t:TypeId)(x y:TV)(k:TV->Ap->Option R):Option R:=
 match eI P t,x,y with
 |some (none,e,_),.c (.it _ l),.c (.it _ c)=>
  match elT P t,qa P e with
  |some te,some z=>match te.all z with|some zd=>(mk zd l c).bind λr=>k (.c (.own H.length 0 te r.length)) (H++[.buf false te r r.length 0])|none=>none
  |_,_=>none
 |_,_,_=>none
def qX(P:Program)(H:Ap)(src dst:TypeId)(x:TV)(k:TV->Ap->Option R):Option R:=
 match P.underlying src,P.underlying dst,x with
 |some _,some (.slice e),.c (.st s)=>
  match P.underlying e with
  |some (.int .u8)=>k (.c (.own H.length 0 (.int .u8) (R4 s).length)) (H++[.buf false (.int .u8) (R4 s) (R4 s).length 0])
  |_=>none
 |_,_,_=>none
def ABq(H:Ap)(te:Ty)(v:TV):Option (List te.D):=
 match v with
 | .c (.ls te' l)=>if h:(Ty.list te').beq (Ty.list te)=true then some (Ty.cast h l)else none
 | .c (.own id ver te' _)=>if h:(Ty.list te').beq (Ty.list te)=true then(match fS H id ver te' with|some l=>some (Ty.cast (t:=.list te') (t':=.list te) h l)|none=>none)else none
 | .c .nil=>some []
 |_=>none
def oF(P:Program)(H:Ap)(t:TypeId)(s x:TV)(k:TV->Ap->Option R):Option R:=
 match elT P t with
 |some te=>
  match ABq H te x with
  |some xs=>
   match s with
   | .c .nil=>(app [] xs).bind λr=>k (.c (.own H.length 0 te r.length)) (H++[.buf false te r r.length 0])
   | .c (.own id ver te' _)=>
    match H[id]? with
    |some (.buf false t2 l _ ver')=>
     match Nat.beq ver ver' with
     |true=>
      if h:(Ty.list t2).beq (Ty.list te)=true/\(Ty.list te').beq (Ty.list te)=true then
       (app (α:=te.D) (Ty.cast h.1 l) xs).bind λr=>k (.c (.own id (ver+1) te r.length)) (H.set id (.buf false te r r.length (ver+1)))
      else none
     |false=>none
    |_=>none
   |_=>none
  |none=>none
 |none=>none
variable {P:Program} {N:Nat} {o:Oper} {env:Bd} {H:Ap} {k:TV->Ap->Option R} {r:R}
theorem qA{H:Ap}{l:List t.D}:(TV.c (.own H.length N t l.length)).ok (H++[.buf A t l l.length N]):=by refine Js ⟨k!,λd h f g b e=>?_⟩;grind
def oM(H:Ap)(b:Ty)(n a:Nat):(TV.c (.own H.length a b n)).enc= .sl (BJ H).length n b.sz 0 n:=by rw[Ce];rfl
def sj(ok:PE env H)(b:o.op= .alloc a)(h:wK P H a k=some r):lX P N o env H [] k r:=by
 unfold wK at h;split at h;rename_i z d;obtain⟨e,f⟩:=Xb d;refine⟨_,_,?_,h,Js trivial,PD ok.heap (f _),CE.push _ _,Frame.push _ _ _⟩;have t:(TV.c (.raw (.ptr H.length 0 0))).enc= .ptr (BJ H).length 0 0:=by rw[Ce];rfl
 rw[t,Qb];exact JC.alloc b e ⟨rfl,rfl⟩;cases h
def wR(ok:PE env H)(b:o.op= .box a c)(h:ACX H (Is env c) k=some r):lX P N o env H [] k r:=by
 unfold ACX at h;split at h;rename_i i d;obtain⟨e,f,g⟩:=XX d;refine⟨_,_,?_,h,Js trivial,PD ok.heap ((CE.push _ _).lok (g H (Y5 ok.env c))),CE.push _ _,Frame.push _ _ _⟩;have t:(TV.c (.raw (.ptr H.length 0 0))).enc= .ptr (BJ H).length 0 0:=by rw[Ce];rfl
 rw[t,Qb];exact JC.box b (JW env c) e ⟨rfl,by rw[f];rfl⟩;cases h
def jj{t:Ty}: ∀{b:List TV} {a:List t.D},jG t b=some a->Dc (b.map TV.enc) (a.map t.enc)
 |[],a,h=>by simp only[jG,Am]at h;subst h;exact Dc.refl _
 |v::r,a,h=>by simp only[jG]at h;split at h;rename_i x e c d;injection h with h;subst h;have:=jj d;exact(Dc.one (MB c)).append this;cases h
def fq{t:Ty}: ∀{e:List TV} {b:List t.D},jG t e=some b->Dc ((e.map TV.enc).flatMap AZ.cells) (t.E.cl b)
 |[],b,h=>by simp only[jG,Am]at h;subst h;exact Dc.refl _
 |v::r,b,h=>by simp only[jG]at h;split at h;rename_i x k a g;injection h with h;subst h;have i:=fq g;refine Dc.append ?_ i;unfold Ty.data at a;split at a;rename_i y;split at a;cases a;rename_i d;simp at d;have c:=Fg a;rw[HX,MA d.2,<-Bu.scalar_cells d.2]at c;have f:lvs ([]:List Bu)=[]:=rfl;rw[f,Db]at c;exact c;rename_i j;split at a;exact Fg a;cases a;cases a;cases h
theorem ft(h:elT P a=some t): ∃e,eI P a=some (none,e,t.sz)/\RI P e=true:=by grind[elT]
theorem qG(h:elT P a=some t)(c:du N t E (E.toList.map λp=>Is env p.2)=true):
  Rw P (B4 env) a N E=some (t.sz,(E.toList.map λp=>Is env p.2).map TV.enc):=by
 obtain⟨e,k,l⟩:=ft h;unfold du at c;simp only[BU,decide_eq_true_eq]at c;obtain⟨⟨⟨f,g⟩,i⟩,j⟩:=c;have d:(E.toList.map λp=>BL (B4 env) p.2)=(E.toList.map λp=>Is env p.2).map TV.enc:=by grind[List.map_congr_left,JW]
 unfold Rw;simp only[k,d];refine if_pos ⟨t.sz_pos,l,f,?_,Kl i,Kl j⟩;rw[F3];intro v n;obtain⟨u,m,rfl⟩:=Bh.1 n;have:=F3.1 g u m;split at this<;>simp_all[XX,bc]
theorem zF{b:List t.D}(h:jG t m=some b):b.length=m.length:=by have:=(jj h).1;grind
theorem TG.push_less{H:Ax}(n:Dc i Q)(d:x.Later y):TG x y (H++[.live N i]) (H++[.live N Q]):=by
 refine⟨k!,λj o e=>?_⟩;rcases Aw j H.length with b|b;rw[CO b]at e;cases o with
 |live p c0=>exact .inr (.inl ⟨p,c0,c0,q!,rfl,rfl,λg m h=>⟨m,h,λc r=>r.later d⟩⟩)
 |_=>grind
 have k:=Gw e;simp at k;have l:j=H.length:=o!
 subst l;simp at e;subst e;refine .inr (.inl ⟨N,i,Q,k!,rfl,n.1,λg m h=>?_⟩);obtain⟨v,q1,q2⟩:=n.2 g m h;exact⟨v,q1,λc r=>q2 _ _ (r.later d)⟩
theorem JC.push_less(h:JC P N o s p (C6 u (p++[.live n i])))(E:Dc i Q):JC P N o s p (C6 u (p++[.live n Q])):=by
 refine JC.after h λX f w _=>?_;have b:(cx X f (p++[.live n i]) w).Later (cx X f (p++[.live n Q]) w):=by refine dm k! λj e l k=>?_;grind
 exact⟨TG.push_less E b,λc r=>r.later b⟩
def kK(ok:PE env H)(f:o.op= .buildSlice a n E)(h:YA P env H a n E k=some r):lX P N o env H [] k r:=by unfold YA at h;split at h;rename_i i d;split at h;rename_i g;split at h;rename_i j c;have e:=qG d g;have b:=zF c;refine⟨_,_,?_,h,qA,PD ok.heap rfl,CE.push _ _,Frame.push _ _ _⟩;rw[oM,Qb];have:=Sm (N:=N) (H:=BJ H) (K:=C6 _ _) f e ⟨rfl,rfl⟩;rw[Bs,<-b]at this;exact JC.push_less this (fq c);cases h;cases h;cases h
theorem ADn{a:Ty}{vs:List AZ}{l:List a.D}(h:Dc vs (l.map a.enc))(I:Dc (vs.flatMap AZ.cells) (a.E.cl l))(z: ∀v∈vs,v.cells.length=a.sz):V0 (.vs a.sz vs) (.vs a.sz (l.map a.enc)):=by
 intro x c L;cases L with
 |vs f t o w C p=>
  have hn:(l.map a.enc).length=vs.length:=h.1;rw[<-hn];have key: ∀(j:Nat) (e:AZ) (i:Nat) (v:AZ),(l.map a.enc)[j]? =some e->e.cells[i]? =some v-> ∃b k,vs[j]? =some b/\b.cells[i]? =some k/\V0 k v:=by
   intro j e i v d m;obtain⟨b,q1,_⟩:=h.2 j e d;have g: ∀u∈l.map a.enc,u.cells.length=a.sz:=λu J=>by obtain⟨y,_,rfl⟩:=Bh.1 J;exact a.enc_len y
   have A:=kj g j e i v d m;obtain⟨k,r,s⟩:=I.2 _ v A;have H:i<a.sz:=by grind
   have F:=z b (BP q1);have G:b.cells[i]? =some (b.cells[i]'(by omega)):=Au (by omega);have M:=kj z j b i _ q1 G;grind
  refine Bp.vs f (by grind) o (λj e d=>?_) (λn=>?_) λj e i v d m=>?_;obtain⟨y,_,rfl⟩:=Bh.1 (BP d);exact a.enc_len y;obtain⟨B,q,q1,q2,q3,q4⟩:=C (λe=>n (EP (by grind)));refine⟨B,q,q1,q2,q3,λj e i v d m=>?_⟩;obtain⟨b,k,r,s,_⟩:=key j e i v d m;grind;obtain⟨b,k,r,s,K⟩:=key j e i v d m;exact K _ _ (p j b i k r s)
def mj(ok:PE env H)(s:o.op= .makeSlice a c L)(h:dp P H a (Is env c) (Is env L) k=some r):lX P N o env H [] k r:=by
 have i:=JW env;unfold dp at h;split at h;rename_i e sz Q l O x j v w;split at h;rename_i b z d A;split at h;rename_i y f;obtain⟨I,q,h⟩:=Dt.1 h;obtain⟨M,m,u⟩:=ft d;rw[j]at m;obtain⟨rfl,rfl⟩:=m;obtain⟨J,R⟩:=Xb A;have t:=Fg f;obtain⟨⟨C,D,F⟩,p,G⟩:=AGl b.E y q;refine⟨_,_,?_,h,qA,PD ok.heap rfl,CE.push _ _,Frame.push _ _ _⟩;rw[oM,Qb];have g:(lvs z).length=b.sz:=by rw[<-t.1,b.enc_len]
 have:=JC.makeSlice (N:=N) (H:=BJ H) (K:=C6 _ _) s j b.sz_pos u J g (by rw[i,v];rfl) (by rw[i,w];rfl) C D F ⟨rfl,rfl⟩;rw[p]at this;apply JC.push_less this;rw[<-G,p];induction I.length with
 |zero=>exact Dc.refl _
 |succ n B=>exact Dc.append t B
 cases h;cases h;cases h
def qY(ok:PE env H)(j:o.op= .convert I a c)(h:qX P H I a (Is env c) k=some r):lX P N o env H [] k r:=by have f:=JW env;unfold qX at h;split at h;rename_i u e s l g m;split at h;rename_i i;refine⟨_,_,?_,h,qA,PD ok.heap rfl,CE.push _ _,Frame.push _ _ _⟩;rw[oM,Qb];obtain⟨b,d⟩:=AF2 s;have:=mR (N:=N) (H:=BJ H) (K:=C6 _ _) j l g i (by rw[f,m];rfl) ⟨rfl,rfl⟩;rw[d,b]at this;exact this;cases h;cases h
theorem xN{f:List t.D}(k: ∀d∈H,d.ok H)(p:e.ok H)(h:ABq H t e=some f):NY (BJ H) t.sz e.enc=some (f.length,t.E.cl f):=by unfold ABq at h;split at h;rename_i a l;split at h;rename_i g;have c:=Ty.beq_eq _ _ g;injection c with b;subst b;injection h with h;have j:=h;subst j;simp only[TV.enc,Bu.one,NY,Bs];rfl;cases h;rename_i id i a n;split at h;rename_i g;have c:=Ty.beq_eq _ _ g;injection c with b;subst b;split at h;rename_i l m;injection h with h;have j:l=f:=h;obtain⟨q,r⟩:=kJ k (p (.own id i a n) (by simp[TV.refs])) m;have s:=a.E.clen l;have o:a.E.sz=a.sz:=rfl;grind[TV.enc,Bu.one,NY];cases h;cases h;injection h with h;subst h;rfl;cases h
theorem qd(ok:PE env H)(R:o.op= .call {callee:=.builtin .append,args:= #[c,L],argTypes:= #[a,I]})(Y:a=I)(h:oF P H a (Is env c) (Is env L) k=some r):lX P N o env H (idT (Is env c)) k r:=by
 subst Y;have x:=JW env;unfold oF at h;split at h;rename_i te C;obtain⟨e,Q,S⟩:=ft C;split at h;rename_i w v;have t:=xN ok.heap (Y5 ok.env L) v;rw[<-x]at t;split at h;rename_i b;obtain⟨l,u,X⟩:=Dt.1 h;obtain⟨W,j⟩:=kG u;rw[By]at j;subst j;refine⟨_,_,?_,X,qA,PD ok.heap rfl,CE.push _ _,Frame.push _ _ _⟩;rw[oM,Qb];have:=aj (N:=N) (H:=BJ H) (K:=C6 _ _) R Q te.sz_pos S (by rw[x,b];rfl) t q! ⟨rfl,rfl⟩;exact this;rename_i id g al n b;split at h;rename_i d l J T M;split at h;rename_i Z;have G:=DG Z;subst G;split at h;rename_i y;have F:=Ty.beq_eq _ _ y.1;injection F with p;have s:=Ty.beq_eq _ _ y.2;injection s with q;subst q;subst p;obtain⟨l2,u,h⟩:=Dt.1 h;have f:(Ty.cast y.1 l:List d.D)=l:=rfl;rw[f]at u;obtain⟨W,rfl⟩:=kG u;have hr:UZ H id g d n:=by have:=Y5 ok.env c;rw[b]at this;exact this (.own id g d n) (by simp[TV.refs])
 obtain⟨_,A⟩:=hr.2 _ _ _ _ _ M;obtain⟨_,rfl⟩:=A rfl;have z:J=l.length:=ok.heap _ (BP M);have i:(BJ H)[id]? =some (.live J (d.E.cl l)):=by rw[FC,M];rfl
 have m:CE H (H.set id (.buf false d (l++w) (l++w).length (g+1))):=CE.set M rfl λ_ _ _ _ _ h=>by cases h;exact⟨_,_,_,_,rfl,.inl (Nat.lt_succ_self _)⟩
 refine⟨_,_,?_,h,Js ⟨q!,λad I l' n2 U hg=>?_⟩,Tz m ok.heap rfl,m,Frame.set (by rw[b];exact BC.2 rfl)⟩;have O:=d.E.clen l;have B:d.E.sz=d.sz:=rfl;rw[B]at O;have:=RH (N:=N) (H:=BJ H) (g':=J+w.length) (K:=C6 _ _) R Q d.sz_pos S (by rw[x,b];rfl) i (by rw[O,z]) t q! (by rcases Ud w.length with V|V;grind;exact .inl o!) ⟨rfl,rfl⟩;grind[Ni,List.length_append,TI.cl,TV.enc,Bu.one,Ds.enc];grind;cases h;cases h;cases h;cases h;cases h;cases h
end
def NO(id ver:Nat)(t:Ty)(l:List t.D):Bu->Bu
 | .own id' ver' t' n=>match Nat.beq id id'&&Nat.beq ver ver' with|true=>.ls t l|false=>.own id' ver' t' n
 |x=>x
mutual
def kv(id ver:Nat)(t:Ty)(l:List t.D):TV->TV
 | .c x=>.c (NO id ver t l x)
 | .g cs=>.g (cs.map (NO id ver t l))
 | .tup vs=>.tup (dG id ver t l vs)
 | .aptr a b n te i o=>.aptr a b n te i o
 | .bptr a v te n i o=>.bptr a v te n i o
 | .vptr cs post=>.vptr cs post
def dG(id ver:Nat)(t:Ty)(l:List t.D):List TV->List TV
 |[]=>[]
 |v::r=>kv id ver t l v::dG id ver t l r
end
def P8(id ver:Nat)(t:Ty)(l:List t.D):Ds->Ds
 | .live false cs=>.live false (cs.map (NO id ver t l))
 |e=>e
def frz(id:Nat)(env:Bd)(H:Ap):Option (Bd×Ap):=
 match H[id]? with
 |some (.buf false t l _ ver)=>some (env.map λp=>(p.1,kv id ver t l p.2),(H.map (P8 id ver t l)).set id .dead)
 |_=>none
def SU(x y:Cx)(a b:List AZ):Prop:=b.length=a.length/\ ∀(i:Nat) (v':AZ),b[i]? =some v'-> ∃v,a[i]? =some v/\Conv x y v v'
theorem SU.append{b f:List AZ}(c:SU x y i Q)(g:SU x y b f):SU x y (i++b) (Q++f):=by refine⟨by simp[c.1,g.1],λa j h=>?_⟩;rcases Aw a Q.length with d|d;rw[CO d]at h;obtain⟨v,q1,q2⟩:=c.2 a j h;grind;rw[Ch d]at h;obtain⟨v,q1,q2⟩:=g.2 _ j h;exact⟨v,by rw[Ch (by rw[<-c.1];exact d),<-c.1];exact q1,q2⟩
def SU.later{x y:Cx}(l:x.Later y)(a:List AZ):SU x y a a:=⟨rfl,λ_ v h=>⟨v,h,λ_ r=>r.later l⟩⟩
theorem SU.one{b:AZ}(h:Conv x y u b):SU x y [u] [b]:=⟨rfl,λi v a=>by
 match i,a with
 |0,a=>grind
 |i+1,a=>simp at a⟩
def SU.agg{x y:Cx}{b a:List AZ}(h:SU x y b a):Conv x y (.agg b) (.agg a):=by
 intro c r;cases r with
 |agg i e hr=>refine .agg (by rw[i,h.1]) e λj k d g f=>?_;obtain⟨v,q1,q2⟩:=h.2 j k g;exact q2 _ (hr j v d q1 f)
def SU.tup{x y:Cx}{b a:List AZ}(h:SU x y b a):Conv x y (.tup b) (.tup a):=by
 intro c r;cases r with
 |tup g hr=>refine .tup (by rw[g,h.1]) λj i d f e=>?_;obtain⟨v,q1,q2⟩:=h.2 j i f;exact q2 _ (hr j v d q1 e)
section
variable {x y:Cx} {H:Ap} {id n ver:Nat} {t:Ty} {l:List t.D} (lat:x.Later y) (hid:H[id]? =some (.buf false t l n ver)) (hc:Conv x y (.sl id n t.sz 0 n) (.vs t.sz (l.map t.enc)))
include lat hid hc
theorem kq(e:v.ok H):SU x y v.enc (NO id ver t l v).enc/\Conv x y v.one (NO id ver t l v).one:=by
 have same: ∀w:Bu,SU x y w.enc w.enc/\Conv x y w.one w.one:=λw=>⟨.later lat _,λ_ r=>r.later lat⟩
 cases v with
 |own f b h g=>simp only[NO];split;rename_i a;simp only[BU]at a;have c:=DG a.1;have d:=DG a.2;subst c d;obtain⟨_,q⟩:=e.2 _ _ _ _ _ hid;obtain⟨rfl,rfl⟩:=q rfl;exact⟨.one hc,hc⟩;grind
 |_=>exact same _
def mU: ∀{a:List Bu},lok H a->SU x y (lvs a) (lvs (a.map (NO id ver t l)))
 |[],_=>.later lat _
 |z::r,h=>by rw[Bv,HX,HX];exact(kq lat hid hc (h z k!)).1.append (mU λw b=>h w (by simp[b]))
mutual
theorem pP: ∀{v:TV},v.ok H->Conv x y v.enc (kv id ver t l v).enc
 | .c z,h=>(kq lat hid hc (h z (by simp[TV.refs]))).2
 | .g cs,h=>(mU lat hid hc h).agg
 | .tup vs,h=>SU.tup (nT (vs:=vs) h)
 | .aptr ..,_=>λ_ r=>r.later lat
 | .bptr ..,_=>λ_ r=>r.later lat
 | .vptr ..,_=>λ_ r=>r.later lat
theorem nT: ∀{vs:List TV},(TV.tup vs).ok H->SU x y (TV.encL vs) (TV.encL (dG id ver t l vs))
 |[],_=>.later lat _
 |v::r,h=>by simp only[TV.encL,dG];have a:v.ok H:=ms h k!;have b:(TV.tup r).ok H:=Qg λw c=>ms h (by simp[c]);exact(SU.one (pP a)).append (nT b)
end
end
def pO{l:List t.D}(c:CE G b)(d:v.ok G):(NO N n t l v).ok b:=by
 cases v with
 |own f e h g=>simp only[NO];split;trivial;exact c.leaf d
 |_=>exact c.leaf d
def yD{l:List t.D}(H:CE G b)(h:lok G d):lok b (d.map (NO N n t l)):=λz f=>by obtain⟨w,e,rfl⟩:=Bh.1 f;exact pO H (h w e)
mutual
theorem u7{H d:Ap}{id b:Nat}{t:Ty}{l:List t.D}(a:CE H d): ∀{v:TV},v.ok H->(kv id b t l v).ok d
 | .c z,h=>Js (pO a (h z (by simp[TV.refs])))
 | .g cs,h=>yD a h
 | .tup vs,h=>rZ a h
 | .aptr ..,h=>a.lok h
 | .bptr ..,h=>a.lok h
 | .vptr ..,h=>a.lok h
theorem rZ{H c:Ap}{id b:Nat}{t:Ty}{l:List t.D}(d:CE H c): ∀{e:List TV},(TV.tup e).ok H->(TV.tup (dG id b t l e)).ok c
 |[],_=>λz i=>by simp[dG,TV.refs,TV.refsL]at i
 |v::r,h=>by have f:v.ok H:=ms h k!;have g:(TV.tup r).ok H:=Qg λw a=>ms h (by simp[a]);refine Qg λw a=>?_;simp only[dG]at a;rcases Av.1 a with rfl|a;exact u7 d f;exact ms (rZ d g) a
end
theorem AA4{l:List t.D}(f:b[N]? =some (.buf false t l n U)):CE b ((b.map (P8 N U t l)).set N .dead):=by
 have s:=Gw f;refine⟨k!,λj y x v h=>⟨by simpa using h.1,λro K E F u c=>?_⟩,λj e c hr=>?_,λj m h x l2 v y a=>?_,λj m _ _ _ _ _ _ _ _ a=>?_⟩;by_cases d:j=N;grind;rw[Dy (λe=>d e.symm),CD]at c;cases a:b[j]? with
 |none=>grind
 |some e=>
  rw[a]at c;simp only[Bl,Am]at c;cases e with
  |live H k=>cases H<;>simp[P8]at c
  |dead=>cases c
  |lp=>cases c
  |mp=>cases c
  |buf H q o p r=>simp only[P8]at c;exact h.2 _ _ _ _ _ (by rw[a,c])
 have d:j≠N:=by rintro rfl;rw[f]at c;injection c with c;subst c;cases hr
 rw[Dy (λe=>d e.symm),CD,c];cases e with
 |live H k=>cases H with|true=>rfl|false=>cases hr
 |dead=>cases hr
 |buf H q o p r=>rfl
 |lp=>rfl
 |mp=>rfl
 by_cases d:j=N;grind;rw[Dy (λe=>d e.symm),CD]at a;cases g:b[j]? with
 |none=>rw[g]at a;cases a
 |some e=>
  rw[g]at a;simp only[Bl,Am]at a;cases e with
  |live H k=>cases H<;>simp[P8]at a
  |dead=>cases a
  |lp=>cases a
  |mp=>cases a
  |buf H q o p r=>grind[P8]
 by_cases d:j=N;grind[List.getElem?_set_self];rw[Dy (λe=>d e.symm),CD]at a;cases g:b[j]? with
 |none=>rw[g]at a;cases a
 |some e=>
  rw[g]at a;simp only[Bl,Am]at a;cases e with
  |live H k=>cases H<;>simp[P8]at a
  |dead=>cases a
  |buf H q o p r=>cases a
  |mp=>cases a
  |lp w z G C I A B J=>injection a with _ q2 q3 q4 q5 q6 q7 _;subst q2 q3 q4 q5 q6 q7;exact⟨_,_,rfl⟩
theorem AEt{id:Nat}{env env2:Bd}{H K:Ap}(ok:PE env H)(h:frz id env H=some (env2,K)):PE env2 K/\CE H K/\ ∀N,Fz N (BJ H).length (B4 env) (BJ H) (B4 env2) (BJ K):=by
 unfold frz at h;split at h;rename_i t l n i d;simp only[Am,Du]at h;obtain⟨rfl,rfl⟩:=h;have G:=Gw d;have A:=AA4 d;have hn:n=l.length:=ok.heap _ (BP d);refine⟨⟨λp M=>?_,λe R=>?_⟩,A,λN=>?_⟩;obtain⟨q,z,rfl⟩:=Bh.1 M;exact u7 A (ok.env q z);rcases Px R with R|rfl;obtain⟨k,S,rfl⟩:=Bh.1 R;have F:=ok.heap k S;cases k with
 |live b D=>
  cases b with
  |true=>exact A.lok F
  |false=>exact yD A F
 |dead=>trivial
 |buf b Q P T U=>exact F
 |lp=>exact F
 |mp=>exact F
 trivial;have u:(BJ H)[id]? =some (.live n (t.E.cl l)):=by rw[FC,d];rfl
 refine Uz (by simp[BJ]) λX g w s=>?_;have C: ∀j,(BJ ((H.map (P8 id i t l)).set id .dead))[j]? =if j=id then some .dead else(H[j]?).map λe=>(P8 id i t l e).enc:=by intro j;rw[FC];by_cases v:j=id;subst v;rw[if_pos rfl,H8 (by simpa using G)];rfl;grind
 have back: ∀(j:Nat) (e:FZ),(BJ ((H.map (P8 id i t l)).set id .dead))[j]? =some e->e≠ .dead->j≠id/\ ∃k,(BJ H)[j]? =some k/\k≠ .dead:=by
  intro j e a f;rw[C]at a;split at a;injection a with a;exact(f a.symm).elim;rename_i v;refine⟨v,?_⟩;cases z:H[j]? with
  |none=>rw[z]at a;cases a
  |some k=>
   refine⟨k.enc,by rw[FC,z];rfl,λL=>f ?_⟩;rw[z]at a;simp only[Bl,Am]at a;cases k with
   |live b D=>simp[Ds.enc]at L
   |dead=>exact a.symm
   |buf b Q P T U=>simp[Ds.enc]at L
   |lp=>simp[Ds.enc]at L
   |mp=>simp[Ds.enc]at L
 have y:(cx X g (BJ H) w).Later (cx X g (BJ ((H.map (P8 id i t l)).set id .dead)) w):=dm (by simp[BJ]) λj e a f=>(back j e a f).2;have hO: ∀B,g.io id=some B-> ¬(cx X g (BJ ((H.map (P8 id i t l)).set id .dead)) w).O B:=by rintro B I (hX|⟨j,e,a,f,J⟩);exact(s.out B hX).2 ⟨id,_,u,k!,I⟩;obtain⟨v,k,Y,Z⟩:=back j e a f;exact v (s.inj j id _ _ B Y u Z k! J I)
 have o:Conv (cx X g (BJ H) w) (cx X g (BJ ((H.map (P8 id i t l)).set id .dead)) w) (.sl id n t.sz 0 n) (.vs t.sz (l.map t.enc)):=λc r=>Bp.froze s u (AE1 t.E l) (by rw[hn];exact Bs _) y rfl hO r;refine⟨⟨by simp[BJ],λj e' a=>?_⟩,λtt v' m=>?_⟩;rw[C]at a;split at a;injection a with a;exact .inl a.symm;cases z:H[j]? with
 |none=>rw[z]at a;cases a
 |some k=>
  rw[z]at a;simp only[Bl,Am]at a;have x:(BJ H)[j]? =some k.enc:=by rw[FC,z];rfl
  cases k with
  |live b D=>
   refine .inr (.inl ?_);cases b with
   |true=>simp only[P8,Ds.enc]at a;exact⟨0,lvs D,lvs D,x,a.symm,rfl,(SU.later y _).2⟩
   |false=>simp only[P8,Ds.enc]at a;obtain⟨V,W⟩:=mU y d o (ok.heap _ (BP z));exact⟨0,lvs D,_,x,a.symm,V,W⟩
  |dead=>exact .inl a.symm
  |buf b Q P T U=>simp only[P8,Ds.enc]at a;exact .inr (.inl ⟨T,Q.E.cl P,Q.E.cl P,x,a.symm,rfl,(SU.later y _).2⟩)
  |lp=>subst a;exact .inr (.inr ⟨x,λ_ _ h=>by cases h⟩)
  |mp=>subst a;exact .inr (.inr ⟨x,λ_ _ h=>by cases h⟩)
 simp only[B4,Mf,Bh]at m;obtain⟨p,M,e⟩:=m;simp only[Function.comp,Du]at e;obtain⟨rfl,rfl⟩:=e;exact⟨p.2.enc,Bh.2 ⟨p,M,rfl⟩,pP y d o (ok.env p M)⟩;cases h
@[reducible] def DL:List Ty->Type
 |[]=>Unit
 |[t]=>t.D
 |t::u::r=>t.D×DL (u::r)
def zP:(ts:List Ty)->List TV->Option (DL ts)
 |[],[]=>some ()
 |[t],[v]=>t.data v
 |t::u::r,v::vs=>
  match t.data v,zP (u::r) vs with
  |some x,some y=>some (x,y)
  |_,_=>none
 |_,_=>none
def qb:(ts:List Ty)->DL ts->List TV
 |[],_=>[]
 |[t],x=>[t.tv x]
 |t::u::r,x=>t.tv x.1::qb (u::r) x.2
def fO:(ts:List Ty)->DL ts->List AZ
 |[],_=>[]
 |[t],x=>[t.enc x]
 |t::u::r,x=>t.enc x.1::fO (u::r) x.2
def one:List TV->TV
 |[v]=>v
 |vs=>.tup vs
def iw:List AZ->AZ
 |[v]=>v
 |vs=>.tup vs
def K8(bt:Ty):(rs:List Ty)->DL (rs++[bt])->DL rs×bt.D
 |[],y=>((),y)
 |[_],y=>(y.1,y.2)
 |_::u::r,y=>((y.1,(K8 bt (u::r) y.2).1),(K8 bt (u::r) y.2).2)
inductive Pt where
 |c2 (f:FuncId) (te:Ty) (ds rs:List Ty) (post:List AZ) (g:List te.D->DL ds->Option (DL (rs++[.list te])))
 |cl (f:FuncId) (t:Ty)
 |c0 (f:FuncId) (ds rs:List Ty) (g:DL ds->Option (DL rs))
 |c1 (f:FuncId) (pos:Nat) (bt:Ty) (ds rs:List Ty) (g:bt.D->DL ds->Option (DL (rs++[bt])))
def Pt.f:Pt->FuncId
 | .c0 f .. =>f
 | .c1 f .. =>f
 | .c2 f .. =>f
 | .cl f _=>f
def fnB:AZ->AZ->Bool
 | .fn (.func F) [] [],.fn (.func G) [] []=>Nat.beq F G
 |_,_=>false
def AEr{w:AZ}(h:fnB u w=true):u=w:=by unfold fnB at h;split at h<;>simp_all
def sM:List TV->List AZ->Bool
 |[],[]=>true
 | .c (.raw v)::r,w::s=>fnB v w&&sM r s
 |_,_=>false
def vc: ∀{l:List TV} {p:List AZ},sM l p=true->l.map TV.enc=p
 |[],[],_=>rfl
 |[],_::_,h=>by simp[sM]at h
 |v::r,[],h=>by cases v<;>simp[sM]at h
 |v::r,w::s,h=>by unfold sM at h;split at h;rename_i e;cases e;rename_i c d;injection c with a1 a2;injection d with a b;subst a1 a2 a b;simp only[BU]at h;rw[Bv,vc h.2];exact congrArg (· ::_) (AEr h.1);cases h
def UY:Nat->AZ->List AZ->List AZ
 |0,v,l=>v::l
 |n+1,v,x::l=>x::UY n v l
 |_+1,v,[]=>[v]
def Pt.Ok(P:Program):Pt->Prop
 | .c2 f te ds rs post g=> ∀l x y,g l x=some y->(K8 (.list te) rs y).2.length=l.length-> ∀H id,H[id]? =some (.live l.length (te.E.cl l))->
  EJ P f (.sl id l.length te.sz 0 l.length::(fO ds x++post)) H (C6 (iw (fO rs (K8 (.list te) rs y).1)) (H.set id (.live l.length (te.E.cl (K8 (.list te) rs y).2))))
 | .cl f t=> ∀(l:List t.D) (H:Ap),(∀e∈H,e.ok H)->(l=[]->EJ P f [.vs t.sz []] (BJ H) (C6 (.vs t.sz []) (BJ (H++[.dead]))))/\
  ∀r,l≠ []->app [] l=some r->EJ P f [.vs t.sz (l.map t.enc)] (BJ H) (C6 (.sl H.length r.length t.sz 0 r.length) (BJ (H++[.buf false t r r.length 0])))
 | .c0 f ds rs g=> ∀x y,g x=some y-> ∀H,EJ P f (fO ds x) H (C6 (iw (fO rs y)) H)
 | .c1 f pos bt ds rs g=> ∀b x y,g b x=some y-> ∀H id,H[id]? =some (.live 0 (bt.enc b).cells)->EJ P f (UY pos (.ptr id 0 0) (fO ds x)) H (C6 (iw (fO rs (K8 bt rs y).1)) (H.set id (.live 0 (bt.enc (K8 bt rs y).2).cells)))
section
variable {R:Type}
def xm(c:Pt)(vs:List TV)(H:Ap)(k:TV->Ap->Option R):Option R:=
 match c with
 | .c0 _ ds rs g=>match zP ds vs with|some x=>(g x).bind λy=>k (one (qb rs y)) H|none=>none
 | .c1 _ pos bt ds rs g=>
  match vs[pos]? with
  |some (.c (.raw (.ptr id 0 0)))=>
   match H[id]? with
   |some (.live false cs)=>
    match bt.all cs,zP ds (vs.take pos++vs.drop (pos+1))with
    |some b,some x=>(g b x).bind λy=>k (one (qb rs (K8 bt rs y).1)) (H.set id (.live false (bt.lvs (K8 bt rs y).2)))
    |_,_=>none
   |_=>none
  |_=>none
 | .c2 _ te ds rs post g=>
  match vs with
  | .c (.own id ver _ _)::r=>
   match H[id]? with
   |some (.buf false t l n' ver')=>
    match Nat.beq ver ver' with
    |true=>
     if h:(Ty.list t).beq (Ty.list te)=true then
      match zP ds (r.take ds.length),sM (r.drop ds.length) post with
      |some x,true=>(g (Ty.cast h l) x).bind λy=>
       cond (Nat.beq (K8 (.list te) rs y).2.length n') (k (one (qb rs (K8 (.list te) rs y).1)) (H.set id (.buf false te (K8 (.list te) rs y).2 n' ver'))) none
      |_,_=>none
     else none
    |false=>none
   |_=>none
  |_=>none
 | .cl _ t=>
  match vs with
  |[.c (.ls te l)]=>
   if h:(Ty.list te).beq (Ty.list t)=true then
    cond (decide (((l.length:Nat):Int)=0)) (k (.c (.ls t [])) (H++[.dead])) ((app (α:=t.D) [] (Ty.cast h l)).bind λr=>k (.c (.own H.length 0 t r.length)) (H++[.buf false t r r.length 0]))
   else none
  |[.c .nil]=>k (.c (.ls t [])) (H++[.dead])
  |_=>none
def U1: ∀(a:List Ty) (x:DL a),(qb a x).map TV.enc=fO a x
 |[],_=>rfl
 |[t],x=>by simp only[qb,fO,Bv,HE,t.tv_enc]
 |t::u::r,x=>by simp only[qb,fO,Bv,t.tv_enc,U1 (u::r)]
theorem gd{H:Ap}: ∀(b:List Ty) (x:DL b),∀v∈qb b x,v.ok H
 |[],_,v,a=>by simp[qb]at a
 |[t],x,v,a=>by simp only[qb,BC]at a;subst a;exact t.tv_ok x
 |t::u::r,x,v,a=>by simp only[qb,Av]at a;rcases a with rfl|a;exact t.tv_ok _;exact gd (u::r) x.2 v a
def oL(a:List TV):(one a).enc=iw (a.map TV.enc):=by
 match a with
 |[]=>rfl
 |[v]=>rfl
 |v::w::r=>simp only[one,iw,TV.enc,pB,Bv]
def th(h: ∀v∈m,v.ok b):(one m).ok b:=by
 match m,h with
 |[],h=>exact Qg h
 |[v],h=>exact h v k!
 |v::w::r,h=>exact Qg h
def VN: ∀{a:List Ty} {b:List TV} {x:DL a},zP a b=some x->Dc (b.map TV.enc) (fO a x)
 |[],[],x,h=>Dc.refl _
 |[t],[v],x,h=>Dc.one (MB h)
 |t::u::r,v::b,x,h=>by simp only[zP]at h;split at h;rename_i y z c d;injection h with h;subst h;exact(Dc.one (MB c)).append (VN d);cases h
 |[],_::_,x,h=>by simp[zP]at h
 |[t],[],x,h=>by simp[zP]at h
 |[t],_::_::_,x,h=>by simp[zP]at h
 |_::_::_,[],x,h=>by simp[zP]at h
theorem pY: ∀{n:Nat} {a:List AZ} {v:AZ} {b:List AZ},a[n]? =some v->Dc (a.take n++a.drop (n+1)) b->Dc a (UY n v b)
 |0,u::a,v,b,h,hl=>by simp at h;subst h;exact(Dc.one (V0.refl u)).append hl
 |n+1,u::a,v,b,h,hl=>by
  cases b with
  |nil=>have:=hl.1;simp at this
  |cons d b=>
   have c:V0 u d:=by obtain⟨w,q1,q2⟩:=hl.2 0 d rfl;grind
   have e:Dc (a.take n++a.drop (n+1)) b:=⟨by have:=hl.1;simpa using this,λi g f=>hl.2 (i+1) g f⟩
   exact(Dc.one c).append (pY h e)
def ACn(c:Pt)(vs:List TV):List Nat:=
 match c with
 | .c0 .. =>[]
 | .c1 _ pos .. =>match vs[pos]? with|some v=>idT v|none=>[]
 | .c2 .. =>match vs[0]? with|some v=>idT v|none=>[]
 | .cl .. =>[]
def AGe(c:Pt)(vs:List TV):List TV:=
 match c with
 | .c2 .. =>vs.drop 1
 |_=>vs
def ui{c:Pt}(hc:c.Ok P){k:TV→Ap→Option R}{r:R}(hv: ∀v∈m,v.ok b)(K: ∀e∈b,e.ok b)(h:xm c m b k=some r):
  ∃v O,EJ P c.f (m.map TV.enc) (BJ b) (C6 v.enc (BJ O))/\k v O=some r/\v.ok O/\(∀e∈O,e.ok O)/\CE b O/\Frame (ACn c m) b O:=by
 unfold xm at h;split at h;rename_i f S A g;split at h;rename_i x hx;obtain⟨y,hy,h⟩:=Dt.1 h;refine⟨_,b,?_,h,th (gd A y),K,CE.refl b,Frame.refl _ _⟩;rw[oL,U1];have hl:=VN hx;refine EJ.before (args2:=fO S x) (H2:=BJ b) hl.1 (λX g0 w s=>⟨⟨rfl,λj e' p=>?_⟩,λj Z p=>?_⟩) (hc x y hy _);cases e' with
 |dead=>exact .inl rfl
 |live g1 L=>exact .inr (.inl ⟨g1,L,L,p,rfl,rfl,λi v hi=>⟨v,hi,λ_ r=>r⟩⟩)
 |_=>exact .inr (.inr ⟨p,k!⟩)
 obtain⟨v,q1,q2⟩:=hl.2 j Z p;exact⟨v,q1,λd W=>q2 _ _ W⟩;cases h;rename_i f pos J S A g;split at h;rename_i id hp;split at h;rename_i cs o;split at h;rename_i H x hb hx;obtain⟨y,hy,h⟩:=Dt.1 h;have G:CE b (b.set id (.live false (J.lvs (K8 J A y).2))):=CE.set o rfl λ_ _ _ _ _ h=>by cases h
 refine⟨_,_,?_,h,th (gd A _),Tz G K (J.lvs_ok _),G,Frame.set (by simp only[ACn,hp];exact BC.2 rfl)⟩;rw[oL,U1,Ni];have C:id<(BJ b).length:=by rw[Ce];exact Gw o
 have hl:=VN hx;have ar:=Fg hb;have a:Dc (m.map TV.enc) (UY pos (.ptr id 0 0) (fO S x)):=by refine pY ?_ (by rw[<-List.map_take,<-jQ,<-Md];exact hl);rw[CD,hp];rfl
 have D:=hc H x y hy ((BJ b).set id (.live 0 (J.enc H).cells)) id (by rw[H8 C]);rw[Wg]at D;have e1:(Ds.live false (J.lvs (K8 J A y).2)).enc= .live 0 (J.enc (K8 J A y).2).cells:=by simp only[Ds.enc,J.lvs_enc]
 rw[e1];refine EJ.before a.1 (λX g0 w s=>?_) D;have ad:BJ b=(BJ b).set id (.live 0 (lvs cs)):=by
  have:(BJ b)[id]? =some (.live 0 (lvs cs)):=by rw[FC,o];rfl
  apply H7;intro j;by_cases F:j=id;subst F;rw[H8 C,this];rw[Dy (λe=>F e.symm)]
 have ao:(cx X g0 (BJ b) w).Later (cx X g0 ((BJ b).set id (.live 0 (J.enc H).cells)) w):=by refine dm k! λj e p ax=>?_;by_cases F:j=id;subst F;exact⟨.live 0 (lvs cs),by rw[FC,o];rfl,k!⟩;rw[Dy (λe=>F e.symm)]at p;exact⟨e,p,ax⟩
 refine⟨TG.set_less C ad rfl ar ao,λj Z p=>?_⟩;obtain⟨v,q1,q2⟩:=a.2 j Z p;exact⟨v,q1,λd W=>q2 _ _ (W.later ao)⟩;cases h;cases h;cases h;rename_i f Y S A N g;split at h;rename_i id B t0 n0 r0;split at h;rename_i t l V a0 o;split at h;rename_i hb;have al:=DG hb;subst al;split at h;rename_i I;have n:=Ty.beq_eq _ _ I;injection n with n;subst n;split at h;rename_i x hx hp;obtain⟨y,hy,h⟩:=Dt.1 h;have z:(Ty.cast I l:List t.D)=l:=rfl;rw[z]at hy;have hn:V=l.length:=K _ (BP o);have hr:UZ b id B t0 n0:=hv _ Jp (.own id B t0 n0) (by simp[TV.refs]);obtain⟨_,q⟩:=hr.2 _ _ _ _ _ o;obtain⟨rfl,rfl⟩:=q rfl;cases T:Nat.beq (K8 (.list t) A y).2.length V with
 |false=>rw[T]at h;cases h
 |true=>
  rw[T]at h;have M:(K8 (.list t) A y).2.length=V:=DG T;have G:CE b (b.set id (.buf false t (K8 (.list t) A y).2 V B)):=CE.set o rfl λ_ _ _ _ _ e=>by cases e;exact⟨_,_,_,_,rfl,.inr ⟨rfl,rfl⟩⟩
  refine⟨_,_,?_,h,th (gd A _),Tz G K M.symm,G,Frame.set (by simp[ACn,idT])⟩;rw[oL,U1,Ni];have hl:=VN hx;have U:=vc hp;have a:Dc ((TV.c (.own id B t V)::r0).map TV.enc) (.sl id l.length t.sz 0 l.length::(fO S x++N)):=by
   rw[Bv,<-Di S.length r0,Md,U];have e1:(TV.c (.own id B t V)).enc= .sl id l.length t.sz 0 l.length:=by rw[<-hn];rfl
   rw[e1];rw[<-og];rw[<-og (l:=fO S x++N)];exact(Dc.refl _).append (hl.append (Dc.refl _))
  have D:=hc l x y hy (by rw[M,hn]) (BJ b) id (by rw[FC,o,<-hn];rfl);have e2:(Ds.buf false t (K8 (.list t) A y).2 V B).enc= .live l.length (t.E.cl (K8 (.list t) A y).2):=by rw[<-hn];rfl
  rw[e2];refine EJ.before a.1 (λX g0 w s=>⟨⟨rfl,λj e' p=>?_⟩,λj Z p=>?_⟩) D;cases e' with
  |dead=>exact .inl rfl
  |live g1 L=>exact .inr (.inl ⟨g1,L,L,p,rfl,rfl,λi v hi=>⟨v,hi,λ_ r=>r⟩⟩)
  |_=>exact .inr (.inr ⟨p,k!⟩)
  obtain⟨v,q1,q2⟩:=a.2 j Z p;exact⟨v,q1,λd W=>q2 _ _ W⟩
 cases h;cases h;cases h;cases h;cases h;rename_i f t;have same: ∀{args u:List AZ} {Q:AZ->Ax->Prop},Dc args u->EJ P f u (BJ b) Q->EJ P f args (BJ b) Q:=λa D=>by
  refine EJ.before a.1 (λX g0 w s=>⟨⟨rfl,λj e' p=>?_⟩,λj Z p=>?_⟩) D;cases e' with
  |dead=>exact .inl rfl
  |live g1 L=>exact .inr (.inl ⟨g1,L,L,p,rfl,rfl,λi v hi=>⟨v,hi,λ_ r=>r⟩⟩)
  |_=>exact .inr (.inr ⟨p,k!⟩)
  obtain⟨v,q1,q2⟩:=a.2 j Z p;exact⟨v,q1,λd W=>q2 _ _ W⟩
 split at h;rename_i Y l;split at h;rename_i I;have n:=Ty.beq_eq _ _ I;injection n with n;subst n;have z:(Ty.cast I l:List Y.D)=l:=rfl;rw[z]at h;cases hz:decide (((l.length:Nat):Int)=0)with
 |true=>
  rw[hz]at h;have h0:l=[]:=by
   have:((l.length:Nat):Int)=0:=by simpa using hz
   exact EP o!
  subst h0;refine⟨TV.c (Bu.ls Y []),b++[Ds.dead],?_,h,Js trivial,PD K trivial,CE.push _ _,Frame.push _ _ _⟩;exact(hc [] b K).1 rfl
 |false=>
  rw[hz]at h;have h0:l≠ []:=by rintro rfl;simp at hz
  obtain⟨r,hr,h⟩:=Dt.1 h;have e:Ds.ok (b++[.buf false Y r r.length 0]) (.buf false Y r r.length 0):=rfl;have q:=(hc l b K).2 r h0 hr;refine⟨TV.c (Bu.own b.length 0 Y r.length),b++[Ds.buf false Y r r.length 0],?_,h,qA,PD K e,CE.push _ _,Frame.push _ _ _⟩;exact q
 cases h;refine⟨TV.c (Bu.ls t []),b++[Ds.dead],?_,h,Js trivial,PD K trivial,CE.push _ _,Frame.push _ _ _⟩;exact same (Dc.one (V0.nil t.sz_pos)) ((hc [] b K).1 rfl);cases h
end
section
variable {P:Program} {N:Nat} {o:Oper} {env:Env} {H:Ax} {K:AZ->Ax->Prop}
def pM{sz:Nat}{rows:List AZ}(n:o.op= .binOp .eql a c (.const (.slice none 0 0)) I)(E:P.underlying a=some (.slice W))(F:BL env c= .vs sz rows)
  (C: ∀b,(rows≠ []->b=false)->K (.bool b) H):JC P N o env H K:=by
 apply C2 (by rw[n];rfl);intro X h e w s Q;have l:=DA s.env c;rw[F]at l;generalize i:e.eval c=cx0 at l;cases l with
 | @vs sz rows t cap f m D p z J=>
  have k:=run_underlying E w;have g:(execOp e.eval o).run P w= .ok (.value (.bool t.isNone)) w:=by
   unfold execOp;rw[n];have r:e.eval (.const (.slice none 0 0))= .slice none 0 0:=rfl;have u:(eqGuard .eql a c (.const (.slice none 0 0)) (.slice t rows.length cap) (.slice none 0 0)).run P w= .ok () w:=by unfold eqGuard;simp
   have v:(Op.equal a (.slice t rows.length cap) (.slice none 0 0)).run P w= .ok t.isNone w:=by
    have y: ∃d,Op.maxDepth=d+1:=⟨9999,rfl⟩
    obtain⟨d,A⟩:=y;unfold Op.equal;rw[A];cases t<;>simp[Op.equalIn,k]
   simp only[i,r,Sem.run_bind,u,Result.andThen_ok,binOp,v,Sem.run_pure]
  unfold Oper.wp;rw[g,Oper.upon_value];refine⟨_,_,h,H,rfl,C t.isNone (λj=>?_),.bool _,s.sim,HC.refl _ _ _⟩;obtain⟨B,G,q,_⟩:=z j;rw[q];rfl
def JC.clear{t e:TypeId}{x:Operand}{id g l n sz:Nat}(ho:o.op= .call {callee:=.builtin .clear,args:= #[x],argTypes:= #[t]})(hd:o.dst=none)(he:eI P t=some (none,e,sz))(b1:RI P e=true)(hz:XZ P e=some Q)(W:Q.length=sz)
  (hx:BL env x= .sl id g sz l n) (E:H[id]? =some (FZ.live g i)) (a5:l+n*sz<=i.length) (hk:K (.tup []) (H.set id (.live g (VS i l (List.replicate n Q).flatten)))):JC P N o env H K:=by
 apply C2 (by rw[ho];rfl);intro X h a w s M;obtain⟨b3,b,hi⟩:=P7 he;obtain⟨z,zv,v,b6,bb,b4⟩:=TE b1;have a3:=iS hi v;obtain⟨i',y,a1,a9,a7⟩:=bd (cx X h H w) hz;have:i'=z:=by rw[v]at a1;exact(BV a1).symm
 subst this;have:y=zv:=by rw[bb]at a9;exact(BV a9).symm
 subst this;have A:y.cells.size=sz:=by rw[b4,a3]
 have rx:=DA s.env x;rw[hx]at rx;have R:=run_underlying b3 w;have S:(List.replicate n Q).flatten.length=n*sz:=by simp[W]
 obtain⟨ax,ao⟩:=s.sim.live id g i E;have b2: ∃ad cap,a.eval x= .slice ad n cap/\(n≠0-> ∃B,h.io id=some B/\ad=some ⟨B,l,none⟩):=by
  generalize a.eval x=c at rx;cases rx with
  |sl h1 h2 h3 hc=>rcases hc ax with⟨_,q2,_,q4⟩|⟨B,cap,q1,_,_,q4⟩;exact⟨none,0,by rw[q4,q2],λb0=>(b0 q2).elim⟩;exact⟨_,cap,q4,λ_=>⟨B,q1,rfl⟩⟩
 obtain⟨ad,cap,Z,bl⟩:=b2;have a2:id<H.length:=by rcases Aw id H.length with h2|h2;exact h2;rw[Cn h2]at E;cases E
 by_cases hn:n=0;subst hn;have F:(execOp a.eval o).run P w= .ok (.value (.tuple #[])) w:=by unfold execOp;rw[ho];simp only[resolve,invoke,builtin,Sem.run_bind,Sem.run_pure,Result.andThen_ok,Pw,Bv,HE,Z,Builtin.clear_];simp[R];cases ad<;>simp
 unfold Oper.wp;rw[F,Oper.upon_value];have e1:H.set id (.live g (VS i l (List.replicate 0 Q).flatten))=H:=by
  have:VS i l (List.replicate 0 Q).flatten=i:=by simp[VS]
  rw[this];apply H7;intro j;by_cases a4:j=id;subst a4;rw[H8 a2,E];rw[Dy λe=>a4 e.symm]
 rw[e1]at hk;exact⟨_,_,h,H,rfl,hk,.tup rfl λ_ _ _ h=>by (cases h),s.sim,HC.refl _ _ _⟩;obtain⟨B,J,rfl⟩:=bl hn;rcases ao with⟨a6,_⟩|⟨B',Y,T,fz,f,O,hb,al,b5,ar,I⟩;rw[show(cx X h H w).io id=h.io id from rfl,J]at a6;cases a6;rw[show(cx X h H w).io id=h.io id from rfl,J]at O;injection O with e0;subst e0;have V:(Builtin.zeroCells y.cells n).size=n*sz:=by rw[Xa,A]
 have G: ∀j,j<n*sz-> ∃d u,(Builtin.zeroCells y.cells n)[j]? =some d/\(List.replicate n Q).flatten[j]? =some u/\d.oneCell'=true/\Bp (cx X h H w) u d:=by
  intro j r;have a8:0<sz:=by rcases Ud sz with q|q;subst q;simp at r;exact q
  have hm:j%sz<y.cells.size:=by rw[A];exact Wk _ a8
  have D:y.cells[j%sz]? =some (y.cells[j%sz]'hm):=L8 hm;have a0: ∀(m j:Nat),j<m*sz->(List.replicate m Q).flatten[j]? =Q[j%sz]? :=by
   intro m;induction m with
   |zero=>intro j r;omega
   |succ m ih=>intro j r;rw[jS,mA];rcases Aw j sz with bG|bt;rw[CO o!,R9 bG];rw[Ch o!,W,ih (j-sz) (by rw[FN]at r;omega),<-Nat.mod_eq_sub_mod bt]
  have a':Q[j%sz]? =some (Q[j%sz]'(by rw[W];exact Wk _ a8)):=Au _;have U:(Builtin.zeroCells y.cells n)[j]? =some (y.cells[j%sz]'hm):=by
   unfold Builtin.zeroCells;rw[Wl,Array.getElem?_range,if_pos (by rw[A];exact r)];have bN:j%y.cells.size<y.cells.size:=by rw[A];rw[A]at hm;exact hm
   rw[Bl,getElem!_pos y.cells _ bN];simp only[A]
  cases a7 with
  |agg q1 q2 q3=>exact⟨_,_,U,by rw[a0 n j r,a'],q2 _ _ D,q3 _ _ _ a' D⟩
 obtain⟨w',L,p1,p2,p3,p4,p5,p6,p7,p8,p9⟩:=T1 (P:=P) (off:=l) (Builtin.zeroCells y.cells n).toList 0 Y w hb (by simp[V];omega) ar (λd hd=>by
  obtain⟨j,r⟩:=Dm hd;have bz:j<n*sz:=by rw[<-V];have:=(Kb.1 r).1;simpa using this
  obtain⟨d',u,q1,_,q3,_⟩:=G j bz;rw[Nd]at r;rw[r]at q1;injection q1 with q1;rw[q1];exact q3)
 have F:(execOp a.eval o).run P w= .ok (.value (.tuple #[])) w':=by
  unfold execOp;rw[ho];simp only[resolve,invoke,builtin,Sem.run_bind,Sem.run_pure,Result.andThen_ok,Pw,Bv,HE,Z,Builtin.clear_];have b7: ∀(α:Type) (p q:α),(match n with|0=>p|_+1=>q)=q:=by
   intro α p q;cases n with
   |zero=>exact(hn rfl).elim
   |succ m=>rfl
  obtain⟨m,rfl⟩: ∃m,n=m+1:=⟨n-1,o!⟩
  simp[R,zeroValue,typeInfo,v,bb];rw[p1];rfl
 have hh:Holds (cx X h H w) (VS i l (List.replicate n Q).flatten) L fz:=by
  refine⟨λj=>if l<=j/\j<l+n*sz then(Builtin.zeroCells y.cells n).getD (j-l) undef else f j,by rw[gW (by rw[S];exact a5)];omega,by rw[p3];exact ar,λj u r=>?_⟩;rw[qP (by rw[S];exact a5),S]at r;rw[p4];simp only[P0,Dk,V,Nd];split at r;rename_i C;rw[if_pos C,if_pos C];obtain⟨d,u',q1,q2,q3,q4⟩:=G (j-l) o!;rw[q2]at r;injection r with r;subst r;have e:(Builtin.zeroCells y.cells n).getD (j-l) undef=d:=by rw[P3,q1];rfl
  rw[e];exact⟨q1,q3,q4⟩;rename_i C;rw[if_neg C,if_neg C];exact I j u r
 obtain⟨q1,q2⟩:=s.sim.upd (g':=g) (B:=B) (arr:=L) (T:=T) (fz:=fz) (w':=w') E (Aq _) (λ_=>⟨J,by rw[p3];exact al.symm⟩) (.inl J) p2 (λk _ hk=>p5 k hk) p6 p7 p8 (by rw[p9];exact Aq _) hh;unfold Oper.wp;rw[F,Oper.upon_value];exact⟨_,_,_,_,rfl,hk,.tup rfl λ_ _ _ h=>by (cases h),q1,q2⟩
def oB(k:o.op= .call {callee:=.builtin .clear,args:= #[c],argTypes:= #[a]})(m:P.underlying a=some (.slice I))
  (e:BL env c= .vs n []) (l:K (.tup []) H):JC P N o env H K:=by
 apply C2 (by rw[k];rfl);intro X h t w s Q;have j:=DA s.env c;rw[e]at j;have d:=run_underlying m w;have i: ∃f cap,t.eval c= .slice f 0 cap:=by
  generalize t.eval c=x at j;cases j with
  |vs=>exact⟨_,_,rfl⟩
 obtain⟨f,cap,g⟩:=i;have b:(execOp t.eval o).run P w= .ok (.value (.tuple #[])) w:=by unfold execOp;rw[k];simp only[resolve,invoke,builtin,Sem.run_bind,Sem.run_pure,Result.andThen_ok,Pw,Bv,HE,g,Builtin.clear_];simp[d];cases f<;>simp
 unfold Oper.wp;rw[b,Oper.upon_value];exact⟨_,_,h,H,rfl,l,.tup rfl λ_ _ _ h=>by (cases h),s.sim,HC.refl _ _ _⟩
end
def VW(P:Program)(N:Nat)(ops:Array Oper):List Oper->Env->Ax->(Env->Ax->Prop)->Prop
 |[],env,H,Q=> ∃env1 H1,Fz N H.length env H env1 H1/\Q env1 H1
 |o::rest,env,H,Q=> ∃env1 H1,Fz N H.length env H env1 H1/\
  Wd ops o.guard env1 (JC P N o env1 H1 λv H'=>VW P N ops rest (env1.putO o.dst v) H' Q) (VW P N ops rest (env1.putO o.dst (.tup [])) H1 Q)
def VW.weak{N:Nat}{Q:Env->Ax->Prop}{env1:Env}{H e:Ax}(w:Fz N H.length s H env1 e): ∀{os:List Oper},VW P N j os env1 e Q->VW P N j os s H Q
 |[],h=>by obtain⟨c,b,d,q⟩:=h;exact⟨c,b,w.trans (d.of_le w.1),q⟩
 |o::os,h=>by obtain⟨c,b,d,q⟩:=h;exact⟨c,b,w.trans (d.of_le w.1),q⟩
theorem gC{r:Option Nat}{C:Exit→Act→World→Prop}{Q:Env→Ax→Prop}:
  ∀(l:List Nat) (os:List Oper),l.map (j[·]?)=os.map some-> ∀(env:Env) (H:Ax) (h:Gh) (a:Act) (w:World),Ko N os=true->VW P N j os env H Q->St B h N env H a w->(∀f n y u q,Q f n->St B y N f n u q->HC h H w y n q->u.defers=a.defers->C .normal u q)->wpOpsIn (FR r) 0 P j C l a w:=by
 intro l;induction l with
 |nil=>
  intro os d env H h a w _ hr s z;have:os=[]:=t!
  subst this;obtain⟨env1,A,b,hr⟩:=hr;obtain⟨x,e,E,d⟩:=b.2 B h a w s;exact z env1 A x a w hr e (Fz.ext rfl b.1 E d (HC.refl h H w)) rfl
 |cons i l L=>
  intro os d env H h a w T hr s z;match os,d with
  |o::os,d=>
   simp at d;obtain⟨O,m⟩:=d;simp only[wpOpsIn,O];have g: ∀t,o.dst=some t->t<a.tmps.size:=by intro t Y;simp only[Ko]at T;rw[s.size];grind
   have p:Ko N os=true:=by simp_all[Ko]
   obtain⟨env1,A,b,hr⟩:=hr;obtain⟨x,e,E,d⟩:=b.2 B h a w s;have M:=Fz.ext rfl b.1 E d (HC.refl h H w);rcases vD e.env hr with⟨J,R⟩|⟨J,S⟩;rw[if_pos J];refine Oper.wpIn_mono ?_ (R r B x a w e C);rintro u q ⟨c,v,y,n,rfl,k,W,V,K⟩;have U:=K.later B;apply L os m _ n y _ q p k ⟨V,NZ.putO (e.env.later U) g W,(XS _ _ _).trans e.size⟩;intro env2 X m a2 G q2 F I D;exact z env2 X m a2 G q2 F (M.trans (K.trans I)) (D.trans (by cases o.dst<;>rfl));rw[if_neg q!];refine⟨λ_ _=>trivial,L os m _ A x _ w p S ⟨e.sim,NZ.putO e.env g (.tup rfl λ_ _ _ h=>by cases h),(XS _ _ _).trans e.size⟩ ?_⟩;intro env2 X m a2 G q2 F I D;exact z env2 X m a2 G q2 F (M.trans I) (D.trans (by cases o.dst<;>rfl))
theorem Ff{N:Nat}{H:Ax}{Q:Exit->Env->Ax->Prop}{id:Nat}{b:Array Oper}(i:Ko N b.toList=true)(h:VW P N b b.toList s H (Q .normal)):Mb P N (.region id b false) s H Q:=by intro r X g a w n _;refine wpIn_region (gC (List.range b.size) b.toList ?_ s H g a w i h n ?_);apply H7;grind;intro c d f l m q j k e;exact⟨f,c,d,q,j,k,.same e⟩
open Go.MapKept (IsKey)
def T9{α:Type}(n:Int)(v:α):List (Int×α)->List (Int×α)
 |[]=>[(n,v)]
 |p::r=>bif p.1==n then(n,v)::r else p::T9 n v r
def OG{α:Type}(n:Int):List (Int×α)->Option α
 |[]=>none
 |p::r=>bif p.1==n then some p.2 else OG n r
def vT{a c:Type}(f:a->c)(n:Int)(v:a): ∀b:List (Int×a),(T9 n v b).map (λp=>(p.1,f p.2))=T9 n (f v) (b.map λp=>(p.1,f p.2))
 |[]=>rfl
 |p::r=>by simp only[T9,Bv];cases p.1==n<;>simp[vT f n v r]
def py{b c:Type}(f:b->c)(n:Int): ∀a:List (Int×b),OG n (a.map λp=>(p.1,f p.2))=(OG n a).map f
 |[]=>rfl
 |p::r=>by simp only[OG,Bv];cases p.1==n<;>simp[py f n r]
section
variable {X:Nat->Prop} {h:Gh} {H:Ax} {w:World}
def Ix.of_extM{a:Gh}{d:World}(s:Ix X h H w)(k:HC h H w a p d)
  (key: ∀(id:Nat) (e:FZ),p[id]? =some e->e≠ .dead->(H[id]? =some e/\a.gen id=h.gen id/\a.io id=h.io id/\a.cap id=h.cap id/\ ∀B,h.io id=some B->d.heap[B]? =w.heap[B]?)\/(e.isB=true/\BAt a d id e))
  (inj: ∀(id b:Nat) (e g:FZ) (B:Nat),p[id]? =some e->p[b]? =some g->e≠ .dead->g≠ .dead->a.io id=some B->a.io b=some B->id=b):Ix X a p d:=
 s.of_ext' k (λi e j f=>(key i e j f).imp id λh=>.inr (.inr h)) inj
theorem Ix.push_m(s:Ix X h H w)(o:Obj)(cap:Nat)(E:FZ)(u:E.isB=true)
  (t:BAt (h.at_ H.length (some w.heap.size) 0 cap) {w with heap:=w.heap.push o} H.length E):
  Ix X (h.at_ H.length (some w.heap.size) 0 cap) (H++[E]) {w with heap:=w.heap.push o}:=by
 refine s.of_extM (HC.push o cap E) (λid e d g=>?_) λid q e r B m n b c k l=>?_;rcases Ij d with⟨a,d⟩|⟨rfl,rfl⟩;refine .inl ⟨d,by simp[Gh.at_,Be a],by simp[Gh.at_,Be a],by simp[Gh.at_,Be a],λB f=>?_⟩;have:=s.io_at d g f;grind;grind;rcases Ij m with⟨l1,i⟩|⟨rfl,_⟩<;>rcases Ij n with⟨l2,j⟩|⟨rfl,_⟩;exact s.inj _ _ _ _ B i j b c (by simpa[Gh.at_,Be l1]using k) (by simpa[Gh.at_,Be l2]using l);have p:=s.io_at i b (by simpa[Gh.at_,Be l1]using k);grind[Gh.at_];have p:=s.io_at j c (by simpa[Gh.at_,Be l2]using l);grind[Gh.at_];rfl
def Ix.setM(s:Ix X h H w){E E':FZ}{o o':Obj}{w':World}(g:H[N]? =some E)(J:E.isB=true)(v:E'.isB=true)(m:h.io N=some n)(K:w.heap[n]? =some o)(A: ∀r,o≠ .loop r)
  (G:w'.heap=w.heap.setIfInBounds n o') (C:w'.os=w.os) (O:w'.tape=w.tape) (M:w'.output=w.output) (x:BAt h w' N E'):
  Ix X h (H.set N E') w'/\HC h H w h (H.set N E') w':=by
 have d:N<H.length:=by rcases Aw N H.length with f|f;exact f;rw[Cn f]at g;cases g
 have b:E≠ .dead:=by rintro rfl;cases J
 have B: ∀k,k≠n->w'.heap[k]? =w.heap[k]? :=λk h=>by rw[G];simp[Ue h]
 have own: ∀k,owned h (H.set N E') k->owned h H k:=by rintro k ⟨i,e,j,c,f⟩;rcases JB d j with⟨y,a⟩|⟨rfl,_⟩;exact⟨i,e,a,c,f⟩;exact⟨i,E,g,b,f⟩
 have I:HC h H w h (H.set N E') w':=by refine⟨C,O,M,by rw[G];simp,λk _ hn=>B k λe=>hn ⟨N,E,g,b,by rw[e];exact m⟩,k!,λ_ _=>Aq _,λ_ _ _=>⟨rfl,rfl⟩,λk B=>.inl (own k B),λk r hr=>⟨r,?_⟩⟩;refine(B k λe=>?_).trans hr;subst e;rw[K]at hr;injection hr with hr;exact A r hr
 refine⟨s.of_extM I (λi e j c=>?_) (λi D e F k j f p q t u=>?_),I⟩;rcases JB d j with⟨y,a⟩|⟨rfl,rfl⟩;refine .inl ⟨a,rfl,rfl,rfl,λk z=>B k λe=>?_⟩;subst e;exact y (s.inj i N _ _ k a g c b z m);exact .inr ⟨v,x⟩;rcases JB d j with⟨y,a⟩|⟨rfl,rfl⟩<;>rcases JB d f with⟨L,l⟩|⟨rfl,rfl⟩;exact s.inj i D e F k a l p q t u;exact s.inj i D e E k a g p b t u;exact s.inj i D E F k g l b q t u;rfl
end
def jl{k:IntKind}{n:Int}: ∀(l:List MapEntry) (a:List (Int×AZ)) (i:Nat),l.length=a.length→(∀(j:Nat) (p:Int×AZ),a[j]? =some p→ ∃e:MapEntry,l[j]? =some e∧e.key= .int k p.1)→
  (Instr.findNow (.int k) (.int k n) l i=some none/\OG n a=none/\ ∀v,T9 n v a=a++[(n,v)])\/∃j e p,Instr.findNow (.int k) (.int k n) l i=some (some (i+j,e.val))/\l[j]? =some e/\a[j]? =some p/\e.key= .int k n/\OG n a=some p.2/\ ∀v,T9 n v a=a.set j (n,v)
 |[],[],_,_,_=>.inl ⟨rfl,rfl,λ_=>rfl⟩
 |[],_::_,_,hl,_=>by simp at hl
 |_::_,[],_,hl,_=>by simp at hl
 |e::l,p::a,i,hl,h=>by
  obtain⟨z,o,r⟩:=h 0 p rfl;simp only[Zu,Am]at o;subst o;have m:Instr.sameNow (.int k) (.int k n) e.key=some (n==p.1):=by rw[r];simp[Instr.sameNow]
  by_cases hn:p.1=n;refine .inr ⟨0,e,p,?_,rfl,rfl,by rw[r,hn],?_,λv=>?_⟩;simp[Instr.findNow,m,hn];simp[OG,hn];simp[T9,hn];have c:(n==p.1)=false:=by simp;exact λe=>hn e.symm
  have b:(p.1==n)=false:=by simpa using hn
  rcases jl (k:=k) (n:=n) l a (i+1) (by simpa using hl) (λj q x=>by simpa using h (j+1) q (by simpa using x))with⟨d,f,g⟩|⟨j,s,y,d,f,g,t,u,w⟩;exact .inl ⟨by simp[Instr.findNow,m,c,d],by simp[OG,b,f],λv=>by simp[T9,b,g]⟩;exact .inr ⟨j+1,s,y,by simp[Instr.findNow,m,c,d];omega,by simpa using f,by simpa using g,t,by simp[OG,b,u],λv=>by simp[T9,b,w]⟩
section
variable {P:Program} {N:Nat} {o:Oper} {env:Env} {H:Ax} {K:AZ->Ax->Prop}
def JC.makeMap(k:IntKind)(c:o.op= .makeMap a none)(e:K (.mp H.length) (H++[.mp k []])):JC P N o env H K:=by
 apply C2 (by rw[c];rfl);intro X h t w s Q;have b:(execOp t.eval o).run P w= .ok (.value (.map (some w.heap.size))) {w with heap:=w.heap.push (.map #[] 0)}:=by unfold execOp;rw[c];rfl
 unfold Oper.wp;rw[b,Oper.upon_value];refine⟨_,_,_,_,rfl,e,?_,s.sim.push_m (.map #[] 0) 0 (.mp k []) rfl ⟨w.heap.size, #[],by simp[Gh.at_],by simp[Gh.at_],k!,rfl,λj p d=>by simp at d⟩,HC.push _ _ _⟩;exact .mp (by simp[cx]) rfl λ_=>⟨w.heap.size,by simp[cx,Gh.at_],rfl⟩
def ABO(s:St B h N env H M w)(u:BL env c= .mp n)(r:H[n]? =some (.mp z J)):
  ∃(a:Nat) (b:Array MapEntry),M.eval c= .map (some a)/\h.io n=some a/\h.gen n=0/\w.heap[a]? =some (.map b b.size)/\b.size=J.length/\∀(j:Nat) (p:Int×AZ),J[j]? =some p-> ∃e:MapEntry,b[j]? =some e/\e.born=j/\e.key= .int z p.1/\ ∀c,Bp c p.2 e.val:=by
 have g:=DA s.env c;rw[u]at g;obtain⟨a,b,i,l,m,X,o⟩:=s.sim.bld n _ r rfl;generalize M.eval c=x at g;cases g with
 |mp t y q=>obtain⟨v,d,rfl⟩:=q l;rw[show(cx B h H w).io n=h.io n from rfl,i]at d;injection d with d;subst d;exact⟨a,b,rfl,i,l,m,X,o⟩
def AA9(s:St X h N env H M w)(d:BL env c= .int z F):M.eval c= .int z F:=by have b:=DA s.env c;rw[d]at b;generalize M.eval c=a at b;cases b;rfl
theorem JC.mapUpdate{t U et:TypeId}{m I A:Operand}{id:Nat}{k:IntKind}{es:List (Int×AZ)}{n:Int}{v:AZ}(S:o.op= .mapUpdate t m I A)(hm:BL env m= .mp id)(G:BL env I= .int k n)
  (hp: ∀(x:Cx) (c:Value),Bp x (BL env A) c-> ∀y,Bp y v c) (T:P.underlying t=some (.map U et)) (l:P.underlying U=some (.int k)) (E:H[id]? =some (.mp k es)) (R:K .any (H.set id (.mp k (T9 n v es)))):JC P N o env H K:=by
 apply C2 (by rw[S];rfl);intro X h a w s Q;obtain⟨B,b,q1,q2,q3,q4,q5,q6⟩:=ABO s hm E;have V:=AA9 s G;have W:=hp _ _ (DA s.env A);generalize u:a.eval A=c at W;have al:id<H.length:=q!
 have f:IsKey (.int k) (.int k n):=rfl;have q:B<w.heap.size:=(Zv.1 q4).1;have z:execOp a.eval o=(do Instr.mapUpdate t (a.eval m) (a.eval I) (a.eval A);pure .skip):=by unfold execOp;rw[S]
 rcases jl (n:=n) (k:=k) b.toList es 0 q! (λj p d=>by obtain⟨e,Z,_,C,_⟩:=q6 j p d;exact⟨e,q!,C⟩)with⟨D,M,O⟩|⟨j,Y,p0,D,M,O,h4,h5,h6⟩;have g:(execOp a.eval o).run P w= .ok .skip {w with heap:=w.heap.setIfInBounds B (.map (b.push {key:=.int k n,val:=c,born:=b.size}) (b.size+1))}:=by rw[z,q1,V,u];simp[Instr.mapUpdate,run_underlying T,MapKept.run_getObj_map q4,MapKept.run_checkKey l f,MapKept.run_findKey l D,MapKept.run_setObj_map _ q4]
 unfold Oper.wp;rw[g,Oper.upon_skip];obtain⟨J,L⟩:=s.sim.setM (E':=.mp k (T9 n v es)) (o':=.map (b.push {key:=.int k n,val:=c,born:=b.size}) (b.size+1))
  (w':={w with heap:=w.heap.setIfInBounds B (.map (b.push {key:=.int k n,val:=c,born:=b.size}) (b.size+1))}) E rfl rfl q2 q4 (λr e=>by cases e) rfl rfl rfl rfl (by refine⟨B,b.push {key:=.int k n,val:=c,born:=b.size},q2,q3,by simp[q],q!,λj p d=>?_⟩;rw[O]at d;rcases P1 j es.length with ax|rfl|ad;grind;rw[Ch (Aq _),Ge]at d;simp only[Zu,Am]at d;subst d;exact⟨{key:=.int k n,val:=c,born:=b.size},q!,q5,rfl,W⟩;rw[Cn w!]at d;cases d)
 exact⟨_,_,_,_,rfl,R,.any _,J,L⟩;have d:b[j]? =some Y:=by simpa using M
 have ar:j<b.size:=(Zv.1 d).1;have g:(execOp a.eval o).run P w= .ok .skip {w with heap:=w.heap.setIfInBounds B (.map (b.modify j λe=>{e with key:=.int k n,val:=c}) b.size)}:=by rw[z,q1,V,u];simp[Instr.mapUpdate,run_underlying T,MapKept.run_getObj_map q4,MapKept.run_checkKey l f,MapKept.run_findKey l D,d,h4,MapKept.run_keyThatStays f,MapKept.run_setObj_map _ q4]
 unfold Oper.wp;rw[g,Oper.upon_skip];obtain⟨J,L⟩:=s.sim.setM (E':=.mp k (T9 n v es)) (o':=.map (b.modify j λe=>{e with key:=.int k n,val:=c}) b.size)
  (w':={w with heap:=w.heap.setIfInBounds B (.map (b.modify j λe=>{e with key:=.int k n,val:=c}) b.size)}) E rfl rfl q2 q4 (λr e=>by cases e) rfl rfl rfl rfl (by refine⟨B,b.modify j λe=>{e with key:=.int k n,val:=c},q2,q3,by simp[q],q!,λi p F=>?_⟩;rw[h6,WW]at F;split at F;grind;rename_i ao;obtain⟨e,Z,C⟩:=q6 i p F;exact⟨e,q!,C⟩)
 exact⟨_,_,_,_,rfl,R,.any _,J,L⟩
def yh(P:Program)(t:TypeId):Option AZ:=
 match (P.info? t).bind (·.zero)with
 |some (.agg cs)=>if cs.toList.all (·.oneCell')then some (.agg (cs.toList.map nP))else none
 |some (.bool b)=>some (.bool b)
 |_=>none
theorem zx(h:yh P a=some u)(w:World): ∃v,(zeroValue a).run P w= .ok v w/\ ∀x,Bp x u v:=by unfold yh at h;split at h;rename_i d t;split at h;rename_i e;obtain⟨i,c,t⟩:=Dt.1 t;refine⟨.agg d,by simp[zeroValue,typeInfo,c,t],λx=>?_⟩;have:=uo x (.agg d);grind[zE];cases h;rename_i b t;obtain⟨i,c,t⟩:=Dt.1 t;injection h with h;subst h;exact⟨.bool b,by simp[zeroValue,typeInfo,c,t],λx=>.bool b⟩;cases h
theorem JC.lookup{id:Nat}{k:IntKind}{es:List (Int×AZ)}{n:Int}{z:AZ}{g:Bool}(T:o.op= .lookup a c L g)(hm:BL env c= .mp id)(G:BL env L= .int k n)
  (U:P.underlying a=some (.map I W)) (f:P.underlying I=some (.int k)) (hz:yh P W=some z) (he:H[id]? =some (.mp k es))
  (hk:K (bif g then .tup [(OG n es).getD z,.bool (OG n es).isSome]else(OG n es).getD z) H):JC P N o env H K:=by
 apply C2 (by rw[T];cases g<;>rfl);intro X h O w s Q;obtain⟨B,q,q1,q2,q3,q4,q5,q6⟩:=ABO s hm he;have Y:=AA9 s G;have i:IsKey (.int k) (.int k n):=rfl;have y:execOp O.eval o=(do pure (.value (<-Instr.lookup a (O.eval c) (O.eval L) g))):=by unfold execOp;rw[T]
 have x: ∀(J:Value) (v:AZ) (b:Bool),(execOp O.eval o).run P w= .ok (.value (bif g then .tuple #[J,.bool b]else J)) w→Bp (cx X h H w) v J→K (bif g then .tup [v,.bool b]else v) H→
   Oper.wp P o O w (λZ t=> ∃J v E C,Z=O.put o.dst J/\K v C/\Bp (cx X E C t) v J/\Ix X E C t/\HC h H w E C t) Q:=by
  intro J v b A V hK;unfold Oper.wp;rw[A,Oper.upon_value];refine⟨_,_,h,H,rfl,hK,?_,s.sim,HC.refl _ _ _⟩;cases g;exact V;refine .tup k! λj u d l S=>?_;rcases j with _|_|j;grind;simp at l S;subst l S;exact .bool b;grind
 rcases jl (n:=n) (k:=k) q.toList es 0 q! (λj p l=>by obtain⟨e,r,_,D,_⟩:=q6 j p l;exact⟨e,q!,D⟩)with⟨F,h2,R⟩|⟨j,M,m,F,h2,R,h4,h5,h6⟩;obtain⟨v,V,hr⟩:=zx hz w;refine x v z false ?_ (hr _) q!;rw[y,q1,Y];cases g<;>simp[Instr.lookup,run_underlying U,MapKept.run_getObj_map q4,MapKept.run_checkKey f i,MapKept.run_findKey f F,V];obtain⟨e',r,_,_,D⟩:=q6 j m R;have l:q[j]? =some M:=q!
 rw[l]at r;injection r with r;subst r;refine x M.val m.2 true ?_ (D _) q!;rw[y,q1,Y];cases g<;>simp[Instr.lookup,run_underlying U,MapKept.run_getObj_map q4,MapKept.run_checkKey f i,MapKept.run_findKey f F]
theorem JC.range{id:Nat}{k:IntKind}{es:List (Int×AZ)}(d:o.op= .range a c)(j:BL env c= .mp id)(l:P.underlying a=some (.map I W))(g:H[id]? =some (.mp k es))
  (i:K (.itp H.length id) (H++[.it es.length []])):JC P N o env H K:=by
 apply C2 (by rw[d];rfl);intro X h n w s Q;obtain⟨B,e,q1,q2,q3,q4,q5,q6⟩:=ABO s j g;have t:id<H.length:=q!
 have b:(execOp n.eval o).run P w= .ok (.value (.pointer (some ⟨w.heap.size,0,none⟩))) {w with heap:=w.heap.push (.mapIter (some B) es.length #[] es.length)}:=by unfold execOp;rw[d];simp only[q1];simp[Instr.range,run_underlying l,MapKept.run_getObj_map q4,newObj,q5];rfl
 unfold Oper.wp;rw[b,Oper.upon_value];refine⟨_,_,_,_,rfl,i,?_,s.sim.push_m (.mapIter (some B) es.length #[] es.length) B (.it es.length []) rfl ⟨w.heap.size,by simp[Gh.at_],by simp[Gh.at_],by simp[Gh.at_]⟩,HC.push _ _ _⟩;exact .itp (by simp[cx]) (by simp[cx];omega) rfl λ_=>⟨w.heap.size,by simp[cx,Gh.at_],rfl,λ_=>by simp[cx,Gh.at_,Be t,q2]⟩
def AD0{m:Nat}(s:St B h N env H M w)(F:BL env c= .itp U m)(D:H[U]? =some (.it n O))(C:H[m]? =some (.mp z J)):
  ∃(X f:Nat) (b:Array MapEntry),M.eval c= .pointer (some ⟨X,0,none⟩)/\h.io U=some X/\h.gen U=0/\w.heap[X]? =some (.mapIter (some f) n O.toArray n)/\h.cap U=f/\w.heap[f]? =some (.map b b.size)/\b.size=J.length/\∀(j:Nat) (p:Int×AZ),J[j]? =some p-> ∃e:MapEntry,b[j]? =some e/\e.born=j/\e.key= .int z p.1/\ ∀c,Bp c p.2 e.val:=by
 have l:=DA s.env c;rw[F]at l;obtain⟨X,o,q,r⟩:=s.sim.bld U _ D rfl;obtain⟨f,b,t,u,v,y,a⟩:=s.sim.bld m _ C rfl;generalize M.eval c=k at l;cases l with
 |itp E x I A=>obtain⟨G,g,rfl,d⟩:=A q;rw[show(cx B h H w).io U=h.io U from rfl,o]at g;injection g with g;subst g;have d:=d u;rw[show(cx B h H w).io m=h.io m from rfl,t]at d;injection d with d;have d:f=h.cap U:=d;subst d;exact⟨X,_,b,rfl,o,q,r,rfl,v,y,a⟩
theorem JC.next{x:Operand}{id m:Nat}{k:IntKind}{es:List (Int×AZ)}{seen:List Nat}(ho:o.op= .next x false)(hx:BL env x= .itp id m)(f:H[id]? =some (.it es.length seen))(he:H[m]? =some (.mp k es))
  (z:(∀j,j<es.length->j∈seen)->K (.tup [.bool false]) H)
  (C: ∀(j:Nat) (p:Int×AZ),es[j]? =some p->j∉seen->K (.tup [.bool true,.int k p.1,p.2]) (H.set id (.it es.length (seen++[j])))):JC P N o env H K:=by
 apply C2 (by rw[ho];rfl);intro X h a w s Q;obtain⟨B,v,c,q1,q2,q3,q4,qc,q5,q6,q7⟩:=AD0 s hx f he;have ar:execOp a.eval o=(do pure (.value (<-Instr.next (a.eval x) false o.type))):=by unfold execOp;rw[ho]
 have y: ∀(j:Nat) (e:MapEntry),c[j]? =some e->e.born=j/\j<es.length:=by
  intro j e q;have I:j<es.length:=by grind[Array.getElem?_eq_some_iff]
  obtain⟨e',E,T,_⟩:=q7 j _ (Au I);rw[q]at E;injection E with E;subst E;exact⟨T,I⟩
 have t: ∀e∈c.toList,e.born<es.length:=λe A=>by grind[List.getElem?_of_mem]
 have M:w.heap[B]? =some (.mapIter (some v) es.length seen.toArray es.length):=q4;generalize V:Array.filter (λe:MapEntry=>!seen.toArray.contains e.born) c=L;have G: ∀e∈L.toList,e∈c.toList/\e.born∉seen:=λe A=>by rw[<-V]at A;simpa using A
 have E:L.filter (λx=>decide (x.born<es.length))=L:=Array.filter_eq_self.2 (λx hx=>by simpa using t x (G x (by simpa using hx)).1);have T:L.filter (λx=>decide (x.born>=es.length))= #[]:=by grind[Array.filter_eq_empty_iff]
 have D:(Instr.next (.pointer (some ⟨B,0,none⟩)) false o.type).run P w=((do
   let b:=(if L.isEmpty then #[none]else #[])++L.map some;match b[<-choose (.mapNext b.size)]? with
   |some (some e)=>
    setObj B (.mapIter (some v) es.length (seen.toArray.push e.born) c.size)
    pure (.tuple #[.bool true,e.key,e.val])
   |some none=>pure (.tuple #[.bool false])
   |none=>stuck "Next: no such candidate"):Sem Value).run P w:=by
  simp only[Instr.next,getObj,Sem.run_bind,Sem.run,M,q5,Result.andThen,next_test_false seen.toArray c es.length es.length t (Aq _),PG,if_false,V,E,T,Array.append_empty];rfl
 by_cases h0:L.size=0;have W:L= #[]:=oZ h0;subst W;have g:(execOp a.eval o).run P w= .ok (.value (.tuple #[.bool false])) w:=by simp_all[Sem.run_bind,Sem.run,Question.forced]
 unfold Oper.wp;rw[g,Oper.upon_value];refine⟨_,_,h,H,rfl,z λj q=>?_,.tup k! λi u d f n=>?_,s.sim,HC.refl _ _ _⟩;obtain⟨e,O,R,_⟩:=q7 j _ (Au q);rcases Classical.em (j∈seen)with U|U;exact U;have:e∈(Array.filter (λe:MapEntry=>!seen.toArray.contains e.born) c).toList:=by have A:e∈c:=rD O;simp[A,R,U]
 rw[V]at this;simp at this;rcases i with _|i;simp at f n;subst f n;exact .bool false;simp at f;have a0:L.isEmpty=false:=by simp[Array.isEmpty,h0]
 obtain⟨i,l,ax,Y,Z,ad,al,ao⟩: ∃(i:Nat) (l:World),i<L.size/\l.heap=w.heap/\l.os=w.os/\l.output=w.output/\l.tape=w.tape/\(choose (Question.mapNext L.size)).run P w= .ok i l:=by by_cases hf:L.size<=1;exact⟨0,w,o!,rfl,rfl,rfl,rfl,by simp[choose,Sem.run,Question.forced,hf]⟩;exact⟨_,w.drew,Wk _ o!,rfl,rfl,rfl,rfl,by simp only[choose,Sem.run,Question.forced,decide_eq_true_eq,hf,if_false,Question.cut];rfl⟩
 have A:L[i]∈L.toList:=k!
 obtain⟨m1,m2⟩:=G _ A;obtain⟨j,q⟩:=Dm m1;have q:c[j]? =some L[i]:=by simpa using q
 obtain⟨O,R⟩:=y j _ q;obtain⟨e,S,c2,c3,c4⟩:=q7 j _ (Au R);rw[q]at S;injection S with S;subst S;have F:B<w.heap.size:=(Zv.1 q4).1;have g:(execOp a.eval o).run P w= .ok (.value (.tuple #[.bool true,.int k es[j].1,L[i].val])) {l with heap:=w.heap.setIfInBounds B (.mapIter (some v) es.length (seen++[j]).toArray es.length)}:=by
  rw[ar,q1,Sem.run_bind,D];simp only[a0,PG,if_false,Array.empty_append,Array.size_map,Sem.run_bind,ao,Result.andThen_ok,Wl,L8 ax,Bl];have J:(setObj B (.mapIter (some v) es.length (seen.toArray.push L[i].born) c.size)).run P l= .ok () {l with heap:=w.heap.setIfInBounds B (.mapIter (some v) es.length (seen++[j]).toArray es.length)}:=by simp[setObj,Sem.run,Y,M,O,q6]
  simp only[J,Result.andThen_ok,Sem.run_pure,c3]
 unfold Oper.wp;rw[g,Oper.upon_value];obtain⟨s1,s2⟩:=s.sim.setM (E':=.it es.length (seen++[j])) (o':=.mapIter (some v) es.length (seen++[j]).toArray es.length) (w':={l with heap:=w.heap.setIfInBounds B (.mapIter (some v) es.length (seen++[j]).toArray es.length)}) f rfl rfl q2 q4 (λr e=>by cases e) rfl Z al ad
  ⟨B,q2,q3,by simp[F,qc]⟩
 refine⟨_,_,_,_,rfl,C j _ (Au R) (by rw[<-O];exact m2),.tup k! λi u d f n=>?_,s1,s2⟩;rcases i with _|_|_|i;simp at f n;subst f n;exact .bool true;simp at f n;subst f n;exact .int _ _;simp at f n;subst f n;exact c4 _;simp at f
theorem JC.entry{x:Operand}{id m j:Nat}{k:IntKind}{es:List (Int×AZ)}{seen:List Nat}{p:Int×AZ}(l:o.op= .entry x)(A:BL env x= .itp id m)(f:H[id]? =some (.it es.length (seen++[j])))(r:H[m]? =some (.mp k es))
  (v:es[j]? =some p) (y:K (.tup [.int k p.1,p.2]) H):JC P N o env H K:=by
 apply C2 (by rw[l];rfl);intro X h a w s Q;obtain⟨B,C,b,q1,q2,q3,q4,J,q5,q6,q7⟩:=AD0 s A f r;obtain⟨e,D,n,q,E⟩:=q7 j p v;have t:b.find? (λx=>x.born==j)=some e:=by
  rw[<-Array.find?_toList,<-n];refine find_born e b.toList ?_ q!;have I:b.toList.map (·.born)=List.range b.size:=by refine H7 λi=>?_;rw[CD,Nd];rcases Aw i b.size with z|z;obtain⟨e,F,G,_⟩:=q7 i _ (Au (by omega:i<es.length));grind;grind
  grind
 have c:(execOp a.eval o).run P w= .ok (.value (.tuple #[.int k p.1,e.val])) w:=by unfold execOp;rw[l];simp only[q1];simp[Instr.entry,getObj,Sem.run,q4,q5,q6,t,q]
 unfold Oper.wp;rw[c,Oper.upon_value];refine⟨_,_,h,H,rfl,y,.tup k! λi u d f g=>?_,s.sim,HC.refl _ _ _⟩;rcases i with _|_|i;simp at f g;subst f g;exact .int _ _;grind;grind
end
mutual
def Ty.flat:Ty->Bool
 | .list _=>false
 | .arr _ t=>t.flat
 | .prod ts=>ts.flat
 |_=>true
def RJ.flat:RJ->Bool
 | .one t=>t.flat
 | .cons t ts=>t.flat&&ts.flat
end
def Plain(v:AZ):Prop:= ∀(x:Cx) (c:Value),Bp x v c-> ∀y,Bp y v c
theorem Plain.agg{a:List AZ}(h: ∀v∈a,Plain v):Plain (.agg a):=λx c r y=>by
 cases r with
 |agg e f i=>exact .agg e f λj v d b g=>h v (BP b) x d (i j v d b g) y
mutual
theorem Ty.plain_cells: ∀(t:Ty),t.flat=true-> ∀x:t.D,∀v∈(t.enc x).cells,Plain v
 | .bool,_,b,v,d=>by simp only[Ty.enc,AZ.cells,BC]at d;subst d;exact λ_ c r y=>by cases r;exact .bool _
 | .int k,_,n,v,d=>by simp only[Ty.enc,AZ.cells,BC]at d;subst d;exact λ_ c r y=>by cases r;exact .int _ _
 | .str,_,s,v,d=>by
  simp only[Ty.enc,AZ.cells,BC]at d;subst d;exact λ_ c r y=>by
   cases r with
   |str t e=>exact .str t e
 | .list t,h,_,_,_=>by cases h
 | .arr n t,h,a,v,d=>by simp only[Ty.enc,AZ.cells,Hh]at d;obtain⟨i,_,d⟩:=d;exact t.plain_cells h _ v d
 | .prod ts,h,x,v,d=>ts.plain_cells h x v d
theorem RJ.plain_cells: ∀(b:RJ),b.flat=true-> ∀x:b.D,∀v∈b.cells x,Plain v
 | .one t,h,x,v,a=>t.plain_cells h x v a
 | .cons t b,h,x,v,a=>by simp only[RJ.flat,BU]at h;simp only[RJ.cells,Ao]at a;rcases a with a|a;exact t.plain_cells h.1 _ v a;exact b.plain_cells h.2 _ v a
end
theorem Ty.plain(t:Ty)(h:t.flat=true)(x:t.D):Plain (t.enc x):=by have a:=t.plain_cells h x;cases t<;>grind[Plain.agg,Ty.enc,AZ.cells]
section
variable {R:Type}
def pu(P:Program)(H:Ap)(t:TypeId)(k:TV->Ap->Option R):Option R:=
 match P.underlying t with
 |some (.map kt et)=>
  match P.underlying kt,xY P 1000 et with
  |some (.int kk),some ty=>k (.c (.raw (.mp H.length))) (H++[.mp false kk ty []])
  |_,_=>none
 |_=>none
def js(P:Program)(H:Ap)(t:TypeId)(m kx v:TV)(k:TV->Ap->Option R):Option R:=
 match P.underlying t with
 |some (.map kt _)=>
  match m,kx with
  | .c (.raw (.mp id)),.c (.it kk n)=>
   match P.underlying kt,H[id]? with
   |some (.int k1),some (.mp false k2 ty es)=>
    if k1=kk/\k2=kk then
     match ty.flat with
     |true=>match ty.data v with|some x=>k Rv (H.set id (.mp false k2 ty (T9 n x es)))|none=>none
     |false=>none
    else none
   |_,_=>none
  |_,_=>none
 |_=>none
def tY(P:Program)(H:Ap)(t:TypeId)(g:Bool)(m kx:TV)(k:TV->Ap->Option R):Option R:=
 match P.underlying t with
 |some (.map kt et)=>
  match m,kx with
  | .c (.raw (.mp id)),.c (.it kk n)=>
   match P.underlying kt,H[id]?,yh P et with
   |some (.int k1),some (.mp _ k2 ty es),some z=>
    if k1=kk/\k2=kk then
     match AZ.beq z (ty.enc ty.zero)with
     |true=>k (bif g then .tup [ty.tv ((OG n es).getD ty.zero),.c (.bl (OG n es).isSome)]else ty.tv ((OG n es).getD ty.zero)) H
     |false=>none
    else none
   |_,_,_=>none
  |_,_=>none
 |_=>none
variable {P:Program} {N:Nat} {o:Oper} {env:Bd} {H:Ap} {k:TV->Ap->Option R} {r:R}
theorem pw(ok:PE env H)(b:o.op= .makeMap a none)(h:pu P H a k=some r): ∀F,lX P N o env H F k r:=by intro F;unfold pu at h;split at h;split at h;rename_i t c _ _;have st:CE H (H++[.mp false t c []]):=CE.push H _;refine⟨_,_,JC.makeMap t b ⟨?_,?_⟩,h,Js trivial,PD ok.heap trivial,st,Frame.push F H _⟩;show AZ.mp (BJ H).length=AZ.mp H.length;rw[Ce];rw[Qb];rfl;cases h;cases h
def ml{u:Operand}(ok:PE env H)(E:o.op= .mapUpdate a c L u)(h:js P H a (Is env c) (Is env L) (Is env u) k=some r):lX P N o env H (List.range H.length) k r:=by
 have b:=JW env;unfold js at h;split at h;rename_i K I F;split at h;rename_i id J n D C;split at h;rename_i k1 q t d g i;split at h;rename_i f;obtain⟨w,A⟩:=f;subst w A;split at h;rename_i e;split at h;rename_i x G;have st:CE H (H.set id (.mp false q t (T9 n x d))):=CE.set i rfl λ_ _ _ _ _ h=>by cases h
 refine⟨Rv,_,JC.mapUpdate (id:=id) (k:=q) (n:=n) (v:=t.enc x) (es:=d.map λp=>(p.1,t.enc p.2)) E (by rw[b,D];rfl) (by rw[b,C];rfl) (λy m l z=>?_) F g (by rw[FC,i];rfl) ⟨rfl,?_⟩,h,dz,Tz st ok.heap trivial,st,λj B hn=>(hn (Hi.2 B)).elim⟩;rw[b]at l;exact t.plain e x y m (MB G y m l) z;rw[Ni,<-vT];rfl;cases h;cases h;cases h;cases h;cases h;cases h
theorem qw(ok:PE env H)(y:o.op= .lookup a c L A)(h:tY P H a A (Is env c) (Is env L) k=some r): ∀F,lX P N o env H F k r:=by
 intro F;have i:=JW env;unfold tY at h;split at h;rename_i G D t;split at h;rename_i id E n x w;split at h;rename_i k1 ro C j m z f u B;split at h;rename_i d;obtain⟨l,q⟩:=d;subst l q;split at h;rename_i s;have e:(OG n (m.map λp=>(p.1,j.enc p.2))).getD z=(j.tv ((OG n m).getD j.zero)).enc:=by rw[py,beq_eq _ _ s,Ty.tv_enc];cases OG n m<;>rfl
 refine⟨_,H,JC.lookup (id:=id) (k:=C) (n:=n) (z:=z) (g:=A) (es:=m.map λp=>(p.1,j.enc p.2)) y (by rw[i,x];rfl) (by rw[i,w];rfl) t f B (by rw[FC,u];rfl) ⟨?_,rfl⟩,h,?_,ok.heap,CE.refl H,Frame.refl F H⟩;rw[e,py];cases A<;>cases OG n m<;>rfl;cases A;exact Ty.tv_ok _ _;refine Qg λv b=>?_;rcases Av.1 b with rfl|b;exact Ty.tv_ok _ _;simp at b;subst b;exact Js trivial;cases h;cases h;cases h;cases h;cases h
end
inductive Tgt where
 |fn (F:FuncId)
 |yd (id:Nat)
abbrev Qj:= ∀{R:Type},Tgt->List TV->Ap->(TV->Ap->Option R)->Option R
def di(ops:Array Oper)(g:Option (Nat×Bool))(env:Bd):Option Bool:=
 match g with
 |none=>some true
 |some (j,want)=>
  match (ops[j]?).bind (·.dst)with
  |some d=>match env.get d with| .c (.bl b)=>some (b==want)| .tup []=>some false|_=>none
  |none=>none
def K6:List Bu->List Nat
 |[]=>[]
 | .own id _ _ _::r=>id::K6 r
 |_::r=>K6 r
def behind(H:Ap)(v:TV):List Nat:=
 match v with
 | .c (.raw (.ptr id 0 0))=>match H[id]? with|some (.live false cs)=>K6 cs|_=>[]
 |v=>K6 v.refs
def HG:List Nat->Bd->Ap->Bd×Ap
 |[],env,H=>(env,H)
 |id::r,env,H=>match frz id env H with|some (e,h)=>HG r e h|none=>HG r env H
def yB:List Pt->FuncId->Option Pt
 |[],_=>none
 |c::r,F=>match Nat.beq c.f F with|true=>some c|false=>yB r F
def ADL:List AZ->List TV->Bool
 |[.fn (.func C) _ _],vs=>match vs.getLast? with|some (.c (.raw (.fn (.func D) _ _)))=>Nat.beq C D|_=>true
 |_,_=>true
def AFt:Pt->List TV->Bool
 | .c2 _ _ _ _ post _,.c (.own _ _ _ _)::r=>ADL post r
 | .c2 _ _ _ _ _ _,_=>false
 |_,_=>true
def pJ:List Pt->FuncId->List TV->Option Pt
 |[],_,_=>none
 |c::r,F,vs=>match Nat.beq c.f F&&AFt c vs with|true=>some c|false=>pJ r F vs
def gy(env:Bd)(op:Op):Option (FuncId×List TV):=
 match op with
 | .call c=>
  match c.callee with
  | .value f=>match Is env f with| .c (.raw (.fn (.func F) first caps))=>some (F,first.map z7++c.args.toList.map (Is env)++caps.map z7)|_=>none
  |_=>none
 |_=>none
def qZ(env:Bd)(c:Call):Option (Nat×List TV):=
 match c.callee with
 | .value f=>match Is env f with| .c (.raw (.yf id))=>some (id,c.args.toList.map (Is env))|_=>none
 |_=>none
def jJ(cs:List Pt)(env:Bd)(H:Ap)(op:Op):List Nat:=
 match op with
 | .call c=>
  match gy env (.call c)with
  |some (F,vs)=>match pJ cs F vs with|some ct=>(AGe ct vs).flatMap (behind H)|none=>[]
  |none=>[]
 | .buildSlice _ _ parts=>parts.toList.flatMap λp=>K6 (Is env p.2).refs
 | .store _ a v=>match Is env a with| .aptr .. =>K6 (Is env v).refs| .bptr .. =>K6 (Is env v).refs|_=>[]
 | .slice _ x _ _ _=>K6 (Is env x).refs
 |_=>[]
def U4(H H':Ap):Ap:=H++H'.drop H.length
def isNil:List R->Bool
 |[]=>true
 |_=>false
section
variable {R:Type}
def tJ(cs:List Pt)(env:Bd)(H:Ap)(op:Op):List Nat:=
 match op with
 | .store _ a _=>idT (Is env a)
 | .mapUpdate .. =>List.range H.length
 | .call c=>
  match gy env (.call c)with
  |some (F,vs)=>match pJ cs F vs with|some ct=>ACn ct vs|none=>(match isNil vs with|true=>[]|false=>List.range H.length)
  |none=>
   match qZ env c with
   |some _=>List.range H.length
   |none=>match c with|{callee:=.builtin .append,args:=⟨[s,_]⟩,.. }=>idT (Is env s)|_=>[]
 |_=>[]
def uw(P:Program)(cs:List Pt)(call:Qj)(env:Bd)(H:Ap)(op:Op)(k:TV->Ap->Option R):Option R:=
 match op with
 | .alloc t=>wK P H t k
 | .box _ x=>ACX H (Is env x) k
 | .store t a v=>storeT P H t (Is env a) (Is env v) k
 | .buildSlice t len parts=>YA P env H t len parts k
 | .makeSlice t x y=>dp P H t (Is env x) (Is env y) k
 | .makeMap t none=>pu P H t k
 | .mapUpdate t m x y=>js P H t (Is env m) (Is env x) (Is env y) k
 | .lookup t m x g=>tY P H t g (Is env m) (Is env x) k
 | .convert s d x=>
  match kd P d with
  | .bytes=>qX P H s d (Is env x) k
  |_=>quT P env H (.convert s d x) λv=>k v H
 | .call c=>
  match gy env (.call c)with
  |some (F,vs)=>
   match Enters P F with
   |true=>
    match pJ cs F vs with
    |some ct=>xm ct vs H k
    |none=>match isNil vs with|true=>call (.fn F) [] (H.map Ds.lock) λv H'=>k v (U4 H H')|false=>call (.fn F) vs H k
   |false=>none
  |none=>
   match qZ env c with
   |some (id,vs)=>call (.yd id) vs H k
   |none=>
    match c with
    |{callee:=.builtin .append,args:=⟨[s,x]⟩,argTypes:=⟨[t,t']⟩}=>match Nat.beq t t' with|true=>oF P H t (Is env s) (Is env x) k|false=>none
    |c=>quT P env H (.call c) λv=>k v H
 |op=>quT P env H op λv=>k v H
def force(f:Bool)(v:TV)(k:TV->Option R):Option R:=
 match f with
 |true=>match v with| .c (.bl b)=>cond b (k (.c (.bl true))) (k (.c (.bl false)))|v=>k v
 |false=>k v
def guards(ops:Array Oper):List Nat:=ops.toList.filterMap λo=>o.guard.map (·.1)
def OE(j:Nat):List Nat->Bool
 |[]=>false
 |i::r=>match Nat.beq i j with|true=>true|false=>OE j r
def AEw{α:Type}(l:List α)(i:Int)(z:α):Option (List α):=if 0<=i/\i<=(l.length:Int)then some (l.take i.toNat++List.replicate (l.length-i.toNat) z)else none
def xq(o1 o2:Oper):Option (Nat×TypeId×Operand×Operand):=
 match o1.dst,o1.op,o1.guard,o2.dst,o2.op,o2.guard with
 |some d,.slice t x (some lo) none none,none,none,.call {callee:=.builtin .clear,args:=⟨[.tmp d']⟩,argTypes:=⟨[t']⟩},none=>match Nat.beq d d'&&Nat.beq t t' with|true=>some (d,t,x,lo)|false=>none
 |_,_,_,_,_,_=>none
def AEm(P:Program)(H:Ap)(t:TypeId)(x lo:TV)(k:Ap->Option R):Option R:=
 match x,lo with
 | .c (.own id ver _ _),.c (.it _ i)=>
  match H[id]? with
  |some (.buf false t2 l n2 ver2)=>
   match Nat.beq ver ver2,elT P t,eI P t with
   |true,some te,some (none,e,_)=>
    if h:(Ty.list t2).beq (Ty.list te)=true then
     match qa P e with
     |some z=>match te.all z with|some zd=>(AEw (α:=te.D) (Ty.cast h l) i zd).bind λl'=>k (H.set id (.buf false te l' n2 ver2))|none=>none
     |none=>none
    else none
   |_,_,_=>none
  |_=>none
 |_,_=>none
def ACg(o:Oper):List Oper->Option (Nat×TypeId×Operand×Operand)
 |o2::_=>xq o o2
 |[]=>none
def qO(P:Program)(cs:List Pt)(call:Qj)(ops:Array Oper)(gs:List Nat)(sk:Bool):List Oper->Nat->Bd->Ap->(Bd->Ap->Option R)->Option R
 |[],_,env,H,k=>k env H
 |o::r,j,env,H,k=>
  match sk with
  |true=>qO P cs call ops gs false r (j+1) env H k
  |false=>
   match ACg o r with
   |some (d,t,x,lo)=>AEm P H t (Is env x) (Is env lo) λH'=>qO P cs call ops gs true r (j+1) (env.put d Rv) H' k
   |none=>
    match di ops o.guard env with
    |some true=>
     match HG (jJ cs env H o.op) env H with
     |(env1,H1)=>uw P cs call env1 H1 o.op λv H'=>force (OE j gs) v λv'=>qO P cs call ops gs false r (j+1) (env1.putO o.dst v') H' k
    |some false=>qO P cs call ops gs false r (j+1) (env.putO o.dst (.tup [])) H k
    |none=>none
end
def lH(H:Ap)(v:TV):Prop:= ∀id ver t n,Bu.own id ver t n∈v.refs-> ∀t' l n' ver',H[id]? ≠some (.buf false t' l n' ver')
structure E9(A:List Nat)(env:Bd)(H:Ap)(env':Bd)(H':Ap):Prop where
 step:CE H H'
 same: ∀t,t∉A->lH H (env.get t)->env'.get t=env.get t
def lH.step(h:CE G b)(d:e.ok G)(k:lH G e):lH b e:=by intro id a t n c;have hr:=d (.own id a t n) c;exact h.nb id hr.1 (k id a t n c)
theorem E9.refl(A:List Nat)(env:Bd)(H:Ap):E9 A env H env H:=⟨CE.refl H,λ_ _ _=>rfl⟩
def E9.trans{A B:List Nat}{d g i:Bd}{c e f:Ap}(ok: ∀p∈d,p.2.ok c)(a:E9 A d c g e)(b:E9 B g e i f):E9 (A++B) d c i f:=by refine⟨a.step.trans b.step,λt l k=>?_⟩;have j:=a.same t (λh=>l (Gc _ h)) k;rw[b.same t (λh=>l (Mg _ h)) (by rw[j];exact k.step a.step (ma ok t)),j]
def E9.mono{B:List Nat}(a:E9 O g b Y G)(h: ∀t,t∈O->t∈B):E9 B g b Y G:=⟨a.step,λt A f=>a.same t (λq=>A (h t q)) f⟩
def tN{t u:Nat}(h:u≠t): ∀env:Bd,(Bd.del t env).get u=env.get u
 |[]=>rfl
 |(k,v)::r=>by simp only[Bd.del];by_cases a:k=t;subst a;rw[Jr];simp only[Bd.get,beq_false (Ue h)];exact tN h r;rw[beq_false a];simp only[Bd.get];rw[tN h r]
def lT(h:n≠N):(g.put N e).get n=g.get n:=by simp_all[Bd.put,Bd.get,beq_false,Ue,tN]
theorem tZ{p:Nat×TV}{t:Nat}: ∀{env:Bd},p∈Bd.del t env->p∈env
 |(k,v)::r,h=>by simp only[Bd.del]at h;split at h;exact Cd _ (tZ h);rcases Av.1 h with rfl|h;simp;exact Cd _ (tZ h)
theorem Ze{d:Option Nat}(h: ∀p∈g,p.2.ok b)(H:e.ok b): ∀p∈g.putO d e,p.2.ok b:=by
 cases d with
 |none=>exact h
 |some t=>intro p a;rcases Av.1 a with rfl|a;exact H;grind[tZ]
def ku{l:List t.D}(g:b[N]? =some (.buf false t l n U))(j: ∀a f e d,v= .own a f e d-> ∀i l2 h c,b[a]? ≠some (.buf false i l2 h c)):NO N U t l v=v:=by
 cases v with
 |own a f e d=>simp only[NO];split<;>simp_all
 |_=>rfl
mutual
theorem pQ{H:Ap}{id n k:Nat}{t:Ty}{l:List t.D}(d:H[id]? =some (.buf false t l n k)): ∀{v:TV},lH H v->kv id k t l v=v
 | .c z,h=>by simp only[kv];rw[ku d λa j i f e=>h a j i f (by simp[TV.refs,e])]
 | .g b,h=>by
  simp only[kv,TV.g.injEq];have: ∀b:List Bu,(∀a j i f,Bu.own a j i f∈b-> ∀s l2 q m,H[a]? ≠some (.buf false s l2 q m))->b.map (NO id k t l)=b:=by
   intro b;induction b with
   |nil=>intro _;rfl
   |cons z r p=>intro h;rw[Bv,p λa j i f o=>h a j i f (by simp[o]),ku d λa j i f e=>h a j i f (by simp[e])]
  exact this b h
 | .tup vs,h=>by simp only[kv];rw[nU d (vs:=vs) h]
 | .aptr ..,_=>rfl
 | .bptr ..,_=>rfl
 | .vptr ..,_=>rfl
theorem nU{H:Ap}{id n c:Nat}{t:Ty}{l:List t.D}(b:H[id]? =some (.buf false t l n c)): ∀{vs:List TV},lH H (.tup vs)->dG id c t l vs=vs
 |[],_=>rfl
 |v::r,h=>by simp only[dG];rw[pQ b (v:=v) λa g f e d=>h a g f e (by simp only[TV.refs,TV.refsL,Ao];exact .inl d),nU b (vs:=r) λa g f e d=>h a g f e (by simp only[TV.refs,TV.refsL,Ao]at d⊢;exact .inr d)]
end
def yF{f:TV->TV}(a:f Rv=Rv)(t:Nat): ∀env:Bd,Bd.get (env.map λp=>(p.1,f p.2)) t=f (env.get t)
 |[]=>a.symm
 |(k,v)::r=>by simp only[Bv,Bd.get];split;rfl;exact yF a t r
def AA3(h:frz N g b=some (Y,G))(t:Nat)(d:lH b (g.get t)):Y.get t=g.get t:=by unfold frz at h;split at h;rename_i e l n H a;obtain⟨rfl,rfl⟩:=h;rw[yF (f:=kv N H e l) rfl];exact pQ a d;cases h
def PK: ∀(a:List Nat) {env:Bd} {H:Ap},PE env H→PE (HG a env H).1 (HG a env H).2∧E9 [] env H (HG a env H).1 (HG a env H).2∧
  ∀N,Fz N (BJ H).length (B4 env) (BJ H) (B4 (HG a env H).1) (BJ (HG a env H).2)
 |[],env,H,ok=>⟨ok,E9.refl _ _ _,λN=>Fz.refl N _ _⟩
 |id::r,env,H,ok=>by simp only[HG];split;rename_i e h b;obtain⟨f,c,j⟩:=AEt ok b;obtain⟨g,i,k⟩:=PK r f;refine⟨g,(E9.trans (A:=[]) (B:=[]) ok.env ⟨c,λt _ d=>AA3 b t d⟩ i),λN=>(j N).trans ((k N).of_le (by rw[Ce,Ce];exact c.len))⟩;exact PK r ok
section
variable {P:Program} {N:Nat} {R:Type}
def xg(P:Program)(args:List AZ)(H:Ax)(v:AZ)(H':Ax):Tgt->Prop
 | .fn F=>EJ P F args H (C6 v H')
 | .yd id=> ∀(N:Nat) (o:Oper) (c:Call) (f:Operand) (env:Env),o.op= .call c->c.callee= .value f->BL env f= .yf id->c.args.toList.map (BL env)=args->JC P N o env H (C6 v H')
def Uw(P:Program)(call:Qj):Prop:= ∀{R:Type} tg vs H (k:TV->Ap->Option R) r,(∀v∈vs,v.ok H)->(∀e∈H,e.ok H)->call tg vs H k=some r->
 ∃v H',xg P (vs.map TV.enc) (BJ H) v.enc (BJ H') tg/\k v H'=some r/\v.ok H'/\(∀e∈H',e.ok H')/\CE H H'
theorem gO(h:di j q g=some true){B:Prop}(a:V):Wd j q (B4 g) V B:=by unfold di at h;grind[Wd,VM,Tb,TV.enc,Bu.one]
theorem lF(h:di j q g=some false){B:Prop}(b:B):Wd j q (B4 g) V B:=by unfold di at h;unfold Wd;split at h;cases h;rename_i a c;unfold VM;split at h;rename_i d f;simp only[f,Tb];split at h;grind[TV.enc,Bu.one];rename_i e;simp[e];exact b;cases h;cases h
theorem tQ(e: ∀d b,g.get d= .c (.bl b)->Y.get d= .c (.bl b))(h:di j q g=some true):di j q Y=some true:=by cases q<;>grind[di]
theorem pI: ∀{a:List Pt} {F:FuncId} {c:Pt},yB a F=some c->c∈a/\c.f=F
 |d::r,F,c,h=>by simp only[yB]at h;split at h;simp_all;obtain⟨b,e⟩:=pI h;grind
theorem pK: ∀{a:List Pt} {F:FuncId} {b:List TV} {c:Pt},pJ a F b=some c->c∈a/\c.f=F
 |d::r,F,b,c,h=>by simp only[pJ]at h;split at h;simp_all;obtain⟨e,g⟩:=pK h;grind
theorem sq{e:Op}(h:gy g e=some (S,m)):Go.Ab.callT (BL (B4 g)) e=some (.inl (S,m.map TV.enc))/\ ∀H,(∀p∈g,p.2.ok H)-> ∀v∈m,v.ok H:=by
 unfold gy at h;split at h;rename_i c;split at h;rename_i f d;split at h;rename_i G first a b
 simp at h;obtain⟨rfl,rfl⟩:=h;have j:BL (B4 g) f= .fn (.func G) first a:=by rw[JW,b];rfl
 have k: ∀l:List AZ,(l.map z7).map TV.enc=l:=by
  intro l;conv=>rhs;rw[<-bh l]
  grind[List.map_congr_left,eC]
 refine⟨?_,λH F v i=>?_⟩;simp_all[Go.Ab.callT,JW];simp at i;grind[gb,Y5];cases h;cases h;cases h
theorem vy{c:Call}(h:qZ g c=some (N,m)):(∃f,c.callee= .value f/\BL (B4 g) f= .yf N/\c.args.toList.map (BL (B4 g))=m.map TV.enc)/\ ∀H,(∀p∈g,p.2.ok H)-> ∀v∈m,v.ok H:=by unfold qZ at h;split at h;rename_i f a;split at h;rename_i i b;injection h with h;injection h with d e;subst d e;refine⟨⟨f,a,by rw[JW,b];rfl,?_⟩,λH j v k=>?_⟩;grind[List.map_congr_left,JW];grind[Y5];cases h;cases h
def AFG{k:TV->Ap->Option R}{r:R}(ok:PE g b)(h:quT P g b o.op (λv=>k v b)=some r): ∀F,lX P N o g b F k r:=by intro F;obtain⟨v,a,H,c⟩:=sO ok h;exact⟨v,b,Dj a ⟨rfl,rfl⟩,H,c,ok.heap,CE.refl b,Frame.refl F b⟩
theorem ql(H:Ap):BJ (H.map Ds.lock)=BJ H:=by grind[BJ,List.map_congr_left,pp]
theorem vR(h: ∀e∈b,e.ok b): ∀e∈b.map Ds.lock,e.ok (b.map Ds.lock):=by
 have f: ∀id a t n,UZ b id a t n->UZ (b.map Ds.lock) id a t n:=λid a t n q=>by
  refine⟨by simpa using q.1,λro y l w k c=>?_⟩;rw[CD]at c;cases j:b[id]? with
  |none=>grind
  |some e=>
   rw[j]at c;simp at c;cases e<;>simp only[Ds.lock]at c<;>first|(cases c;done)|skip
   injection c with _ m v o p;subst m o p;exact q.2 _ _ _ _ _ j
 have d: ∀x:Bu,x.ok b->x.ok (b.map Ds.lock):=λx i=>by
  cases x with
  |own id a t n=>exact f _ _ _ _ i
  |_=>trivial
 intro e c;obtain⟨u,r,rfl⟩:=Bh.1 c;have g:=h u r;cases u with
 |dead=>trivial
 |live H s=>exact λx i=>d x (g x i)
 |buf=>exact g
 |lp=>exact g
 |mp=>exact g
theorem AAa(L: ∀e∈b,e.ok b)(st:CE (b.map Ds.lock) G)(F: ∀e∈G,e.ok G):
  (∀v:TV,v.ok G->v.ok (U4 b G))/\(∀e∈U4 b G,e.ok (U4 b G))/\CE b (U4 b G)/\ ∀x:Cx,TG x x (BJ G) (BJ (U4 b G)):=by
 have K:b.length<=G.length:=by simpa using st.len
 have c:(U4 b G).length=G.length:=by grind[U4,List.length_append,List.length_drop]
 have o: ∀j,j<b.length->(U4 b G)[j]? =b[j]? :=λj p=>CO p;have I: ∀j,b.length<=j->(U4 b G)[j]? =G[j]? :=λj p=>by grind[U4]
 have keep: ∀(j:Nat) (e:Ds),b[j]? =some e->e≠ .dead->G[j]? =some e.lock:=λj e p a=>by apply st.ro j e.lock (by rw[CD,p];rfl);cases e<;>first|rfl|exact(a rfl).elim
 have A: ∀id f t n,UZ G id f t n->UZ (U4 b G) id f t n:=λid f t n q=>by refine⟨by rw[c];exact q.1,λro P l O D d=>?_⟩;rcases Aw id b.length with h|h;rw[o id h]at d;exact q.2 _ _ _ _ _ (keep id _ d k!);rw[I id h]at d;exact q.2 _ _ _ _ _ d
 have k: ∀x:Bu,x.ok G->x.ok (U4 b G):=λx C=>by
  cases x with
  |own id f t n=>exact A _ _ _ _ C
  |_=>trivial
 have B:CE b (U4 b G):=by refine⟨by rw[c];exact K,λid f t n q=>⟨by rw[c];exact DM q.1 K,λro P l O D d=>?_⟩,λid e d _=>?_,λid w h=>by rw[o id w];exact h,λid w _ _ _ _ _ _ _ _ h=>by rw[o id w]at h;exact⟨_,_,h⟩⟩;rw[o id q.1]at d;exact q.2 _ _ _ _ _ d;grind
 refine⟨λv N x C=>k x (N x C),λe d=>?_,B,λx=>⟨by rw[Ce,Ce,c],λj Q p=>?_⟩⟩;rcases Ao.1 d with d|d;exact B.ent (L e d);have E:=F e (OT d);cases e with
 |dead=>trivial
 |live H s=>exact λx C=>k x (E x C)
 |buf=>exact E
 |lp=>exact E
 |mp=>exact E
 rw[FC]at p;cases J:(U4 b G)[j]? with
 |none=>grind
 |some y=>
  rw[J]at p;simp at p;subst p;have same:(BJ G)[j]? =some y.enc->y.enc= .dead\/(∃g s u,(BJ G)[j]? =some (.live g s)/\y.enc= .live g u/\u.length=s.length/\ ∀(i:Nat) (z:AZ),u[i]? =some z-> ∃v,s[i]? =some v/\Conv x x v z)\/((BJ G)[j]? =some y.enc/\ ∀g s,y.enc≠ .live g s):=λh=>by
   cases y with
   |dead=>exact .inl rfl
   |live H s=>exact .inr (.inl ⟨_,_,_,h,rfl,rfl,λi z h=>⟨z,h,λ_ r=>r⟩⟩)
   |buf H t l m f=>exact .inr (.inl ⟨_,_,_,h,rfl,rfl,λi z h=>⟨z,h,λ_ r=>r⟩⟩)
   |lp=>exact .inr (.inr ⟨h,λ_ _ h=>by cases h⟩)
   |mp=>exact .inr (.inr ⟨h,λ_ _ h=>by cases h⟩)
  rcases Aw j b.length with h|h;rw[o j h]at J;by_cases M:y= .dead;subst M;exact .inl rfl;grind[FC,pp];grind[FC]
theorem nR{u:List Pt}(y: ∀c∈u,c.Ok P){i:Qj}(l:Uw P i){k:TV->Ap->Option R}{r:R}(ok:PE g b)(h:uw P u i g b o.op k=some r):lX P N o g b (tJ u g b o.op) k r:=by
 have s: ∀t,o.op=t->quT P g b t (λv=>k v b)=some r-> ∀F,lX P N o g b F k r:=λt e h=>AFG ok q!;generalize a:o.op=t at h;unfold uw at h;split at h;exact sj ok a h;exact wR ok a h;exact uL ok a h;exact kK ok a h;exact mj ok a h;grind[pw];exact ml ok a h;grind[qw];split at h;exact qY ok a h;grind;rename_i c;split at h;rename_i F q m;obtain⟨K,C⟩:=sq m;split at h;rename_i x;split at h;rename_i L n;obtain⟨M,O⟩:=pK n;obtain⟨v,d,q1,q2,q3,q4,q5,q6⟩:=ui (y L M) (C b ok.env) ok.heap h;rw[O]at q1;exact⟨v,d,lM q! x q1,q2,q3,q4,q5,by simp only[tJ,m,n];exact q6⟩;rename_i n;split at h;rename_i H;have A:q=[]:=by cases q<;>first|rfl|cases H
 subst A;obtain⟨v,d,q1,q2,q3,q4,q5⟩:=l (.fn F) [] (b.map Ds.lock) _ r (λv Q=>by cases Q) (vR ok.heap) h;obtain⟨E,G,I,J⟩:=AAa ok.heap q5 q4;have B:EJ P F [] (BJ b) (C6 v.enc (BJ d)):=by grind[xg,ql]
 refine⟨v,U4 b d,JC.after (lM q! x B) λX W w _=>?_,q2,E v q3,G,I,?_⟩;have hr:=(J (cx X W (BJ d) w)).onto;exact⟨hr,λc r=>r.later hr.later⟩;simp only[tJ,m,n];exact λj p _=>CO p;rename_i H;obtain⟨v,d,q1,q2,q3,q4,q5⟩:=l (.fn F) q b k r (C b ok.env) ok.heap h;have z:=H;exact⟨v,d,lM (by rw[a];exact K) x q1,q2,q3,q4,q5,by simp only[tJ,m,n,z];exact λj p hn=>(hn (Hi.2 p)).elim⟩;cases h;rename_i m;split at h;rename_i id q D;obtain⟨⟨f,S,T,U⟩,V⟩:=vy D;obtain⟨v,d,q1,q2,q3,q4,q5⟩:=l (.yd id) q b k r (V b ok.env) ok.heap h;exact⟨v,d,q1 N o c f (B4 g) a S T U,q2,q3,q4,q5,by simp only[tJ,m,D];exact λj p hn=>(hn (Hi.2 p)).elim⟩;grind[qd,Nat.eq_of_beq_eq_true,tJ];grind
theorem jm{k:TV->Option R}{r:R}(h:force A e k=some r):k e=some r:=by unfold force at h;grind
def kZ(ops:List Oper):List Nat:=ops.filterMap (·.dst)
def o8{b:Oper}{d:Nat}(h:xq o b=some (d,a,L,c)):o.dst=some d/\o.op= .slice a L (some c) none none/\o.guard=none/\b.dst=none/\b.op= .call {callee:=.builtin .clear,args:= #[.tmp d],argTypes:= #[a]}/\b.guard=none:=by unfold xq at h;split at h;rename_i e f g i j k;split at h<;>simp_all;cases h
def rX{a:Ty}{z:List AZ}{b:a.D}(h:Dc z (a.enc b).cells): ∀n:Nat,Dc (List.replicate n z).flatten (a.E.cl (List.replicate n b))
 |0=>Dc.refl _
 |n+1=>by exact Dc.append h (rX h n)
theorem wV{o1 o2:Oper}{d:Nat}{t:TypeId}{x lo:Operand}{env:Bd}{H:Ap}{k:Ap→Option R}{r:R}(ok:PE env H)(hc:xq o1 o2=some (d,t,x,lo))(h:AEm P H t (Is env x) (Is env lo) k=some r):
  ∃v G,JC P N o1 (B4 env) (BJ H) (C6 v (BJ H))/\JC P N o2 ((B4 env).put d v) (BJ H) (C6 (.tup []) (BJ G))/\k G=some r/\(∀e∈G,e.ok G)/\CE H G:=by
 obtain⟨_,c2,_,c4,U,_⟩:=o8 hc;unfold AEm at h;split at h;rename_i id c t0 n0 kk i hx Z;split at h;rename_i a l b ar y;split at h;rename_i te e a0 hb al F;split at h;rename_i S;split at h;rename_i z hz;split at h;rename_i zd ao;obtain⟨w,o,h⟩:=Dt.1 h;have T:=DG hb;subst T;have u:=Ty.beq_eq _ _ S;injection u with u;subst u;have B:(Ty.cast S l:List a.D)=l:=rfl;rw[B]at o;have hr:UZ H id c t0 n0:=by have:=Y5 ok.env x;rw[hx]at this;exact this (.own id c t0 n0) (by simp[TV.refs])
 obtain⟨_,q⟩:=hr.2 _ _ _ _ _ y;obtain⟨rfl,rfl⟩:=q rfl;have hn:b=l.length:=ok.heap _ (BP y);obtain⟨e',I,M⟩:=ft al;rw[I]at F;injection F with F;injection F with _ F;injection F with X Y;subst X Y;obtain⟨z1,z2⟩:=Xb hz;have p:=Fg ao;have C:(lvs z).length=a.sz:=by rw[<-p.1,a.enc_len]
 unfold AEw at o;split at o;rename_i hi;injection o with o;have O:CE H (H.set id (.buf false a w b c)):=CE.set y rfl λ_ _ _ _ _ e=>q!
 have J:Ds.ok (H.set id (.buf false a w b c)) (.buf false a w b c):=by show b=w.length;grind
 have m:(BJ H)[id]? =some (.live b (a.E.cl l)):=by rw[FC,y];rfl
 have A:id<(BJ H).length:=q!
 have ex:BL (B4 env) x= .sl id b a.sz 0 b:=by rw[JW,hx];rfl
 have el:BL (B4 env) lo= .int kk i:=by rw[JW,Z];rfl
 have W:SP (BJ H) id b=true:=by simp[SP,m]
 have s: ∀v,BL ((B4 env).put d v) (.tmp d)=v:=λv=>by simp[BL,Env.put,Env.get]
 have j:=a.E.clen l;have Q:a.E.sz=a.sz:=rfl;rw[Q]at j;have ad:Cb P (B4 env) (BJ H) o1.op=some (if i.toNat=0 then .sl id b a.sz 0 b else if i.toNat=b then .vs a.sz []else .sl id b a.sz (0+i.toNat*a.sz) (b-i.toNat)):=by
  rw[c2];have b1:V1 0 (some (AZ.int kk i))=some i.toNat:=by grind[V1,pz]
  have b2: ∀n,V1 n none=some n:=λ_=>rfl;simp only[Cb,ex,el,Bl,Option.map_none,gY,b1,b2,I];rw[if_pos ⟨trivial,a.sz_pos,o!,Aq _,Aq _,W,k!⟩];grind
 have g: ∀V,a.E.cl l=V->(BJ H).set id (.live b V)=BJ H:=λV ax=>by apply H7;grind
 have f:Dc (VS (a.E.cl l) (i.toNat*a.sz) (List.replicate (b-i.toNat) (lvs z)).flatten) (a.E.cl w):=by
  have e1:a.E.cl w=a.E.cl (l.take i.toNat)++a.E.cl (List.replicate (b-i.toNat) zd):=by grind[TI.cl]
  have e2:(a.E.cl l).take (i.toNat*a.sz)=a.E.cl (l.take i.toNat):=by
   have e3:a.E.cl l=a.E.cl (l.take i.toNat)++a.E.cl (l.drop i.toNat):=by grind[List.take_append_drop,TI.cl]
   have e4:(a.E.cl (l.take i.toNat)).length=i.toNat*a.sz:=by rw[a.E.clen,BR,Q];grind
   grind
  have e5:(a.E.cl l).drop (i.toNat*a.sz+(List.replicate (b-i.toNat) (lvs z)).flatten.length)=[]:=by apply gq;simp[C];rw[<-FN];grind
  unfold VS;rw[e1,e2,e5,Db];exact(Dc.refl _).append (rX p _)
 have L:JC P N o2 ((B4 env).put d (if i.toNat=0 then .sl id b a.sz 0 b else if i.toNat=b then .vs a.sz []else .sl id b a.sz (0+i.toNat*a.sz) (b-i.toNat))) (BJ H) (C6 (.tup []) (BJ (H.set id (.buf false a w b c)))):=by
  have e6:BJ (H.set id (.buf false a w b c))=(BJ H).set id (.live b (a.E.cl w)):=by rw[Ni];rfl
  rw[e6];by_cases h0:i.toNat=0;rw[if_pos h0];refine JC.set_less A ?_ f;have:=JC.clear (N:=N) (K:=C6 (.tup []) _) U c4 I M z1 C (s (.sl id b a.sz 0 b)) m (by rw[j,hn];omega) ⟨rfl,rfl⟩;grind;rw[if_neg h0];by_cases h1:i.toNat=b;rw[if_pos h1];have e7:w=l:=t!
  rw[e7,g _ rfl];exact oB U (P7 I).1 (s _) ⟨rfl,rfl⟩;rw[if_neg h1];refine JC.set_less A ?_ f;have:=JC.clear (N:=N) (K:=C6 (.tup []) _) U c4 I M z1 C (s (.sl id b a.sz (0+i.toNat*a.sz) (b-i.toNat))) m (by rw[j,<-hn,EL,<-FN];apply OV;omega) ⟨rfl,rfl⟩;grind
 exact⟨_,_,Dj ad ⟨rfl,rfl⟩,L,h,Tz O ok.heap J,O⟩;grind;cases h;cases h;cases h;cases h;cases h;cases h
def AB7:Fz N (BJ b).length ((B4 g).put n u) (BJ b) (B4 (g.put n Rv)) (BJ b):=by
 refine Uz rfl λX d w s=>⟨TG.refl _ _,λt f m=>?_⟩
 rw[fw]at m;rcases Av.1 m with e|m;injection e with a H;subst a H;exact⟨u,Jp,λc _=>.any c⟩;exact⟨f,Cd _ m,λ_ r=>r⟩
theorem SS{J:List Pt}(m: ∀c∈J,c.Ok P){p:Qj}(l:Uw P p){D:Array Oper}{gs:List Nat}: ∀(os:List Oper) (j:Nat) (env:Bd) (H:Ap) (k:Bd→Ap→Option R) (r:R),PE env H→qO P J p D gs false os j env H k=some r→
  ∃f i,VW P N D os (B4 env) (BJ H) (λe h=>e=B4 f/\h=BJ i)/\k f i=some r/\PE f i/\E9 (kZ os) env H f i
 |[],j,env,H,k,r,ok,h=>⟨env,H,⟨_,_,Fz.refl _ _ _,rfl,rfl⟩,h,ok,E9.refl _ _ _⟩
 |o::os,j,env,H,k,r,ok,h=>by
  simp only[qO]at h;have B: ∀{e:Bd} {h:Ap} {v:TV},E9 (kZ [o]) e h (e.putO o.dst v) h:=by
   intro e h v;refine⟨CE.refl h,λt U _=>?_⟩;cases hd:o.dst with
   |none=>rfl
   |some d=>refine lT λe=>U ?_;simp[kZ,hd,e]
  have z: ∀t,t∈kZ [o]++kZ os->t∈kZ (o::os):=by grind[kZ]
  split at h;rename_i d t x lo y;cases os with
  |nil=>cases y
  |cons o2 E=>
   have hc:=y;obtain⟨c1,c2,c3,c4,c5,c6⟩:=o8 hc;obtain⟨v,C,M,w2,T,W,st⟩:=wV (N:=N) ok hc h;have g:PE (env.put d Rv) C:=⟨Ze (d:=some d) (st.env ok.env) dz,W⟩
   obtain⟨f,i,L,Y,F,G⟩:=SS m l E (j+1+1) _ C k r g T;refine⟨f,i,⟨B4 env,BJ H,Fz.refl N _ _,?_⟩,Y,F,?_⟩;rw[c3];apply JC.mono M;rintro u _ ⟨rfl,rfl⟩;rw[c1];refine⟨(B4 env).put d u,BJ H,Fz.refl N _ _,?_⟩;rw[c6];apply JC.mono w2;rintro _ _ ⟨rfl,rfl⟩;rw[c4];exact VW.weak AB7 L;have Z:E9 (kZ [o]) env H (env.put d Rv) C:=by exact⟨st,λu hu _=>lT λe=>hu (by simp[kZ,c1,e])⟩
   refine(E9.trans ok.env Z G).mono λu hu=>?_;grind[kZ,List.mem_cons_of_mem]
  split at h;rename_i S;obtain⟨K,t1,M⟩:=PK (jJ J env H o.op) ok;generalize HG (jJ J env H o.op) env H=q at h K t1 M;obtain⟨env1,C⟩:=q;obtain⟨v,I,e1,e2,e3,e4,e5,_⟩:=nR (N:=N) m l K h;have O:=jm e2;have g:PE (env1.putO o.dst v) I:=⟨Ze (e5.env K.env) e3,e4⟩
  obtain⟨f,i,L,E,F,G⟩:=SS m l os (j+1) _ I k r g O;refine⟨f,i,?_,E,F,?_⟩;refine⟨B4 env1,BJ C,M N,gO ?_ ?_⟩;exact tQ (λd b hb=>by rw[t1.same d (λh=>by cases h) (by rw[hb];intro id al t n hm;simp[TV.refs]at hm),hb]) S;exact λrr X h0 a w s Q=>Uv (e1 rr X h0 a w s Q) (by rintro a' w' ⟨c,u,h',ad,ha,⟨rfl,rfl⟩,V,hs,hx⟩;exact⟨c,_,h',_,ha,by show VW P N D os ((B4 env1).putO o.dst v.enc) (BJ I) _;rw[<-WX];exact L,V,hs,hx⟩);have Z:E9 (kZ [o]) env1 C (env1.putO o.dst v) I:=by exact⟨e5,λt U T=>(B (h:=C)).same t U T⟩
  have:=(E9.trans (A:=[]) ok.env t1 (E9.trans K.env Z G))
  exact this.mono z;rename_i S;have g:PE (env.putO o.dst (.tup [])) H:=⟨Ze ok.env (Qg λv V=>by cases V),ok.heap⟩
  obtain⟨f,i,L,E,F,G⟩:=SS m l os (j+1) _ H k r g h;refine⟨f,i,⟨B4 env,BJ H,Fz.refl N _ _,lF S ?_⟩,E,F,(E9.trans ok.env B G).mono z⟩;have:(B4 env).putO o.dst (.tup [])=B4 (env.putO o.dst (.tup [])):=by rw[WX];rfl
  grind;cases h
end
end Go.Ab
