/- Texts of wip, joined and shortened by wip/tools/pack.py; nothing is assumed. -/
import Derived.Test.YtdbincbpjobdpaaGreatK2
import Derived.Laws.IdiomRangeMap
noncomputable section
set_option linter.all false
namespace Go.Ab
def Um(H:Ar)(id ver:Nat)(t:Ty)(n:Nat):Prop:=
 id<H.length/\ ∀ro t' l n' ver',H[id]? =some (.buf ro t' l n' ver')->ver<=ver'/\(ver=ver'->t'=t/\n'=n)
def Bz.ok(H:Ar):Bz->Prop
 | .own id ver t n=>Um H id ver t n
 |_=>True
def lok(H:Ar)(cs:List Bz):Prop:= ∀x∈cs,x.ok H
mutual
def TV.refs:TV->List Bz
 | .c x=>[x]
 | .g cs=>cs
 | .aptr .. =>[]
 | .bptr id ver t n _ _=>[.own id ver t n]
 | .vw id ver t n _ _=>[.own id ver t n]
 | .vptr cs _=>cs
 | .tup vs=>TV.refsL vs
def TV.refsL:List TV->List Bz
 |[]=>[]
 |v::r=>v.refs++TV.refsL r
end
def TV.ok(H:Ar)(v:TV):Prop:=lok H v.refs
def Dt.ok(H:Ar):Dt->Prop
 | .live _ cs=>lok H cs
 | .buf _ _ l n _=>n=l.length
 | .dead=>True
 | .lp _ _ _ env _ _ _ _=> ∀p∈env,∀id ver t n,Bz.own id ver t n∉p.2.refs
 | .mp .. =>True
structure PA(env:Bd)(H:Ar):Prop where
 env: ∀p∈env,p.2.ok H
 heap: ∀e∈H,e.ok H
variable {a I W:TypeId}{N n U:Nat}{b G:Ar}{c L:Operand}{d:List Bz}{e T:TV}{P:Program}{t:Ty}{g Y:Bd}{i Q:List Aa}{w:World}{j:Array Oper}{m:List TV}{p Z:A1}{o:Oper}{q:Option (Nat×Bool)}{h:Gh}{s:Env}{u:Aa}{X:Nat->Prop}{v:Bz}{z:IntKind}{A:Bool}{x y:Cx}{B:Nat→Prop}{C:Option TV}{D:Dt}{E:Array (Nat×Operand)}{F:Int}{J:List (Int×Aa)}{R:Type}{M:Act}{O:List Nat}{S:FuncId}{V:Prop}
theorem I3{H:List Bz}:lok b (d++H)↔lok b d/\lok b H:=by grind[lok]
theorem AE4:lok b []:=λ_ h=>by cases h
def uv{v:TV}: ∀{l:List TV},v∈l-> ∀x∈v.refs,x∈TV.refsL l
 |w::r,a,x,hx=>by simp only[TV.refsL,An];rcases Aw.1 a with rfl|a;exact .inl hx;exact .inr (uv a x hx)
def pA(h:(TV.tup m).ok b)(H:e∈m):e.ok b:=λx c=>h x (by simp only[TV.refs];exact uv H x c)
def Q6{H:Ar}: ∀{vs:List TV},(∀v∈vs,v.ok H)->(TV.tup vs).ok H
 |[],_=>λx a=>by simp[TV.refs,TV.refsL]at a
 |v::r,h=>by have:=Q6 (vs:=r) λw b=>h w (by simp[b]);intro x a;simp only[TV.refs,TV.refsL,An]at a;rcases a with a|a;exact h v k! x a;exact this x a
theorem lz(h: ∀p∈g,p.2.ok b)(t:Nat):(g.get t).ok b:=by
 induction g with
 |nil=>intro x a;simp only[Bd.get,Ux,TV.refs,A6]at a;subst a;trivial
 |cons p r H=>grind[Bd.get]
theorem AAK(v:Value):(ACk v).ok b:=by
 cases v with
 |pointer p=>cases p<;>trivial
 |slice a l c=>
  cases a with
  |some _=>trivial
  |none=>
   match l,c with
   |0,0=>trivial
   |0,_+1=>trivial
   |_+1,_=>trivial
 |_=>trivial
def gL:Ux.ok b:=λx a=>by simp only[Ux,TV.refs,A6]at a;subst a;trivial
theorem Jt{H:Ar}(h:v.ok H):(TV.c v).ok H:=λy a=>by grind[TV.refs]
theorem AGg(v:Value):(cvT v).ok b:=by
 cases v with
 |agg a=>
  simp only[cvT];cases h:a.toList.all (·.oneCell')with
  |false=>exact gL
  |true=>intro x H;grind[TV.refs,AAK]
 |_=>exact Jt (AAK _)
theorem fG{H:Ar}(h: ∀p∈g,p.2.ok H)(x:Operand):(JK g x).ok H:=by
 cases x with
 |tmp t=>exact lz h t
 |const v=>exact AGg v
 |global _=>exact gL
 |func f=>exact Jt trivial
theorem Gn(a b:List Bz):lvs (a++b)=lvs a++lvs b:=XX
theorem Ha(x:Bz)(b:List Bz):lvs (x::b)=x.enc++lvs b:=ID
theorem dQ: ∀a:List Bz,(lvs a).length=AD6 a
 |[]=>rfl
 |x::r=>by rw[Ha,Ac,x.enc_len,dQ r];rfl
def OO: ∀{c:List Bz} {n:Nat} {a b:List Bz},Wj c n=some (a,b)->c=a++b/\(lvs a).length=n
 |c,0,a,b,h=>by cases c<;>simp only[Wj]at h<;>obtain⟨rfl,rfl⟩:=h<;>exact⟨rfl,rfl⟩
 |x::r,n+1,a,b,h=>by simp only[Wj]at h;split at h;rename_i e;split at h;rename_i g i f;obtain⟨rfl,rfl⟩:=h;obtain⟨j,d⟩:=OO f;rw[Ha,Ac,d,x.enc_len];simp_all;cases h;cases h
mutual
theorem Ty.lvs_enc: ∀(t:Ty) (x:t.D),lvs (t.lvs x)=(t.enc x).cells
 | .bool,_=>rfl
 | .int _,_=>rfl
 | .str,_=>rfl
 | .list _,_=>rfl
 | .arr n t,a=>by simp only[Ty.lvs,lvs,ID,oF,C5,Bz.enc]
 | .prod ts,x=>by simp only[Ty.lvs,Ty.enc,Aa.cells];exact ts.lvs_cells x
theorem Rp.lvs_cells: ∀(a:Rp) (x:a.D),Go.Ab.lvs (a.lvs x)=a.cells x
 | .one t,x=>by simp only[Rp.lvs,Rp.cells];exact t.lvs_enc x
 | .cons t a,x=>by simp only[Rp.lvs,Rp.cells];rw[Gn,t.lvs_enc,a.lvs_cells]
end
mutual
theorem Ty.lvs_ok{H:Ar}: ∀(t:Ty) (x:t.D),lok H (t.lvs x)
 | .bool,_=>λy b=>by simp only[Ty.lvs,A6]at b;subst b;trivial
 | .int _,_=>λy b=>by simp only[Ty.lvs,A6]at b;subst b;trivial
 | .str,_=>λy b=>by simp only[Ty.lvs,A6]at b;subst b;trivial
 | .list _,_=>λy b=>by simp only[Ty.lvs,A6]at b;subst b;trivial
 | .arr n t,a=>λy b=>by simp only[Ty.lvs,A6]at b;subst b;trivial
 | .prod ts,x=>by simp only[Ty.lvs];exact ts.lvs_ok x
theorem Rp.lvs_ok{H:Ar}: ∀(a:Rp) (x:a.D),lok H (a.lvs x)
 | .one t,x=>by simp only[Rp.lvs];exact t.lvs_ok x
 | .cons t a,x=>by simp only[Rp.lvs];exact I3.2 ⟨t.lvs_ok _,a.lvs_ok _⟩
end
def MH(h:v.scalar=true):v.enc=[v.one]:=by
 cases v with
 |ar n t a=>cases h
 |_=>rfl
def Bz.scalar_cells(h:v.scalar=true):v.one.cells=[v.one]:=by
 cases v with
 |ar n t a=>cases h
 |raw x=>cases x<;>first|rfl|cases h
 |_=>rfl
theorem Q8(h:part P a d N=some e):
  (∃n,tI P a=some (true,n)/\N+n<=(lvs d).length/\e.enc= .agg (((lvs d).drop N).take n)\/tI P a=some (false,n)/\(lvs d)[N]? =some e.enc)/\ ∀H,lok H d->e.ok H:=by
 unfold part at h;split at h;rename_i t r l;obtain⟨rfl,j⟩:=OO l;split at h;rename_i n i;split at h;rename_i b c g;obtain⟨rfl,k⟩:=OO g;injection h with h;subst h;refine⟨⟨n,.inl ⟨i,?_,?_⟩⟩,λH f=>?_⟩;simp only[Gn,Ac];omega;simp only[TV.enc,Gn,Aa.agg.injEq];rw[<-j,Qt,<-k,Xm];exact(I3.1 (I3.1 f).2).1;cases h;rename_i n i;split at h;rename_i x r;split at h;rename_i m;injection h with h;subst h;refine⟨⟨n,.inr ⟨i,?_⟩⟩,λH f=>Jt ((I3.1 f).2 x k!)⟩;rw[Gn,Ha,MH m,Cj o!];simp[j,TV.enc];cases h;cases h;cases h;cases h
def kE(h:part P a d N=some e)
  (hr: ∀n,N+n<=(lvs d).length->Pp p u n=some (((lvs d).drop N).take n)):gT P a p u=some e.enc:=by
 obtain⟨⟨n,c|c⟩,_⟩:=Q8 h;obtain⟨i,g,t⟩:=c;simp only[gT,i,hr n g,Bs,t];obtain⟨i,t⟩:=c;have k:N<(lvs d).length:=by rcases Ay N (lvs d).length with f|f;exact f;rw[Cm f]at t;cases t
 simp only[gT,i,hr 1 o!,AD];rw[List.head?_take,List.head?_drop,t];rfl
theorem pu(h:Wi b N=some d): ∃ro,b[N]? =some (.live ro d):=by grind[Wi]
theorem Ex(H:Ar)(id:Nat):(BK H)[id]? =(H[id]?).map Dt.enc:=CN
theorem sS(h:Wi b N=some d):(BK b)[N]? =some (.live 0 (lvs d)):=by obtain⟨ro,H⟩:=pu h;rw[Ex,H];rfl
def AE2(H: ∀e∈b,e.ok b)(h:Wi b N=some d):lok b d:=by obtain⟨ro,c⟩:=pu h;exact H _ (BN c)
def yi{l:List t.D}(h:bJ b N n t=some l): ∃ro H,b[N]? =some (.buf ro t l H n):=by unfold bJ at h;split at h;rename_i ro i j H d e;split at h;rename_i g;have c:=DO g;subst c;split at h;rename_i f;have a:=f;have:=Ty.beq_eq i t a;subst this;injection h with h;refine⟨ro,H,?_⟩;rw[e,<-h];rfl;cases h;cases h;cases h
def dm{l:List t.D}(d: ∀e∈b,e.ok b)(hr:Um b N U t n)(h:bJ b N U t=some l):(BK b)[N]? =some (.live n (t.E.cl l))/\l.length=n:=by obtain⟨ro,f,H⟩:=yi h;obtain⟨_,c⟩:=hr.2 _ _ _ _ _ H;obtain⟨_,rfl⟩:=c rfl;have:f=l.length:=d _ (BN H);refine⟨?_,this.symm⟩;rw[Ex,H];rfl
def yZ{a:HA (n+1) t.D}(h:ACQ d N n t=some a): ∃c b,d=c++(.ar n t a::b)/\(lvs c).length=N:=by unfold ACQ at h;split at h;rename_i c l m k b i;split at h;rename_i j;have:=Ty.beq_eq _ _ j;injection this with e f;subst e f;injection h with h;obtain⟨e,f⟩:=OO i;refine⟨c,b,?_,f⟩;rw[e,<-h];rfl;cases h;cases h
theorem bF(n:Nat)(t:Ty)(a:HA (n+1) t.D):(Bz.ar n t a).enc=dj (n+1) t.E a:=rfl
section
variable {P:Program} {R:Type} {H:Ar} {k:TV->Option R} {r:R}
theorem WB(h:okT C k=some r): ∃v,C=some v/\k v=some r:=by unfold okT at h;grind
theorem gM(v:Aa):(tvA v).enc=v:=by cases v<;>rfl
theorem jY(v:Aa):(tvA v).ok H:=by cases v<;>exact Jt trivial
theorem jS{o:Option Aa}(h:okA o k=some r): ∃v,o=some v/\k (tvA v)=some r:=by unfold okA at h;grind
theorem jy{o:Option R}(h:cond A none o=some r):A=false/\o=some r:=q!
theorem pw(C: ∀t∈H,t.ok H)(D:e.ok H)(h:loadT P H a e k=some r): ∃u,gT P a (BK H) e.enc=some u.enc/\k u=some r/\u.ok H:=by
 unfold loadT at h;split at h;rename_i id g;split at h;rename_i B q;obtain⟨u,f,o⟩:=WB h;refine⟨u,kE f λn c=>?_,o,(Q8 f).2 H (AE2 C q)⟩;grind[TV.enc,Bz.one,Pp,sS];cases h;rename_i B d;obtain⟨u,f,o⟩:=WB h;refine⟨u,kE f λn c=>?_,o,(Q8 f).2 H D⟩;simp only[TV.enc,Pp];grind;rename_i id p n b i g;split at h;rename_i B q;split at h;rename_i v G;obtain⟨t,z,h⟩:=Dp.1 h;obtain⟨u,f,o⟩:=WB h;obtain⟨j,d,rfl,s⟩:=yZ G;refine⟨u,kE f λm c=>?_,o,(Q8 f).2 H (b.lvs_ok t)⟩;rw[b.lvs_enc,b.enc_len]at c;obtain⟨w,x⟩:=ACN b.E (lvs j) (lvs d) z c;have F:lvs (j++(.ar n b v::d))=lvs j++dj (n+1) b.E v++lvs d:=by rw[Gn,Ha,bF,A0]
 simp only[TV.enc,Pp,sS q,F];have y:p+i.toNat*b.sz+g=(lvs j).length+i.toNat*b.E.sz+g:=by rw[s];rfl
 rw[y,if_pos ⟨trivial,w⟩,x,b.lvs_enc];rfl;cases h;cases h;rename_i id A b n i g;split at h;rename_i l q;obtain⟨t,z,h⟩:=Dp.1 h;obtain⟨u,f,o⟩:=WB h;obtain⟨y,_⟩:=dm C (D (.own id A b n) (by simp[TV.refs])) q;refine⟨u,kE f λm c=>?_,o,(Q8 f).2 H (b.lvs_ok t)⟩;rw[b.lvs_enc,b.enc_len]at c;obtain⟨w,x⟩:=AGV b.E z c;simp only[TV.enc,Pp,y];rw[if_pos ⟨trivial,w⟩];show some (List.take m (List.drop (i.toNat*b.E.sz+g) (b.E.cl l)))=_;rw[x,b.lvs_enc];rfl;cases h;cases h
theorem yb{i:BinOp}(h:AGW P i a e T k=some r): ∃u,wj P i a e.enc T.enc=some u.enc/\k u=some r/\u.ok H:=by
 unfold AGW at h;split at h;rename_i n x o b;simp only[TV.enc,Bz.one,wj];split at h;obtain⟨c,h⟩:=jy h;have d: ¬b<0:=by simpa using c
 refine⟨_,?_,h,Jt trivial⟩;grind[jX,TV.enc,Bz.one];obtain⟨c,h⟩:=jy h;have d: ¬b<0:=by simpa using c
 refine⟨_,?_,h,Jt trivial⟩;grind[jX,TV.enc,Bz.one];split at h;rename_i t;obtain⟨c,h⟩:=jy h;have d: ¬b=0:=by simpa using c
 refine⟨_,?_,h,Jt trivial⟩;grind[oI,TV.enc,Bz.one];cases h;split at h;rename_i t;obtain⟨c,h⟩:=jy h;have d: ¬b=0:=by simpa using c
 refine⟨_,?_,h,Jt trivial⟩;grind[oI,TV.enc,Bz.one];cases h;grind[jS,jY,gM];rename_i x b;simp only[TV.enc,Bz.one,wj];split at h;split at h;rename_i t;exact⟨_,by simp only[if_pos t,TV.enc,Bz.one],h,Jt trivial⟩;cases h;split at h;rename_i t;exact⟨_,by simp only[if_pos t,TV.enc,Bz.one],h,Jt trivial⟩;cases h;cases h;rename_i x b;simp only[TV.enc,Bz.one,wj];split at h;obtain⟨s,j,h⟩:=Dp.1 h;exact⟨_,by simp only[vJ,TV.enc,Bz.one];exact AGx j,h,Jt trivial⟩;grind[jS,gM,jY];rename_i l bs;split at h;rename_i m f;split at h;rename_i g;simp only[TV.enc,wj,f,if_pos g];split at h;exact⟨_,by simp only[TV.enc,Bz.one,eqT],h,Jt trivial⟩;exact⟨_,by simp only[TV.enc,Bz.one,eqT],h,Jt trivial⟩;cases h;cases h;cases h;cases h
def ABw{a:UnOp}(h:unT a e k=some r): ∃u,unV a e.enc=some u.enc/\k u=some r/\u.ok H:=by unfold unT at h;split at h;obtain⟨e,b,h⟩:=jS h;exact⟨_,by rw[gM];exact b,h,jY e⟩;cases h
def AHg(l:List Int):(Ty.int .u8).E.cl l=l.map (vU .u8).f:=by
 unfold Rq.cl;induction l with
 |nil=>rfl
 |cons n l a=>simp only[Bl,ID,a];rfl
def ABB:Wo P p I a (.int z F)=Wo P [] I a (.int z F):=by unfold Wo;cases kd P a<;>rfl
def ABC{s:List UInt8}:Wo P p I a (.str s)=Wo P [] I a (.str s):=by unfold Wo;cases kd P a<;>rfl
def wu(g: ∀d∈H,d.ok H)(c:e.ok H)(h:ACh P H I a e k=some r): ∃u,Wo P (BK H) I a e.enc=some u.enc/\k u=some r/\u.ok H:=by
 unfold ACh at h;split at h;rename_i l;split at h;rename_i b;exact⟨_,ADM l b.1 b.2,h,Jt trivial⟩;cases h;rename_i id f n;split at h;rename_i b;split at h;rename_i l j;obtain⟨i,hn⟩:=dm g (c (.own id f (.int .u8) n) (by simp[TV.refs])) j;refine⟨_,?_,h,Jt trivial⟩;simp only[TV.enc,Bz.one,Wo,b.1,b.2,if_true,rowsOf,i];rw[if_pos ⟨trivial,rfl,by rw[(Ty.int .u8).E.clen,hn];show 0+n<=n*1;omega⟩];have:((Ty.int .u8).E.cl l).length=n:=by rw[(Ty.int .u8).E.clen,hn];exact Nat.mul_one n
 rw[jl,<-this,Hm,AHg];exact congrArg (Option.map Aa.str) (wR l);cases h;cases h;obtain⟨e,c,h⟩:=jS h;exact⟨_,by rw[gM];exact ABB.trans c,h,jY e⟩;obtain⟨e,c,h⟩:=jS h;exact⟨_,by rw[gM];exact ABC.trans c,h,jY e⟩;cases h
end
section
variable {P:Program} {R:Type} {H:Ar} {k:TV->Option R} {r:R}
theorem im(h:Wi H N=some d):TB (BK H) N 0=true:=by simp[TB,sS h]
def qX{l:List t.D}(b: ∀e∈H,e.ok H)(hr:Um H N U t n)(h:bJ H N U t=some l):TB (BK H) N n=true:=by simp[TB,(dm b hr h).1]
theorem oZ(x: ∀s∈H,s.ok H)(g:e.ok H)(h:lm P H N n e k=some r): ∃u,Ve P (BK H) N n e.enc=some u.enc/\k u=some r/\u.ok H:=by
 unfold lm at h;split at h;rename_i B t f z;split at h;cases h;rename_i hn;have d:f≠0:=λs=>t!
 unfold Ve;simp only[z,if_neg d];split at h;rename_i id o;split at h;rename_i p c;exact⟨_,by simp only[TV.enc,Bz.one,shift,im c,if_true],h,Jt trivial⟩;cases h;rename_i p q;split at h;rename_i a b A;obtain⟨rfl,y⟩:=OO A;refine⟨_,?_,h,(I3.1 g).2⟩;simp only[TV.enc,shift];rw[if_pos (by simp only[Ac,Gn];omega),Gn,A0,<-y,Qt];cases h;rename_i id m f w i o;split at h;rename_i p c;refine⟨_,?_,h,λ_ h=>by cases h⟩;grind[TV.enc,shift,im];cases h;rename_i id j w f i o;split at h;rename_i l c;refine⟨_,?_,h,g⟩;simp only[TV.enc,shift,qX x (g (.own id j w f) (by simp[TV.refs])) c,if_true,dc];cases h;cases h;cases h
theorem wA(h:part P a d N=some e)(c: ∀t,N+t<=(lvs d).length->n+t<=i.length/\(i.drop n).take t=((lvs d).drop N).take t):so P a i n=some e.enc:=by grind[Q8,so,List.head?_take,List.head?_drop]
theorem vW(d:e.ok H)(h:yp P N n e k=some r): ∃u,rW P N n e.enc=some u.enc/\k u=some r/\u.ok H:=by unfold yp at h;split at h;rename_i s t f g a;obtain⟨u,c,b⟩:=WB h;refine⟨u,?_,b,(Q8 c).2 H d⟩;simp only[rW,a,TV.enc];grind[wA];cases h
theorem qw{a:HA n R}{x:R}(h:Gj a F=some x):0<=F/\F<n:=by obtain⟨c,j,rfl,_⟩:=nr h;grind
theorem ox(s: ∀t∈H,t.ok H)(C:e.ok H)(h:mA P H a e T k=some r): ∃u,Vk P (BK H) a e.enc T.enc=some u.enc/\k u=some r/\u.ok H:=by
 unfold mA at h;split at h;rename_i L T;simp only[TV.enc,Bz.one,Vk];split at h;rename_i len z sz p;simp only[p];split at h;rename_i id D;split at h;rename_i G m;split at h;rename_i F n b v g K;split at h;rename_i d;obtain⟨rfl,rfl⟩:=d;obtain⟨t,c,h⟩:=Dp.1 h;refine⟨_,?_,h,λ_ h=>by cases h⟩;rw[if_pos (qw c)];simp only[TV.enc,Bz.one,shift,im m,if_true,Su];cases h;cases h;cases h;rename_i n b v M g;split at h;rename_i d;obtain⟨rfl,rfl⟩:=d;obtain⟨t,c,h⟩:=Dp.1 h;refine⟨_,?_,h,b.lvs_ok t⟩;rw[if_pos (qw c)];obtain⟨_,o,q,_⟩:=ACS b.E c [] [];simp only[Bw,C5,BV,D9]at o q;have B:T.toNat*b.sz+b.sz<=(dj (n+1) b.E v).length:=o;simp only[TV.enc,shift,Ha,bF];rw[if_pos q!];rw[b.lvs_enc,A0,oE o!];have y:(dj (n+1) b.E v).drop (T.toNat*b.sz)=(b.enc t).cells++(dj (n+1) b.E v).drop (T.toNat*b.sz+b.sz):=by rw[<-Nd];have I:((dj (n+1) b.E v).drop (T.toNat*b.sz)).take b.sz=(b.enc t).cells:=q;grind[List.take_append_drop]
 rw[y,A0];rfl;cases h;cases h;rename_i z sz p;simp only[p];split at h;rename_i b l;split at h;rename_i d;subst d;obtain⟨t,c,h⟩:=Dp.1 h;obtain⟨q1,q2⟩:=AIk (f:=b.enc) c;refine⟨_,?_,h,b.lvs_ok t⟩;simp only[TV.enc,Bz.one];rw[if_pos ⟨q1,trivial⟩,q2,b.lvs_enc,C5];rfl;cases h;rename_i id j b n;split at h;rename_i l m;split at h;rename_i d;subst d;obtain⟨t,c,h⟩:=Dp.1 h;have hr:=C (.own id j b n) (by simp[TV.refs]);obtain⟨J,hn⟩:=dm s hr m;refine⟨.bptr id j b n T 0,?_,h,λx w=>by simp only[TV.refs,A6]at w;subst w;exact hr⟩;obtain⟨_,_,_,_,A,o,_,_⟩:=rP b.E c;simp only[TV.enc,Bz.one];rw[if_pos ⟨A,o!,trivial,qX s hr m⟩,D9,Su];cases h;cases h;cases h;cases h;cases h
theorem mm{e:TypeId}{sz:Nat}{cs:List Bz}{i:Int}(b:lok H cs): ∀{m j:Nat},vN P e sz cs i k m j=some r-> ∃u,(0<=i/\i<((j+m:Nat):Int))/\so P e (lvs cs) (i.toNat*sz)=some u.enc/\k u=some r/\u.ok H
 |m+1,j,h=>by
  simp only[vN]at h;cases a:decide (i=Int.ofNat j)with
  |true=>
   rw[a]at h;have f:i=(j:Int):=q!
   obtain⟨u,d,c⟩:=WB h;refine⟨u,o!,?_,c,(Q8 d).2 H b⟩;grind[wA]
  |false=>rw[a]at h;obtain⟨u,q1,q2⟩:=mm b (m:=m) (j:=j+1) h;grind
theorem ve(A:e.ok H)(h:yw P a e T k=some r): ∃u,jQ P a e.enc T.enc=some u.enc/\k u=some r/\u.ok H:=by
 unfold yw at h;split at h;rename_i B T;split at h;rename_i n c v;split at h;rename_i len x sz o;split at h;rename_i z;obtain⟨rfl,rfl⟩:=z;obtain⟨t,p,h⟩:=Dp.1 h;obtain⟨u,q,f⟩:=WB h;refine⟨u,?_,f,(Q8 q).2 H (c.lvs_ok t)⟩;simp only[TV.enc,Bz.one,jQ,o];rw[if_pos (qw p)];refine wA q λm d=>?_;rw[c.lvs_enc,c.enc_len,D9]at d;obtain⟨j,l⟩:=ACN c.E (off:=0) [] [] p (m:=m) (by rw[D9];exact d);simp at j l;have w:lvs [Bz.ar n c v]=dj (n+1) c.E v:=by grind[bF,lvs]
 rw[w,c.lvs_enc,jl];exact⟨j,l⟩;cases h;cases h;rename_i g _;split at h;rename_i len x sz o;split at h;obtain⟨u,q1,q2,q3⟩:=mm (cs:=g) (H:=H) A h;grind[TV.enc,Bz.one,jQ];cases h;cases h;rename_i s;split at h;rename_i f;obtain⟨b,y,h⟩:=Dp.1 h;exact⟨_,by simp only[TV.enc];exact AHx y f,h,Jt trivial⟩;cases h;cases h;cases h
theorem bI{d:Nat}(h:wk d C=some F)(a:0<=F):WL d (C.map TV.enc)=some F.toNat:=by unfold wk at h;grind[WL,TV.enc,Bz.one,se]
theorem wM{G K:Option TV}(E: ∀v∈H,v.ok H)(N:e.ok H)(h:zh P H a e C G K k=some r): ∃u,gH P (BK H) a e.enc (C.map TV.enc) (G.map TV.enc) (K.map TV.enc)=some u.enc/\k u=some r/\u.ok H:=by
 unfold zh at h;split at h;cases h;split at h;rename_i s;split at h;rename_i l f i b;split at h;rename_i t;obtain⟨x,c,h⟩:=Dp.1 h;refine⟨_,?_,h,Jt trivial⟩;unfold RD at c;split at c;rename_i J;simp only[TV.enc,Bz.one,gH,bI (d:=0) i J.1,bI b (jf J.1 J.2.1)];grind;cases c;cases h;cases h;rename_i w o;split at h;rename_i l f M sz i b B;split at h;rename_i t;obtain⟨x,c,h⟩:=Dp.1 h;refine⟨_,?_,h,Jt trivial⟩;unfold YV at c;split at c;rename_i J;have j:(o.map w.enc).length=o.length:=CA _;have y:=bI (d:=0) i J.1;have p:=bI b (jf J.1 J.2.1);have A:WL o.length none=some o.length:=rfl;simp only[TV.enc,Bz.one,gH,j,y,p,A,B];grind[List.map_take,List.map_drop];cases c;cases h;cases h;rename_i id D w n;split at h;rename_i o F;split at h;rename_i l f M sz i b B;split at h;rename_i t;obtain⟨x,c,h⟩:=Dp.1 h;have hr:=N (.own id D w n) (by simp[TV.refs]);obtain⟨O,L⟩:=dm E hr F;have g:=qX E hr F;refine⟨_,?_,h,λz I=>by simp only[TV.refs,A6]at I;subst I;exact hr⟩;unfold YV at c;split at c;rename_i J;have y:=bI (d:=0) i J.1;have p:=bI b (jf J.1 J.2.1);rw[L]at p;have A:WL n none=some n:=rfl;simp only[TV.enc,Bz.one,gH,lQ,y,p,A,B];rw[if_pos ⟨t.symm,w.sz_pos,o!,o!,Ap _,g,λq=>by cases q⟩];have m:min (f.toNat-l.toNat) (n-l.toNat)=f.toNat-l.toNat:=o!
 unfold vwE;rw[m];by_cases q0:l.toNat=0;rw[if_pos q0,q0];by_cases q1:f.toNat=0;rw[q1];rfl;rw[if_neg o!,Xp,lO];rw[if_neg q0];by_cases q1:l.toNat=f.toNat
 rw[if_pos q1,if_pos o!,if_neg q0];rw[if_neg q1,if_neg o!,D9];cases c;cases h;cases h;cases h;cases h
def y0(d: ∀t∈H,t.ok H)(g:e.ok H)(h:AGq P H a e k=some r): ∃u,sR P (BK H) a e.enc=some u.enc/\k u=some r/\u.ok H:=by unfold AGq at h;split at h;rename_i s v;exact⟨_,by simp only[sR,v,TV.enc,Bz.one],h,Jt trivial⟩;rename_i n t v;exact⟨_,by simp only[sR,v,TV.enc,Bz.one],h,Jt trivial⟩;rename_i b l t v;exact⟨_,by simp only[sR,v,TV.enc,Bz.one,CA],h,Jt trivial⟩;rename_i t id c b n v;split at h;rename_i l f;refine⟨_,?_,h,Jt trivial⟩;simp only[sR,v,TV.enc,Bz.one];cases h;rename_i t v;exact⟨_,by simp only[sR,v,TV.enc,Bz.one],h,Jt trivial⟩;cases h
end
def Yc(h:e.words=some d):e.enc.solid=true/\e.enc.cells=lvs d/\ ∀H,e.ok H->lok H d:=by unfold TV.words at h;split at h;rename_i x;split at h;rename_i a;simp at a;injection h with h;subst h;refine⟨a.2,?_,λH b=>b⟩;rw[Ha,MH a.1];exact Bz.scalar_cells a.1;cases h;injection h with h;subst h;exact⟨rfl,rfl,λH b=>b⟩;cases h
theorem kG{f c:List Bz}{e n:Nat}(h:ABq d e f n=some c)(hn:(lvs f).length=n):lvs c=WD (lvs d) e (lvs f)/\e+n<=(lvs d).length/\ ∀H,lok H d->lok H f->lok H c:=by unfold ABq at h;split at h;rename_i a r i;obtain⟨rfl,l⟩:=OO i;split at h;rename_i m b g;obtain⟨rfl,o⟩:=OO g;refine⟨?_,by simp only[Gn,Ac];omega,λH j k=>?_⟩;grind[WD,Gn];grind[I3];cases h;cases h
mutual
theorem Ty.zlvs_ok{H:Ar}: ∀t:Ty,lok H t.zlvs
 | .bool=>λy a=>by simp only[Ty.zlvs,A6]at a;subst a;trivial
 | .int _=>λy a=>by simp only[Ty.zlvs,A6]at a;subst a;trivial
 | .str=>λy a=>by simp only[Ty.zlvs,A6]at a;subst a;trivial
 | .list _=>λy a=>by simp only[Ty.zlvs,A6]at a;subst a;trivial
 | .arr n t=>λy a=>by simp only[Ty.zlvs,A6]at a;subst a;trivial
 | .prod b=>by simp only[Ty.zlvs];exact b.zlvs_ok
theorem Rp.zlvs_ok{H:Ar}: ∀a:Rp,lok H a.zlvs
 | .one t=>by simp only[Rp.zlvs];exact t.zlvs_ok
 | .cons t a=>by simp only[Rp.zlvs];exact I3.2 ⟨t.zlvs_ok,a.zlvs_ok⟩
end
def ABO(v:Aa):(ub v).enc=[v]:=by cases v<;>rfl
theorem AC7(v:Aa):(ub v).ok b:=by cases v<;>trivial
theorem oz: ∀z:List Aa,lvs (z.map ub)=z
 |[]=>rfl
 |v::r=>by rw[Bl,Ha,oz r,ABO];rfl
theorem AAf(z:List Aa):lok b (z.map ub):=λx a=>by grind[AC7]
theorem Yf(h:tO P a=some d):Yd P a=some (lvs d)/\ ∀H,lok H d:=by unfold tO at h;split at h;rename_i t b;split at h;rename_i e z;split at h;rename_i c;injection h with h;subst h;exact⟨by rw[b,jr _ _ c],λH=>e.zlvs_ok⟩;grind[oz,AAf];grind[oz,AAf];cases h
theorem rX{p:Za}: ∀{a:List (Nat×TV)} {c b:List Bz},xD p c a=some b->pj p (lvs c) (a.map λq=>(q.1,q.2.enc))=some (lvs b)/\ ∀H,lok H c->(∀q∈a,q.2.ok H)->lok H b
 |[],c,b,h=>by simp only[xD,Ao]at h;subst h;exact⟨rfl,λH h _=>h⟩
 |(i,v)::r,c,b,h=>by simp only[xD]at h;split at h;rename_i m size z t l;split at h;rename_i k;have e:=DO k;split at h;rename_i s d;obtain⟨x,y,o⟩:=Yc l;obtain⟨u,w,n⟩:=kG d (by rw[dQ,e]);obtain⟨q1,q2⟩:=rX h;refine⟨?_,λH g f=>q2 H (n H g (o H (f (i,v) k!))) λq j=>f q (by simp[j])⟩;grind[pj,dQ];cases h;cases h;cases h
section
variable {P:Program} {R:Type} {env:Bd} {H:Ar} {k:TV->Option R} {r:R}
theorem wl{v:List (Nat×TV)}(h:yj P a v=some e):rF P a (v.map λq=>(q.1,q.2.enc))=some e.enc/\((∀q∈v,q.2.ok H)->e.ok H):=by unfold yj at h;split at h;rename_i z p t j;obtain⟨k,f⟩:=Yf t;rw[Sw]at h;obtain⟨g,c,rfl⟩:=h;obtain⟨i,b⟩:=rX c;refine⟨?_,λd=>b H (f H) d⟩;grind[rF,TV.enc];cases h
def pD: ∀{l:List TV} {m:List Aa},qT l=some m->m=l.map TV.enc
 |[],m,h=>by simp only[qT,Ao]at h;subst h;rfl
 | .c x::r,m,h=>by simp only[qT]at h;split at h;rename_i b _ a;injection h with h;subst h;rw[Bl,<-pD a];rfl;cases h
 | .g _::_,m,h=>by simp[qT]at h
 | .aptr .. ::_,m,h=>by simp[qT]at h
 | .bptr .. ::_,m,h=>by simp[qT]at h
 | .vw .. ::_,m,h=>by simp[qT]at h
 | .vptr .. ::_,m,h=>by simp[qT]at h
 | .tup _::_,m,h=>by simp[qT]at h
def ui(h:mmT A e T k=some r): ∃u,mmV A [e.enc,T.enc]=some u.enc/\k u=some r/\u.ok H:=by unfold mmT at h;split at h;exact⟨_,by simp only[TV.enc,Bz.one,mmV],h,Jt trivial⟩;cases h
def zF{z:TV}(h:AGr e T z k=some r): ∃u,mm3 e.enc T.enc z.enc=some u.enc/\k u=some r/\u.ok H:=by unfold AGr at h;split at h;exact⟨_,by simp only[TV.enc,Bz.one,mm3],h,Jt trivial⟩;cases h
theorem uu{F:Op}(ok:PA env H)(h:quT P env H F k=some r): ∃v,Ce P (B4 env) (BK H) F=some v.enc/\k v=some r/\v.ok H:=by
 have j: ∀x,(JK env x).ok H:=fG ok.env;have g:=K9 env;unfold quT at h;split at h;grind[Ce];grind[Ce];rename_i c a b;split at h;rename_i t K;have w:BM (B4 env) c= .bool t:=by rw[g,K];rfl
 grind[Ce,Bool.false_eq_true];cases h;obtain⟨u,d,e⟩:=pw ok.heap (j _) h;grind[Ce];rename_i x;split at h;grind[BM,B4,Ce,im,TV.enc,Bz.one,Jt];grind[BM,B4,Ce,TV.enc,Bz.one,Jt];grind[BM,B4,lvs,Ce,TV.enc];grind[BM,B4,Ce,im,TV.enc];rename_i id D G n i B s;split at h;rename_i l A;have w:BM (B4 env) x= .ptr id n (i.toNat*G.sz+B):=by rw[g,s];rfl
 have:=j x;rw[s]at this;exact⟨_,by simp only[Ce,w,qX ok.heap (this (.own id D G n) (by simp[TV.refs])) A,if_true,TV.enc],h,this⟩;cases h;cases h;simp_all[yb,Ce];obtain⟨u,d,e⟩:=ABw (H:=H) h;exact⟨u,by simp only[Ce,g,d],e⟩;obtain⟨u,d,e⟩:=wu ok.heap (j _) h;exact⟨u,by simp only[Ce,g,d],e⟩;obtain⟨u,d,e⟩:=oZ ok.heap (j _) h;exact⟨u,by simp only[Ce,g,d],e⟩;obtain⟨u,d,e⟩:=vW (j _) h;exact⟨u,by simp only[Ce,g,d],e⟩;obtain⟨u,d,e⟩:=ox ok.heap (j _) h;exact⟨u,by simp only[Ce,g,d],e⟩;obtain⟨u,d,e⟩:=ve (H:=H) (j _) h;exact⟨u,by simp only[Ce,g,d],e⟩;rename_i t x Q O R;obtain⟨u,d,e⟩:=wM ok.heap (j _) h;have q: ∀o:Option Operand,o.map (BM (B4 env))=(o.map (JK env)).map TV.enc:=by
  intro o;cases o with
  |none=>rfl
  |some y=>simp only[Bs,g]
 exact⟨u,by simp only[Ce,g,q,d],e⟩;rename_i x i;split at h;rename_i N s;split at h;rename_i v z;have w:BM (B4 env) x= .tup (N.map TV.enc):=by rw[g,s];simp only[TV.enc,rT]
 have E:=j x;rw[s]at E;exact⟨v,by simp only[Ce,w,CN,z,Bs],h,pA E (BN z)⟩;cases h;cases h;rename_i f a b;split at h;rename_i l m A L;refine⟨_,?_,h,Jt trivial⟩;have q: ∀o:List Operand,o.map (BM (B4 env))=(o.map (JK env)).map TV.enc:=by intro o;rw[Ml];exact Mk λy _=>g y
 simp only[Ce,q,<-pD A,<-pD L,TV.enc,Bz.one];cases h;rename_i t C;obtain⟨v,z,h⟩:=WB h;obtain⟨I,J⟩:=wl (H:=H) z;refine⟨v,?_,h,J λq M=>?_⟩;simp only[Ce];rw[<-I,Ml];congr 1;exact Mk λp _=>by simp only[Function.comp,g]
 obtain⟨p,_,rfl⟩:=Br.1 M;exact j _;obtain⟨u,d,e⟩:=y0 ok.heap (j _) h;exact⟨u,by simp only[Ce,g,d],e⟩;obtain⟨u,d,e⟩:=ui (H:=H) h;exact⟨u,by simp only[Ce,g,d],e⟩;obtain⟨u,d,e⟩:=ui (H:=H) h;exact⟨u,by simp only[Ce,g,d],e⟩;obtain⟨u,d,e⟩:=zF (H:=H) h;exact⟨u,by simp only[Ce,g,d],e⟩;cases h
end
def Conv(x y:Cx)(v v':Aa):Prop:= ∀c,Bx x v c->Bx y v' c
def Tz(x y:Cx)(H H2:A1):Prop:=
 H2.length=H.length/\ ∀(j:Nat) (e':Fl),H2[j]? =some e'->e'= .dead\/
  (∃g cs cs',H[j]? =some (.live g cs)/\e'= .live g cs'/\cs'.length=cs.length/\ ∀(i:Nat) (v':Aa),cs'[i]? =some v'-> ∃v,cs[i]? =some v/\Conv x y v v')\/
  (H[j]? =some e'/\ ∀g cs,e'≠ .live g cs)
theorem Tz.refl(x:Cx)(H:A1):Tz x x H H:=by
 refine⟨rfl,λj a d=>?_⟩;cases a with
 |live g c=>exact .inr (.inl ⟨g,c,c,d,rfl,rfl,λi v b=>⟨v,b,λ_ r=>r⟩⟩)
 |_=>grind
theorem Tz.own{H d:A1}{h:Gh}(hr:Tz x y H d): ∀B,owned h d B->owned h H B:=by rintro B ⟨j,f,i,c,a⟩;rcases hr.2 j f i with b|⟨g,k,e,b,_⟩|⟨b,_⟩;grind;exact⟨j,_,b,k!,a⟩;exact⟨j,_,b,c,a⟩
def Tz.later{h:Gh}{H a:A1}{w:World}{x y:Cx}(hr:Tz x y H a):(cx X h H w).Later (cx X h a w):={size:=Ap _,keep:=λ_ _ _ _=>rfl,own:=λB _ b=>b.imp _root_.id (hr.own B),n:=by simp[cx,hr.1],gen:=λ_ _=>Ap _,same:=λ_ _ _=>⟨rfl,rfl⟩}
theorem It.rel{X:Nat->Prop}(s:It X h p w)(hr:Tz (cx X h p w) (cx X h Z w) p Z):It X h Z w:=by
 have y:=hr.own (h:=h);have M:(cx X h p w).Later (cx X h Z w):=hr.later;have back: ∀{j:Nat} {e:Fl},Z[j]? =some e->e≠ .dead-> ∃N,p[j]? =some N/\N≠ .dead:=by intro j e l ad;rcases hr.2 j e l with a|⟨g,z,C,a,_⟩|⟨a,_⟩;grind;grind;grind
 refine⟨λB n=>⟨(s.out B n).1,λho=>(s.out B n).2 (y B ho)⟩,λj Q C l=>?_,λj L l=>?_,λi j e e' B a c J K O D=>?_,s.bldKeep λj e l n=>?_⟩;rcases hr.2 j _ l with a|⟨g,z,o,a,c,O,D⟩|⟨_,a⟩;cases a;injection c with R S;subst R S;obtain⟨I,W⟩:=s.live j Q z a;refine⟨I,?_⟩;rcases W with⟨k,h0⟩|⟨B,A,T,P,f,k,V,q,H,G,b⟩;refine .inl ⟨k,?_⟩;grind;refine .inr ⟨B,A,T,P,f,k,V,q,o!,G,λi v' Y=>?_⟩;obtain⟨v,hv,U⟩:=D i v' Y;obtain⟨p1,p2,p3⟩:=b i v hv;exact⟨p1,p2,U _ p3⟩;grind;rcases hr.2 j _ l with a|⟨g,z,o,_,c,_⟩|⟨a,_⟩;cases a;cases c;obtain⟨I,B,r,q1,q2,q3,q4,q5,q6,q7,q8,q9⟩:=s.lp j L a;exact⟨I,B,r,q1,q2,q3,q4,q5,q6,q7,q8,λt v m=>⟨(q9 t v m).1,(q9 t v m).2.later M⟩⟩;obtain⟨d,E,F⟩:=back a J;obtain⟨d',u,x⟩:=back c K;exact s.inj i j _ _ B E u F x O D;refine⟨?_,rfl,rfl,rfl,λ_ _ _ _ _=>rfl⟩;rcases hr.2 j _ l with a|⟨g,z,o,_,c,_⟩|⟨a,_⟩;subst a;cases n;subst c;cases n;exact a
theorem Tz.onto(hr:Tz (cx X h p w) (cx X h p w) p Z):Tz (cx X h p w) (cx X h Z w) p Z:=by have e:(cx X h p w).Later (cx X h Z w):=hr.later;refine⟨hr.1,λj k H=>?_⟩;rcases hr.2 j k H with d|⟨g,f,b,d,l,m,n⟩|d;grind;refine .inr (.inl ⟨g,f,b,d,l,m,λi q o=>?_⟩);obtain⟨v,q1,q2⟩:=n i q o;exact⟨v,q1,λc r=>(q2 c r).later e⟩;grind
def Vp{env2:Env}(f:Z.length=p.length)(hr: ∀X h w,It X h p w→Tz (cx X h p w) (cx X h Z w) p Z∧ ∀t c,(t,c)∈env2→ ∃v,(t,v)∈s∧Conv (cx X h p w) (cx X h Z w) v c):
  GD N p.length s p env2 Z:=by
 refine⟨o!,λX h a w H=>?_⟩;obtain⟨q1,q2⟩:=hr X h w H.sim;refine⟨h,⟨H.sim.rel q1,λt c m=>?_,H.size⟩,λ_ _=>⟨rfl,rfl,rfl⟩,q1.own⟩;obtain⟨v,d,e⟩:=q2 t c m;exact⟨(H.env t v d).1,e _ (H.env t v d).2⟩
def Tz.ext{X:Nat->Prop}{c:Gh}{H a b:A1}{d:World}(hr:Tz x y H b)(e:HE c a d h H w):HE c a d h b w where
 os:=e.os
 tape:=e.tape
 output:=e.output
 size:=e.size
 keep:=e.keep
 n:=by rw[hr.1];exact e.n
 gen:=e.gen
 same:=e.same
 fresh B hB:=e.fresh B (hr.own B hB)
 loops:=e.loops
def JJ.after{N:Nat}{H:A1}{v f:Aa}{H1 b:A1}(h:JJ P N o s H (DX v H1))
  (hr: ∀X h w,It X h H1 w->Tz (cx X h H1 w) (cx X h b w) H1 b/\Conv (cx X h H1 w) (cx X h b w) v f):JJ P N o s H (DX f b):=by
 intro r X g a w p Q;apply Vn (h r X g a w p Q);rintro n l ⟨c,u,d,m,i,⟨rfl,rfl⟩,j,e,k⟩;obtain⟨q1,q2⟩:=hr X d l e;exact⟨c,_,d,_,i,⟨rfl,rfl⟩,q2 _ j,e.rel q1,Tz.ext (X:=X) q1 k⟩
def JJ.before{N:Nat}{env2:Env}{H H2:A1}{K:Aa->A1->Prop}(b:GD N H.length s H env2 H2)(h:JJ P N o env2 H2 K):JJ P N o s H K:=by intro r X g a w x Q;obtain⟨f,q,j,l⟩:=b.2 X g a w x;apply Vn (h r X f a w q Q);rintro t u ⟨c,v,e,d,i,k,n,m,p⟩;exact⟨c,v,e,d,i,k,n,m,(GD.ext rfl b.1 j l (HE.refl g H w)).trans p⟩
def Ek.before{args args2:List Aa}{H H2:A1}{K:Aa→A1→Prop}(hn:args2.length=args.length)
  (hr: ∀X h w,It X h H w->Tz (cx X h H w) (cx X h H2 w) H H2/\ ∀(j:Nat) (b:Aa),args2[j]? =some b-> ∃v,args[j]? =some v/\Conv (cx X h H w) (cx X h H2 w) v b)
  (h:Ek P S args2 H2 K):Ek P S args H K:=by
 intro X g w a s n k;obtain⟨q1,q2⟩:=hr X g w s;refine(h X g w a (s.rel q1) o! λj b c m l=>?_).mono ?_;obtain⟨v,o,d⟩:=q2 j b m;exact d _ (k j v c o l);rintro e t ⟨c,v,i,f,rfl,q,r,p,x⟩;exact⟨c,v,i,f,rfl,q,r,p,(Tz.ext (X:=X) q1 (HE.refl g H w)).trans x⟩
def Ww(v v':Aa):Prop:= ∀(x:Cx) (c:Value),Bx x v c->Bx x v' c
def Ww.refl(v:Aa):Ww v v:=λ_ _ h=>h
def Ww.nil{sz:Nat}(h:0<sz):Ww .nils (.vs sz []):=λ_ _ r=>r.nil_vs h
def Dk(cs cs':List Aa):Prop:=cs'.length=cs.length/\ ∀(i:Nat) (v':Aa),cs'[i]? =some v'-> ∃v,cs[i]? =some v/\Ww v v'
theorem Dk.refl(a:List Aa):Dk a a:=⟨rfl,λ_ v h=>⟨v,h,.refl v⟩⟩
theorem Dk.append{b f:List Aa}(c:Dk i Q)(g:Dk b f):Dk (i++b) (Q++f):=by refine⟨by simp[c.1,g.1],λa j h=>?_⟩;rcases Ay a Q.length with d|d;rw[CT d]at h;obtain⟨v,q1,q2⟩:=c.2 a j h;grind;rw[Cj d]at h;obtain⟨v,q1,q2⟩:=g.2 _ j h;exact⟨v,by rw[Cj (by rw[<-c.1];exact d),<-c.1];exact q1,q2⟩
theorem Dk.one{b:Aa}(h:Ww u b):Dk [u] [b]:=⟨rfl,λi v a=>by
 match i,a with
 |0,a=>grind
 |i+1,a=>simp at a⟩
def Dk.agg{b a:List Aa}(h:Dk b a):Ww (.agg b) (.agg a):=by
 intro x c r;cases r with
 |agg i e hr=>refine .agg (by rw[i,h.1]) e λj k d g f=>?_;obtain⟨v,q1,q2⟩:=h.2 j k g;exact q2 _ _ (hr j v d q1 f)
mutual
def Ty.mk:(t:Ty)->List Bz->Option (t.D×List Bz)
 | .bool,.bl b::r=>some (b,r)
 | .int k,.it k' n::r=>if k=k' then some (n,r)else none
 | .str,.st s::r=>some (s,r)
 | .list t,.ls t' l::r=>if h:(Ty.list t').beq (Ty.list t)=true then some (Ty.cast h l,r)else none
 | .list _,.nil::r=>some ([],r)
 | .arr n t,.ar n' t' a::r=>if h:(Ty.arr n' t').beq (Ty.arr n t)=true then some (Ty.cast h a,r)else none
 | .prod ts,ls=>ts.mk ls
 |_,_=>none
def Rp.mk:(ts:Rp)->List Bz->Option (ts.D×List Bz)
 | .one t,ls=>t.mk ls
 | .cons t ts,ls=>
  match t.mk ls with
  |some (x,r)=>match ts.mk r with|some (y,r')=>some ((x,y),r')|none=>none
  |none=>none
end
mutual
theorem Ty.mk_spec: ∀(t:Ty) (b:List Bz) (x:t.D) (r:List Bz),t.mk b=some (x,r)-> ∃a,b=a++r/\Dk (lvs a) (t.enc x).cells
 | .bool,b,x,r,h=>by
  cases b with
  |nil=>simp[Ty.mk]at h
  |cons y b=>
   cases y<;>simp only[Ty.mk]at h<;>try (cases h;done)
   simp only[Ao,EX]at h;obtain⟨rfl,rfl⟩:=h;exact⟨[_],rfl,Dk.refl _⟩
 | .int k,b,x,r,h=>by
  cases b with
  |nil=>simp[Ty.mk]at h
  |cons y b=>
   cases y<;>simp only[Ty.mk]at h<;>try (cases h;done)
   split at h;rename_i f;subst f;simp only[Ao,EX]at h;obtain⟨rfl,rfl⟩:=h;exact⟨[_],rfl,Dk.refl _⟩;cases h
 | .str,b,x,r,h=>by
  cases b with
  |nil=>simp[Ty.mk]at h
  |cons y b=>
   cases y<;>simp only[Ty.mk]at h<;>try (cases h;done)
   simp only[Ao,EX]at h;obtain⟨rfl,rfl⟩:=h;exact⟨[_],rfl,Dk.refl _⟩
 | .list t,b,x,r,h=>by
  cases b with
  |nil=>simp[Ty.mk]at h
  |cons y b=>
   cases y<;>simp only[Ty.mk]at h<;>try (cases h;done)
   split at h;rename_i c;simp only[Ao,EX]at h;obtain⟨rfl,rfl⟩:=h;refine⟨[_],rfl,?_⟩;have d:((Ty.list t).enc (Ty.cast c ‹_›))=_:=cN c _;rw[d];exact Dk.refl _;cases h;simp only[Ao,EX]at h;obtain⟨rfl,rfl⟩:=h;exact⟨[_],rfl,Dk.one (Ww.nil t.sz_pos)⟩
 | .arr n t,b,x,r,h=>by
  cases b with
  |nil=>simp[Ty.mk]at h
  |cons y b=>
   cases y<;>simp only[Ty.mk]at h<;>try (cases h;done)
   split at h;rename_i c;simp only[Ao,EX]at h;obtain⟨rfl,rfl⟩:=h;refine⟨[_],rfl,?_⟩;have d:((Ty.arr n t).enc (Ty.cast c ‹_›))=_:=cN c _;rw[d];have e: ∀y:Bz,lvs [y]=y.enc:=λy=>by rw[Ha];simp[lvs]
   rw[e];exact Dk.refl _;cases h
 | .prod ts,b,x,r,h=>ts.mk_spec b x r (by simpa only[Ty.mk]using h)
theorem Rp.mk_spec: ∀(d:Rp) (c:List Bz) (x:d.D) (r:List Bz),d.mk c=some (x,r)-> ∃a,c=a++r/\Dk (lvs a) (d.cells x)
 | .one t,c,x,r,h=>t.mk_spec c x r (by simpa only[Rp.mk]using h)
 | .cons t d,c,x,r,h=>by simp only[Rp.mk]at h;split at h;rename_i y e f;split at h;rename_i z k g;simp only[Ao,EX]at h;obtain⟨rfl,rfl⟩:=h;obtain⟨a,rfl,i⟩:=t.mk_spec c y e f;obtain⟨b,rfl,j⟩:=d.mk_spec e z k g;exact⟨a++b,by rw[A0],by rw[Gn];exact i.append j⟩;cases h;cases h
end
def Ty.isAgg:Ty->Bool
 | .arr .. =>true
 | .prod _=>true
 |_=>false
def Ty.all(t:Ty)(ls:List Bz):Option t.D:=
 match t.mk ls with
 |some (x,[])=>some x
 |_=>none
theorem Ft{x:t.D}(h:t.all d=some x):Dk (Go.Ab.lvs d) (t.enc x).cells:=by unfold Ty.all at h;split at h;rename_i y c;obtain⟨a,rfl,b⟩:=t.mk_spec d y [] c;grind;cases h
def Ty.data(t:Ty)(v:TV):Option t.D:=
 match v with
 | .c x=>match t.isAgg|| !x.scalar with|true=>none|false=>t.all [x]
 | .g cs=>match t.isAgg with|true=>t.all cs|false=>none
 |_=>none
def Ty.scalar_cells(h:t.isAgg=false)(x:t.D):(t.enc x).cells=[t.enc x]:=by cases t<;>first|rfl|cases h
def Ty.agg_enc(h:t.isAgg=true)(x:t.D):t.enc x= .agg (t.enc x).cells:=by cases t<;>first|rfl|cases h
def MI{v:TV}{x:t.D}(h:t.data v=some x):Ww v.enc (t.enc x):=by unfold Ty.data at h;split at h;rename_i y;split at h;cases h;rename_i a;simp at a;have:=Ft h;rw[t.scalar_cells a.1,Ha,MH a.2]at this;obtain⟨u,b,c⟩:=this.2 0 _ rfl;simp at b;subst b;exact c;rename_i d;split at h;rename_i a;have:=(Ft h).agg;rw[<-t.agg_enc a]at this;exact this;cases h;cases h
def Ty.tv(t:Ty)(x:t.D):TV:=
 match t,x with
 | .bool,b=>.c (.bl b)
 | .int k,n=>.c (.it k n)
 | .str,s=>.c (.st s)
 | .list t,l=>.c (.ls t l)
 | .arr n t,a=>.g [.ar n t a]
 | .prod ts,x=>.g (ts.lvs x)
def Ty.tv_enc(t:Ty)(x:t.D):(t.tv x).enc=t.enc x:=by
 cases t with
 |arr n t=>
  have a: ∀y:Bz,Go.Ab.lvs [y]=y.enc:=λy=>by rw[Ha];simp[Go.Ab.lvs]
  simp only[Ty.tv,TV.enc,a];rfl
 |prod b=>simp only[Ty.tv,TV.enc,b.lvs_cells];rfl
 |_=>rfl
def Ty.tv_ok(t:Ty)(x:t.D):(t.tv x).ok b:=by
 cases t with
 |prod a=>exact a.lvs_ok x
 |_=>exact Jt trivial
def Dt.ro:Dt->Bool
 | .dead=>false
 | .live b _=>b
 | .buf b _ _ _ _=>b
 | .lp b _ _ _ _ _ _ _=>b
 | .mp b _ _ _=>b
def Dt.isLp:Dt->Bool
 | .lp .. =>true
 |_=>false
def LpS(H H':Ar):Prop:= ∀(id:Nat),id<H.length-> ∀ro F n env ps a b s,H'[id]? =some (.lp ro F n env ps a b s)-> ∃ro0 s0,H[id]? =some (.lp ro0 F n env ps a b s0)
def LpS.refl(H:Ar):LpS H H:=λ_ _ _ _ _ _ _ _ _ _ h=>⟨_,_,h⟩
def Dt.lock:Dt->Dt
 | .dead=>.dead
 | .live _ cs=>.live true cs
 | .buf _ t l n ver=>.buf true t l n ver
 | .lp _ F n env ps a b s=>.lp true F n env ps a b s
 | .mp _ k t es=>.mp true k t es
theorem sT(e:Dt):e.lock.enc=e.enc:=by cases e<;>rfl
structure CL(H H':Ar):Prop where
 len:H.length<=H'.length
 refs: ∀id ver t n,Um H id ver t n->Um H' id ver t n
 ro: ∀(id:Nat) (e:Dt),H[id]? =some e->e.ro=true->H'[id]? =some e
 nb: ∀id,id<H.length->(∀t l n ver,H[id]? ≠some (.buf false t l n ver))-> ∀t l n ver,H'[id]? ≠some (.buf false t l n ver)
 lp:LpS H H'
theorem CL.refl(H:Ar):CL H H:=⟨Ap _,λ_ _ _ _ h=>h,λ_ _ h _=>h,λ_ _ h=>h,.refl H⟩
def CL.trans{a b c:Ar}(h:CL a b)(k:CL b c):CL a c:=⟨Dh h.len k.len,λid d t n q=>k.refs id d t n (h.refs id d t n q),λid e q r=>k.ro id e (h.ro id e q r) r,λid q r=>k.nb id (DQ q h.len) (h.nb id q r),λid q _ _ _ _ _ _ _ _ r=>by obtain⟨g,i,f⟩:=k.lp id (DQ q h.len) _ _ _ _ _ _ _ _ r;exact h.lp id q _ _ _ _ _ _ _ _ f⟩
def CL.leaf(h:CL G b)(k:v.ok G):v.ok b:=by
 cases v with
 |own id a t n=>exact h.refs id a t n k
 |_=>trivial
def CL.lok(h:CL b G)(k:lok b d):lok G d:=λx c=>h.leaf (k x c)
def CL.tv(h:CL b G)(k:e.ok b):e.ok G:=h.lok k
def CL.ent(h:CL b G)(k:D.ok b):D.ok G:=by
 cases D with
 |live H d=>exact h.lok k
 |buf H t l n c=>exact k
 |dead=>trivial
 |lp=>exact k
 |mp=>exact k
def CL.env{H a:Ar}(h:CL H a){env:Bd}(k: ∀p∈env,p.2.ok H): ∀p∈env,p.2.ok a:=λp b=>h.tv (k p b)
theorem CL.push(H:Ar)(e:Dt):CL H (H++[e]):=by refine⟨k!,λid g t n h=>⟨by have:=h.1;simp;omega,λro f l d a b=>?_⟩,λid i b hr=>?_,λid c h=>q!,λid c _ _ _ _ _ _ _ _ h=>q!⟩;rw[CT h.1]at b;exact h.2 ro f l d a b;grind
def CL.set{H:Ar}{id:Nat}{r:Dt}(o:H[id]? =some D)(hr:D.ro=false)
  (y: ∀ro t l n k,r= .buf ro t l n k-> ∃d v p f,D= .buf d t v p f/\(f<k\/(f=k/\p=n)))
  (B: ∀ro F n env z a b s,r= .lp ro F n env z a b s-> ∃d w,D= .lp d F n env z a b w:=by intro _ _ _ _ _ _ _ _ h;cases h):CL H (H.set id r):=by
 have m:id<H.length:=by rcases Ay id H.length with u|u;exact u;rw[Cm u]at o;cases o
 refine⟨k!,λj k t n h=>⟨by simpa using h.1,λro I l G A g=>?_⟩,λj E g x=>?_,λj g h t l n k i=>?_,λj g _ _ _ _ _ _ _ _ i=>?_⟩;by_cases c:j=id;subst c;rw[Gt m]at g;injection g with g;obtain⟨d,v,p,f,q1,q2⟩:=y _ _ _ _ _ g;subst q1;obtain⟨C,e⟩:=h.2 _ _ _ _ _ o;rcases q2 with q2|⟨rfl,rfl⟩;exact⟨o!,λD=>o!⟩;exact⟨C,e⟩;rw[DU (λD=>c D.symm)]at g;exact h.2 _ _ _ _ _ g;have c:j≠id:=by rintro rfl;rw[o]at g;injection g with g;subst g;rw[hr]at x;cases x
 rw[DU (λD=>c D.symm)];exact g;by_cases c:j=id;subst c;rw[Gt m]at i;injection i with i;obtain⟨d,v,p,f,q1,_⟩:=y _ _ _ _ _ i;subst q1;have:d=false:=hr;subst this;exact h _ _ _ _ o;rw[DU (λD=>c D.symm)]at i;exact h _ _ _ _ i;by_cases c:j=id;subst c;rw[Gt m]at i;injection i with i;obtain⟨d,w,q⟩:=B _ _ _ _ _ _ _ _ i;exact⟨d,w,by rw[o,q]⟩;rw[DU (λD=>c D.symm)]at i;exact⟨_,_,i⟩
theorem PU{H:Ar}(h: ∀x∈H,x.ok H)(b:D.ok (H++[D])): ∀x∈H++[D],x.ok (H++[D]):=by intro x a;rcases An.1 a with a|a;exact(CL.push H D).ent (h x a);grind
def Q7{H:Ar}{id:Nat}(d:CL H (H.set id D))(h: ∀x∈H,x.ok H)(c:D.ok (H.set id D)): ∀x∈H.set id D,x.ok (H.set id D):=by intro x b;rcases OY b with b|rfl;exact d.ent (h x b);exact c
def Frame(F:List Nat)(H H':Ar):Prop:= ∀j,j<H.length->j∉F->H'[j]? =H[j]?
def Frame.refl(F:List Nat)(H:Ar):Frame F H H:=λ_ _ _=>rfl
def Frame.push(F:List Nat)(H:Ar)(e:Dt):Frame F H (H++[e]):=λ_ a _=>CT a
theorem Frame.set{F:List Nat}{H:Ar}{id:Nat}(h:id∈F):Frame F H (H.set id D):=λj _ hn=>DU λq:id=j=>hn q!
def idT:TV->List Nat
 | .c (.raw a)=>nR a
 | .c (.own id _ _ _)=>[id]
 | .aptr id .. =>[id]
 | .bptr id .. =>[id]
 | .vw id _ t n lo m=>nR (vwE id n t.sz lo m)
 |_=>[]
theorem AEy(v:TV):nR v.enc=idT v:=by
 cases v with
 |c x=>
  cases x with
  |_=>rfl
 |_=>rfl
def Q1(H:Ar)(e:Dt):BK (H++[e])=BK H++[e.enc]:=by simp[BK]
theorem Kp(H:Ar)(id:Nat)(e:Dt):BK (H.set id e)=(BK H).set id e.enc:=by simp[BK]
theorem Cf(H:Ar):(BK H).length=H.length:=CA _
section
variable {R:Type}
def storeT(P:Program)(H:Ar)(t:TypeId)(p v:TV)(k:TV->Ar->Option R):Option R:=
 match v.words,tI P t with
 |some ws,some (_,n)=>
  match Nat.beq (AD6 ws) n with
  |false=>none
  |true=>
   match p with
   | .c (.raw (.ptr id 0 off))=>
    match H[id]? with
    |some (.live false cs)=>match ABq cs off ws n with|some cs'=>k Ux (H.set id (.live false cs'))|none=>none
    |_=>none
   | .aptr id base m te i off=>
    match H[id]? with
    |some (.live false cs)=>
     match Wj cs base with
     |some (pre,.ar m' te' a::post)=>
      if h:(Ty.arr m' te').beq (Ty.arr m te)=true then
       (Gj (n:=m+1) (Ty.cast h a) i).bind λe=>
        match ABq (te.lvs e) off ws n with
        |some ls=>match te.all ls with|some e'=>k Ux (H.set id (.live false (pre++(.ar m te (WK (n:=m+1) (Ty.cast h a) i e')::post))))|none=>none
        |none=>none
      else none
     |_=>none
    |_=>none
   | .bptr id ver te _ i off=>
    match H[id]? with
    |some (.buf false te' l n' ver')=>
     match Nat.beq ver ver' with
     |true=>
      if h:(Ty.list te').beq (Ty.list te)=true then
       (ix (α:=te.D) (Ty.cast h l) i).bind λe=>
        match ABq (te.lvs e) off ws n with
        |some ls=>match te.all ls with|some e'=>k Ux (H.set id (.buf false te (FT (α:=te.D) (Ty.cast h l) i e') n' ver'))|none=>none
        |none=>none
      else none
     |false=>none
    |_=>none
   |_=>none
 |_,_=>none
theorem yB{b d:List Aa}(h:N+d.length<=Q.length):WD (i++Q++b) (i.length+N) d=i++WD Q N d++b:=by
 unfold WD;have e:(i++Q++b).take (i.length+N)=i++Q.take N:=by rw[A0,dZ,BO o!,Ss,da o!]
 have f:(i++Q++b).drop (i.length+N+d.length)=Q.drop (N+d.length)++b:=by grind[List.drop_drop,List.drop_left]
 grind
theorem Tz.set_less{H m n:A1}{f cs':List Aa}(k:N<H.length)(s:m=H.set N (.live U f))(t:n=H.set N (.live U cs'))(o:Dk f cs')(d:x.Later y):Tz x y m n:=by
 subst s t;refine⟨k!,λj p a=>?_⟩;by_cases b:j=N;subst b;rw[Gt k]at a;injection a with a;subst a;refine .inr (.inl ⟨U,f,cs',q!,rfl,o.1,λi l h=>?_⟩);obtain⟨v,q1,q2⟩:=o.2 i l h;exact⟨v,q1,λc r=>q2 _ _ (r.later d)⟩;rw[DU (λe=>b e.symm)]at a;cases p with
 |live q c0=>exact .inr (.inl ⟨q,c0,c0,q!,rfl,rfl,λi l h=>⟨l,h,λc r=>r.later d⟩⟩)
 |_=>grind
theorem fx(l:Z.length=p.length)(i: ∀(j:Nat) (e:Fl),Z[j]? =some e->e≠ .dead-> ∃a,p[j]? =some a/\a≠ .dead):(cx X h p w).Later (cx X h Z w):={size:=Ap _,keep:=λ_ _ _ _=>rfl,gen:=λ_ _=>Ap _,same:=λ_ _ _=>⟨rfl,rfl⟩,n:=by simp[cx,l],own:=λB _ m=>m.imp _root_.id (λ⟨j,e,k,d,c⟩=>by obtain⟨a,f,g⟩:=i j e k d;exact⟨j,a,f,g,c⟩)}
theorem JJ.set_less{N:Nat}{b cs':List Aa}(d:n<p.length)(h:JJ P N o s p (DX u (p.set n (.live U b))))(f:Dk b cs'):JJ P N o s p (DX u (p.set n (.live U cs'))):=by
 refine JJ.after h λX e w _=>?_;have a:(cx X e (p.set n (.live U b)) w).Later (cx X e (p.set n (.live U cs')) w):=by grind[fx]
 exact⟨Tz.set_less d rfl rfl f a,λc r=>r.later a⟩
theorem G3{l:List R}{x:R}(h:l[N]? =some x):N<l.length:=q!
variable {P:Program} {N:Nat} {o:Oper} {env:Bd} {H:Ar} {k:TV->Ar->Option R} {r:R}
def np(P:Program)(N:Nat)(o:Oper)(env:Bd)(H:Ar)(F:List Nat)(k:TV->Ar->Option R)(r:R):Prop:=
 ∃v H',JJ P N o (B4 env) (BK H) (DX v.enc (BK H'))/\k v H'=some r/\v.ok H'/\(∀e∈H',e.ok H')/\CL H H'/\Frame F H H'
theorem wN(ok:PA env H)(ho:o.op= .store a c L)(h:storeT P H a (JK env c) (JK env L) k=some r):np P N o env H (idT (JK env c)) k r:=by
 have W:=K9 env;have a1:(JK env L).ok H:=fG ok.env L;have ao:(JK env c).ok H:=fG ok.env c;unfold storeT at h;split at h;rename_i ws b n hw ht;obtain⟨w1,Z,w3⟩:=Yc hw;split at h;cases h;rename_i hn;have f:(lvs ws).length=n:=by grind[dQ,Nat.eq_of_beq_eq_true]
 have S:tI P a=some (b,(JK env L).enc.cells.length):=q!
 split at h;rename_i id d G;split at h;rename_i cs u;split at h;rename_i M hs;obtain⟨s1,s2,s3⟩:=kG hs f;have C:(BK H)[id]? =some (.live 0 (lvs cs)):=by rw[Ex,u];rfl
 have j:CL H (H.set id (.live false M)):=CL.set u rfl λ_ _ _ _ _ h=>by cases h
 refine⟨Ux,_,JJ.store ho (id:=id) (g:=0) (off:=d) (v:=(JK env L).enc) (by rw[W,G];rfl) (W L) w1 C S (by rw[Z,f];exact s2) ⟨rfl,?_⟩,h,gL,Q7 j ok.heap (j.lok (s3 H (ok.heap _ (BN u)) (w3 H a1))),j,Frame.set (by rw[G];exact A6.2 rfl)⟩;rw[Kp,Z,<-s1];rfl;cases h;cases h;rename_i id A m te i d G;split at h;rename_i cs u;split at h;rename_i w X y t p hs;split at h;rename_i hb;have U:=Ty.beq_eq _ _ hb;injection U with hm T;subst hm T;obtain⟨e,hg,h⟩:=Dp.1 h;split at h;rename_i ls R;split at h;rename_i O B;obtain⟨ad,J⟩:=OO hs;obtain⟨s1,s2,_⟩:=kG R f;have s:=Ft B;have q:(Ty.cast hb t:HA (X+1) y.D)=t:=rfl;rw[q]at hg h;obtain⟨h0,I,rfl,rfl⟩:=nr hg;obtain⟨x,c2,q1,q2,q3⟩:=rE y.E t I;have C:(BK H)[id]? =some (.live 0 (lvs w++x++(y.enc (t I)).cells++(c2++lvs p))):=by rw[Ex,u,ad];show some (Fl.live 0 (lvs (w++(.ar X y t::p))))=_;rw[Gn,Ha,bF,q1];simp only[A0];rfl
 have j:CL H (H.set id (.live false (w++(.ar X y (WK (n:=X+1) t (I.val:Int) O)::p)))):=CL.set u rfl λ_ _ _ _ _ h=>by cases h
 have al:lok H cs:=ok.heap _ (BN u);rw[ad]at al;obtain⟨o1,o2⟩:=I3.1 al;refine⟨Ux,_,?_,h,gL,Q7 j ok.heap (j.lok (I3.2 ⟨o1,λz hz=>?_⟩)),j,Frame.set (by rw[G];exact A6.2 rfl)⟩;have F:d+(lvs ws).length<=(y.enc (t I)).cells.length:=by rw[f,<-y.lvs_enc];exact s2
 have st:=JJ.store (P:=P) (N:=N) (K:=DX .any ((BK H).set id (.live 0 (WD (lvs w++x++(y.enc (t I)).cells++(c2++lvs p)) (A+(I.val:Int).toNat*y.sz+d) (JK env L).enc.cells)))) ho (id:=id) (g:=0)
  (off:=A+(I.val:Int).toNat*y.sz+d) (v:=(JK env L).enc) (by rw[W,G];rfl) (W L) w1 C S (by rw[Z,f];simp only[Ac,q2,J];have:y.E.sz=y.sz:=rfl;rw[f]at F;simp only[DG,this];omega) ⟨rfl,rfl⟩
 have ea:A+(I.val:Int).toNat*y.sz+d=(lvs w++x).length+d:=by rw[Ac,J,q2,DG];rfl
 rw[Z,ea,yB F]at st;have Q:=JJ.set_less (cs':=lvs (w++(.ar X y (WK (n:=X+1) t (I.val:Int) O)::p))) (by rw[Cf];exact G3 u) st (by rw[Gn,Ha,bF,q3 O];simp only[A0];refine(Dk.refl _).append ((Dk.refl _).append (Dk.append ?_ (Dk.refl _)));rw[<-y.lvs_enc,<-s1];exact s);rw[Kp];exact Q;rcases Aw.1 hz with rfl|hz;trivial;exact o2 z (by simp[hz]);cases h;cases h;cases h;cases h;cases h;rename_i id V te nn i d G;split at h;rename_i y l Y a2 u;split at h;rename_i hv;have a0:=DO hv;subst a0;split at h;rename_i hb;have U:=Ty.beq_eq _ _ hb;injection U with T;subst T;obtain⟨e,hg,h⟩:=Dp.1 h;split at h;rename_i ls R;split at h;rename_i O B;obtain⟨s1,s2,_⟩:=kG R f;have s:=Ft B;have q:(Ty.cast hb l:List y.D)=l:=rfl;rw[q]at hg h;obtain⟨x,c2,q1,q2,q3,q4,_,q5⟩:=rP y.E hg;have hr:Um H id V y nn:=by rw[G]at ao;exact ao (.own id V y nn) (by simp[TV.refs])
 obtain⟨_,ax⟩:=hr.2 _ _ _ _ _ u;obtain⟨_,rfl⟩:=ax rfl;have ap:Y=l.length:=ok.heap _ (BN u);have C:(BK H)[id]? =some (.live Y (x++(y.enc e).cells++c2)):=by rw[Ex,u];show some (Fl.live Y (y.E.cl l))=_;rw[q1];rfl
 have j:CL H (H.set id (.buf false y (FT l i O) Y V)):=CL.set u rfl λ_ _ _ _ _ h=>by cases h;exact⟨_,_,_,_,rfl,.inr ⟨rfl,rfl⟩⟩
 refine⟨Ux,_,?_,h,gL,Q7 j ok.heap ((sV ap.symm).symm),j,Frame.set (by rw[G];exact A6.2 rfl)⟩;have F:d+(lvs ws).length<=(y.enc e).cells.length:=by rw[f,<-y.lvs_enc];exact s2
 have st:=JJ.store (P:=P) (N:=N) (K:=DX .any ((BK H).set id (.live Y (WD (x++(y.enc e).cells++c2) (i.toNat*y.sz+d) (JK env L).enc.cells)))) ho (id:=id) (g:=Y)
  (off:=i.toNat*y.sz+d) (v:=(JK env L).enc) (by rw[W,G];rfl) (W L) w1 C S (by rw[Z,f];simp only[Ac,q2];have:y.E.sz=y.sz:=rfl;rw[f]at F;rw[this];omega) ⟨rfl,rfl⟩
 have ea:i.toNat*y.sz+d=x.length+d:=by rw[q2];rfl
 rw[Z,ea,yB F]at st;have Q:=JJ.set_less (cs':=y.E.cl (FT l i O)) (by rw[Cf];exact G3 u) st (by unfold FT;rw[q5 O];refine Dk.append (Dk.append (Dk.refl _) ?_) (Dk.refl _);rw[<-y.lvs_enc,<-s1];exact s);rw[Kp];exact Q;cases h;cases h;cases h;cases h;cases h;cases h;cases h
end
section
variable {R:Type}
def yX(P:Program)(H:Ar)(t:TypeId)(k:TV->Ar->Option R):Option R:=
 match tO P t with
 |some z=>k (.c (.raw (.ptr H.length 0 0))) (H++[.live false z])
 |none=>none
def AEU(H:Ar)(v:TV)(k:TV->Ar->Option R):Option R:=
 match v.words with
 |some ws=>k (.c (.raw (.ptr H.length 0 0))) (H++[.live false ws])
 |none=>none
def kv(t:Ty):List TV->Option (List t.D)
 |[]=>some []
 |v::r=>match t.data v,kv t r with|some x,some xs=>some (x::xs)|_,_=>none
def elT(P:Program)(t:TypeId):Option Ty:=
 match eI P t with
 |some (none,e,sz)=>
  match zm P 1000 e with
  |some te=>if sz=te.sz/\Ro P e=true then some te else none
  |none=>none
 |_=>none
def gD(len:Nat)(te:Ty)(parts:Array (Nat×Operand))(vs:List TV):Bool:=
 decide (parts.toList.map (·.1)=List.range len)&&(vs.all λv=>match v.words with|some ws=>Nat.beq (AD6 ws) te.sz|none=>false)&&Nat.ble len 4096&&Nat.ble te.sz 4096
def ZC(P:Program)(env:Bd)(H:Ar)(t:TypeId)(len:Nat)(parts:Array (Nat×Operand))(k:TV->Ar->Option R):Option R:=
 match elT P t with
 |some te=>
  match gD len te parts (parts.toList.map λp=>JK env p.2)with
  |true=>match kv te (parts.toList.map λp=>JK env p.2)with|some xs=>k (.c (.own H.length 0 te xs.length)) (H++[.buf false te xs xs.length 0])|none=>none
  |false=>none
 |none=>none
def pR(P:Program)(env:Bd)(t:TypeId)(len:Nat)(parts:Array (Nat×Operand))(k:TV->Option R):Option R:=
 match elT P t with
 |some te=>
  match gD len te parts (parts.toList.map λp=>JK env p.2)with
  |true=>match kv te (parts.toList.map λp=>JK env p.2)with|some xs=>k (.c (.ls te xs))|none=>none
  |false=>none
 |none=>none
def fy(P:Program)(H:Ar)(t:TypeId)(x y:TV)(k:TV->Ar->Option R):Option R:=
 match eI P t,x,y with
 |some (none,e,_),.c (.it _ l),.c (.it _ c)=>
  match elT P t,tO P e with
  |some te,some z=>match te.all z with|some zd=>(mk zd l c).bind λr=>k (.c (.own H.length 0 te r.length)) (H++[.buf false te r r.length 0])|none=>none
  |_,_=>none
 |_,_,_=>none
def tL(P:Program)(H:Ar)(src dst:TypeId)(x:TV)(k:TV->Ar->Option R):Option R:=
 match P.underlying src,P.underlying dst,x with
 |some _,some (.slice e),.c (.st s)=>
  match P.underlying e with
  |some (.int .u8)=>k (.c (.own H.length 0 (.int .u8) (Sl s).length)) (H++[.buf false (.int .u8) (Sl s) (Sl s).length 0])
  |_=>none
 |_,_,_=>none
def ADk(H:Ar)(te:Ty)(v:TV):Option (List te.D):=
 match v with
 | .c (.ls te' l)=>if h:(Ty.list te').beq (Ty.list te)=true then some (Ty.cast h l)else none
 | .c (.own id ver te' _)=>if h:(Ty.list te').beq (Ty.list te)=true then(match bJ H id ver te' with|some l=>some (Ty.cast (t:=.list te') (t':=.list te) h l)|none=>none)else none
 | .vw id ver te' _ lo m=>if h:(Ty.list te').beq (Ty.list te)=true then(match bJ H id ver te' with|some l=>some (Ty.cast (t:=.list te') (t':=.list te) h ((l.drop lo).take m))|none=>none)else none
 | .c .nil=>some []
 |_=>none
def qW(P:Program)(H:Ar)(t:TypeId)(s x:TV)(k:TV->Ar->Option R):Option R:=
 match elT P t with
 |some te=>
  match ADk H te x with
  |some xs=>
   match s with
   | .c .nil=>(app [] xs).bind λr=>k (.c (.own H.length 0 te r.length)) (H++[.buf false te r r.length 0])
   | .c (.own id ver te' _)=>
    match H[id]? with
    |some (.buf false t2 l _ ver')=>
     match Nat.beq ver ver' with
     |true=>
      if h:(Ty.list t2).beq (Ty.list te)=true/\(Ty.list te').beq (Ty.list te)=true then
       (app (α:=te.D) (Ty.cast h.1 l) xs).bind λr=>k (.c (.own id (ver+1) te r.length)) (H.set id (.buf false te r r.length (ver+1)))
      else none
     |false=>none
    |_=>none
   |_=>none
  |none=>none
 |none=>none
variable {P:Program} {N:Nat} {o:Oper} {env:Bd} {H:Ar} {k:TV->Ar->Option R} {r:R}
theorem sg{H:Ar}{l:List t.D}:(TV.c (.own H.length N t l.length)).ok (H++[.buf A t l l.length N]):=by refine Jt ⟨k!,λd h f g b e=>?_⟩;grind
def qh(H:Ar)(b:Ty)(n a:Nat):(TV.c (.own H.length a b n)).enc= .sl (BK H).length n b.sz 0 n:=by rw[Cf];rfl
def vI(ok:PA env H)(b:o.op= .alloc a)(h:yX P H a k=some r):np P N o env H [] k r:=by
 unfold yX at h;split at h;rename_i z d;obtain⟨e,f⟩:=Yf d;refine⟨_,_,?_,h,Jt trivial,PU ok.heap (f _),CL.push _ _,Frame.push _ _ _⟩;have t:(TV.c (.raw (.ptr H.length 0 0))).enc= .ptr (BK H).length 0 0:=by rw[Cf];rfl
 rw[t,Q1];exact JJ.alloc b e ⟨rfl,rfl⟩;cases h
def yh(ok:PA env H)(b:o.op= .box a c)(h:AEU H (JK env c) k=some r):np P N o env H [] k r:=by
 unfold AEU at h;split at h;rename_i i d;obtain⟨e,f,g⟩:=Yc d;refine⟨_,_,?_,h,Jt trivial,PU ok.heap ((CL.push _ _).lok (g H (fG ok.env c))),CL.push _ _,Frame.push _ _ _⟩;have t:(TV.c (.raw (.ptr H.length 0 0))).enc= .ptr (BK H).length 0 0:=by rw[Cf];rfl
 rw[t,Q1];exact JJ.box b (K9 env c) e ⟨rfl,by rw[f];rfl⟩;cases h
def lk{t:Ty}: ∀{b:List TV} {a:List t.D},kv t b=some a->Dk (b.map TV.enc) (a.map t.enc)
 |[],a,h=>by simp only[kv,Ao]at h;subst h;exact Dk.refl _
 |v::r,a,h=>by simp only[kv]at h;split at h;rename_i x e c d;injection h with h;subst h;have:=lk d;exact(Dk.one (MI c)).append this;cases h
def iq{t:Ty}: ∀{e:List TV} {b:List t.D},kv t e=some b->Dk ((e.map TV.enc).flatMap Aa.cells) (t.E.cl b)
 |[],b,h=>by simp only[kv,Ao]at h;subst h;exact Dk.refl _
 |v::r,b,h=>by simp only[kv]at h;split at h;rename_i x k a g;injection h with h;subst h;have i:=iq g;refine Dk.append ?_ i;unfold Ty.data at a;split at a;rename_i y;split at a;cases a;rename_i d;simp at d;have c:=Ft a;rw[Ha,MH d.2,<-Bz.scalar_cells d.2]at c;have f:lvs ([]:List Bz)=[]:=rfl;rw[f,C5]at c;exact c;rename_i j;split at a;exact Ft a;cases a;cases a;cases h
theorem iu(h:elT P a=some t): ∃e,eI P a=some (none,e,t.sz)/\Ro P e=true:=by grind[elT]
theorem sq(h:elT P a=some t)(c:gD N t E (E.toList.map λp=>JK env p.2)=true):
  Sd P (B4 env) a N E=some (t.sz,(E.toList.map λp=>JK env p.2).map TV.enc):=by
 obtain⟨e,k,l⟩:=iu h;unfold gD at c;simp only[BY,decide_eq_true_eq]at c;obtain⟨⟨⟨f,g⟩,i⟩,j⟩:=c;have d:(E.toList.map λp=>BM (B4 env) p.2)=(E.toList.map λp=>JK env p.2).map TV.enc:=by grind[List.map_congr_left,K9]
 unfold Sd;simp only[k,d];refine if_pos ⟨t.sz_pos,l,f,?_,OZ i,OZ j⟩;rw[GA];intro v n;obtain⟨u,m,rfl⟩:=Br.1 n;have:=GA.1 g u m;split at this<;>simp_all[Yc,dQ]
theorem ABE{b:List t.D}(h:kv t m=some b):b.length=m.length:=by have:=(lk h).1;grind
theorem Tz.push_less{H:A1}(n:Dk i Q)(d:x.Later y):Tz x y (H++[.live N i]) (H++[.live N Q]):=by
 refine⟨k!,λj o e=>?_⟩;rcases Ay j H.length with b|b;rw[CT b]at e;cases o with
 |live p c0=>exact .inr (.inl ⟨p,c0,c0,q!,rfl,rfl,λg m h=>⟨m,h,λc r=>r.later d⟩⟩)
 |_=>grind
 have k:=G3 e;simp at k;have l:j=H.length:=o!
 subst l;simp at e;subst e;refine .inr (.inl ⟨N,i,Q,k!,rfl,n.1,λg m h=>?_⟩);obtain⟨v,q1,q2⟩:=n.2 g m h;exact⟨v,q1,λc r=>q2 _ _ (r.later d)⟩
theorem JJ.push_less(h:JJ P N o s p (DX u (p++[.live n i])))(E:Dk i Q):JJ P N o s p (DX u (p++[.live n Q])):=by
 refine JJ.after h λX f w _=>?_;have b:(cx X f (p++[.live n i]) w).Later (cx X f (p++[.live n Q]) w):=by refine fx k! λj e l k=>?_;grind
 exact⟨Tz.push_less E b,λc r=>r.later b⟩
def mW(ok:PA env H)(f:o.op= .buildSlice a n E)(h:ZC P env H a n E k=some r):np P N o env H [] k r:=by unfold ZC at h;split at h;rename_i i d;split at h;rename_i g;split at h;rename_i j c;have e:=sq d g;have b:=ABE c;refine⟨_,_,?_,h,sg,PU ok.heap rfl,CL.push _ _,Frame.push _ _ _⟩;rw[qh,Q1];have:=TY (N:=N) (H:=BK H) (K:=DX _ _) f e ⟨rfl,rfl⟩;rw[CA,<-b]at this;exact JJ.push_less this (iq c);cases h;cases h;cases h
theorem AFj{a:Ty}{vs:List Aa}{l:List a.D}(h:Dk vs (l.map a.enc))(I:Dk (vs.flatMap Aa.cells) (a.E.cl l))(z: ∀v∈vs,v.cells.length=a.sz):Ww (.vs a.sz vs) (.vs a.sz (l.map a.enc)):=by
 intro x c L;cases L with
 |vs f t o w C p=>
  have hn:(l.map a.enc).length=vs.length:=h.1;rw[<-hn];have key: ∀(j:Nat) (e:Aa) (i:Nat) (v:Aa),(l.map a.enc)[j]? =some e->e.cells[i]? =some v-> ∃b k,vs[j]? =some b/\b.cells[i]? =some k/\Ww k v:=by
   intro j e i v d m;obtain⟨b,q1,_⟩:=h.2 j e d;have g: ∀u∈l.map a.enc,u.cells.length=a.sz:=λu J=>by obtain⟨y,_,rfl⟩:=Br.1 J;exact a.enc_len y
   have A:=nD g j e i v d m;obtain⟨k,r,s⟩:=I.2 _ v A;have H:i<a.sz:=by grind
   have F:=z b (BN q1);have G:b.cells[i]? =some (b.cells[i]'(by omega)):=Av (by omega);have M:=nD z j b i _ q1 G;grind
  refine Bx.vs f (by grind) o (λj e d=>?_) (λn=>?_) λj e i v d m=>?_;obtain⟨y,_,rfl⟩:=Br.1 (BN d);exact a.enc_len y;obtain⟨B,q,q1,q2,q3,q4⟩:=C (λe=>n (EZ (by grind)));refine⟨B,q,q1,q2,q3,λj e i v d m=>?_⟩;obtain⟨b,k,r,s,_⟩:=key j e i v d m;grind;obtain⟨b,k,r,s,K⟩:=key j e i v d m;exact K _ _ (p j b i k r s)
def o0(ok:PA env H)(s:o.op= .makeSlice a c L)(h:fy P H a (JK env c) (JK env L) k=some r):np P N o env H [] k r:=by
 have i:=K9 env;unfold fy at h;split at h;rename_i e sz Q l O y j v w;split at h;rename_i b z d A;split at h;rename_i x f;obtain⟨I,q,h⟩:=Dp.1 h;obtain⟨M,m,u⟩:=iu d;rw[j]at m;obtain⟨rfl,rfl⟩:=m;obtain⟨J,R⟩:=Yf A;have t:=Ft f;obtain⟨⟨C,D,F⟩,p,G⟩:=AIl b.E x q;refine⟨_,_,?_,h,sg,PU ok.heap rfl,CL.push _ _,Frame.push _ _ _⟩;rw[qh,Q1];have g:(lvs z).length=b.sz:=by rw[<-t.1,b.enc_len]
 have:=JJ.makeSlice (N:=N) (H:=BK H) (K:=DX _ _) s j b.sz_pos u J g (by rw[i,v];rfl) (by rw[i,w];rfl) C D F ⟨rfl,rfl⟩;rw[p]at this;apply JJ.push_less this;rw[<-G,p];induction I.length with
 |zero=>exact Dk.refl _
 |succ n B=>exact Dk.append t B
 cases h;cases h;cases h
def tM(ok:PA env H)(j:o.op= .convert I a c)(h:tL P H I a (JK env c) k=some r):np P N o env H [] k r:=by have f:=K9 env;unfold tL at h;split at h;rename_i u e s l g m;split at h;rename_i i;refine⟨_,_,?_,h,sg,PU ok.heap rfl,CL.push _ _,Frame.push _ _ _⟩;rw[qh,Q1];obtain⟨b,d⟩:=AHy s;have:=oe (N:=N) (H:=BK H) (K:=DX _ _) j l g i (by rw[f,m];rfl) ⟨rfl,rfl⟩;rw[d,b]at this;exact this;cases h;cases h
def AAE(a:Ty): ∀(l:List a.D) (k:Nat),(a.E.cl l).drop (k*a.sz)=a.E.cl (l.drop k)
 |l,0=>by rw[Xp];rfl
 |[],k+1=>by simp[Rq.cl]
 |x::r,k+1=>by have e:a.E.cl (x::r)=(a.enc x).cells++a.E.cl r:=rfl;have b:=a.enc_len x;rw[e,show(k+1)*a.sz=(a.enc x).cells.length+k*a.sz by rw[b,EW,Nat.one_mul,Xn],XW,VV o!,Bw,Ss];exact AAE a r k
def AAF(a:Ty): ∀(l:List a.D) (k:Nat),(a.E.cl l).take (k*a.sz)=a.E.cl (l.take k)
 |l,0=>by rw[Xp];rfl
 |[],k+1=>by simp[Rq.cl]
 |x::r,k+1=>by have e:a.E.cl (x::r)=(a.enc x).cells++a.E.cl r:=rfl;have b:a.E.cl (List.take (k+1) (x::r))=(a.enc x).cells++a.E.cl (r.take k):=rfl;have c:=a.enc_len x;rw[e,b,show(k+1)*a.sz=(a.enc x).cells.length+k*a.sz by rw[c,EW,Nat.one_mul,Xn],dZ,BO o!,Ss,AAF a r k]
theorem zY{f:List t.D}(x: ∀r∈H,r.ok H)(z:e.ok H)(h:ADk H t e=some f):Jr (BK H) t.sz e.enc=some (f.length,t.E.cl f):=by
 unfold ADk at h;split at h;rename_i a l;split at h;rename_i j;have c:=Ty.beq_eq _ _ j;injection c with b;subst b;injection h with h;have i:=h;subst i;simp only[TV.enc,Bz.one,Jr,CA];rfl;cases h;rename_i id g a n;split at h;rename_i j;have c:=Ty.beq_eq _ _ j;injection c with b;subst b;split at h;rename_i l v;injection h with h;have i:l=f:=h;obtain⟨s,p⟩:=dm x (z (.own id g a n) (by simp[TV.refs])) v;have y:=a.E.clen l;have A:a.E.sz=a.sz:=rfl;grind[TV.enc,Bz.one,Jr];cases h;cases h;rename_i id g a n d m;split at h;rename_i j;have c:=Ty.beq_eq _ _ j;injection c with b;subst b;split at h;rename_i l v;injection h with h;have i:(l.drop d).take m=f:=h;obtain⟨s,p⟩:=dm x (z (.own id g a n) (by simp[TV.refs])) v;have o:f.length=min m (n-d):=by rw[<-i,BQ,EH,p]
 have w:f=(l.drop d).take (min m (n-d)):=by rw[<-i,<-p,<-EH,List.take_eq_take_min]
 have y:(a.E.cl l).length=n*a.sz:=by rw[<-p];exact a.E.clen l
 show Jr (BK H) a.sz (vwE id n a.sz d m)=_;unfold vwE;by_cases q:min m (n-d)=0;have u:f=[]:=dU.1 o!;rw[if_pos q,u];by_cases q0:d=0;rw[if_pos q0];simp only[Jr,s];rw[if_pos ⟨trivial,trivial,k!⟩,Xp];rfl;rw[if_neg q0];simp[Jr,Rq.cl];rw[if_neg q];simp only[Jr,s];have k:(d+min m (n-d))*a.sz<=n*a.sz:=Mn _ o!;rw[EW]at k;rw[if_pos ⟨trivial,trivial,by rw[y];exact k⟩,o,AAE,AAF,<-w];cases h;cases h;injection h with h;subst h;rfl;cases h
theorem tQ(ok:PA env H)(R:o.op= .call {callee:=.builtin .append,args:= #[c,L],argTypes:= #[a,I]})(Y:a=I)(h:qW P H a (JK env c) (JK env L) k=some r):np P N o env H (idT (JK env c)) k r:=by
 subst Y;have x:=K9 env;unfold qW at h;split at h;rename_i te C;obtain⟨e,Q,S⟩:=iu C;split at h;rename_i w t;have v:=zY ok.heap (fG ok.env L) t;rw[<-x]at v;split at h;rename_i b;obtain⟨l,u,X⟩:=Dp.1 h;obtain⟨W,j⟩:=mV u;rw[Bw]at j;subst j;refine⟨_,_,?_,X,sg,PU ok.heap rfl,CL.push _ _,Frame.push _ _ _⟩;rw[qh,Q1];have:=cL (N:=N) (H:=BK H) (K:=DX _ _) R Q te.sz_pos S (by rw[x,b];rfl) v q! ⟨rfl,rfl⟩;exact this;rename_i id g al n b;split at h;rename_i d l J T M;split at h;rename_i Z;have G:=DO Z;subst G;split at h;rename_i y;have F:=Ty.beq_eq _ _ y.1;injection F with p;have s:=Ty.beq_eq _ _ y.2;injection s with q;subst q;subst p;obtain⟨l2,u,h⟩:=Dp.1 h;have f:(Ty.cast y.1 l:List d.D)=l:=rfl;rw[f]at u;obtain⟨W,rfl⟩:=mV u;have hr:Um H id g d n:=by have:=fG ok.env c;rw[b]at this;exact this (.own id g d n) (by simp[TV.refs])
 obtain⟨_,A⟩:=hr.2 _ _ _ _ _ M;obtain⟨_,rfl⟩:=A rfl;have z:J=l.length:=ok.heap _ (BN M);have i:(BK H)[id]? =some (.live J (d.E.cl l)):=by rw[Ex,M];rfl
 have m:CL H (H.set id (.buf false d (l++w) (l++w).length (g+1))):=CL.set M rfl λ_ _ _ _ _ h=>by cases h;exact⟨_,_,_,_,rfl,.inl (Nat.lt_succ_self _)⟩
 refine⟨_,_,?_,h,Jt ⟨q!,λad I l' n2 U hg=>?_⟩,Q7 m ok.heap rfl,m,Frame.set (by rw[b];exact A6.2 rfl)⟩;have O:=d.E.clen l;have B:d.E.sz=d.sz:=rfl;rw[B]at O;have:=Rl (N:=N) (H:=BK H) (g':=J+w.length) (K:=DX _ _) R Q d.sz_pos S (by rw[x,b];rfl) i (by rw[O,z]) v q! (by rcases VU w.length with V|V;grind;exact .inl o!) ⟨rfl,rfl⟩;grind[Kp,List.length_append,Rq.cl,TV.enc,Bz.one,Dt.enc];grind;cases h;cases h;cases h;cases h;cases h;cases h
end
def NQ(id ver:Nat)(t:Ty)(l:List t.D):Bz->Bz
 | .own id' ver' t' n=>match Nat.beq id id'&&Nat.beq ver ver' with|true=>.ls t l|false=>.own id' ver' t' n
 |x=>x
mutual
def nI(id ver:Nat)(t:Ty)(l:List t.D):TV->TV
 | .c x=>.c (NQ id ver t l x)
 | .g cs=>.g (cs.map (NQ id ver t l))
 | .tup vs=>.tup (fK id ver t l vs)
 | .aptr a b n te i o=>.aptr a b n te i o
 | .bptr a v te n i o=>.bptr a v te n i o
 | .vw a v te n i m=>.vw a v te n i m
 | .vptr cs post=>.vptr cs post
def fK(id ver:Nat)(t:Ty)(l:List t.D):List TV->List TV
 |[]=>[]
 |v::r=>nI id ver t l v::fK id ver t l r
end
def QO(id ver:Nat)(t:Ty)(l:List t.D):Dt->Dt
 | .live false cs=>.live false (cs.map (NQ id ver t l))
 |e=>e
def frz(id:Nat)(env:Bd)(H:Ar):Option (Bd×Ar):=
 match H[id]? with
 |some (.buf false t l _ ver)=>some (env.map λp=>(p.1,nI id ver t l p.2),(H.map (QO id ver t l)).set id .dead)
 |_=>none
def TD(x y:Cx)(a b:List Aa):Prop:=b.length=a.length/\ ∀(i:Nat) (v':Aa),b[i]? =some v'-> ∃v,a[i]? =some v/\Conv x y v v'
theorem TD.append{b f:List Aa}(c:TD x y i Q)(g:TD x y b f):TD x y (i++b) (Q++f):=by refine⟨by simp[c.1,g.1],λa j h=>?_⟩;rcases Ay a Q.length with d|d;rw[CT d]at h;obtain⟨v,q1,q2⟩:=c.2 a j h;grind;rw[Cj d]at h;obtain⟨v,q1,q2⟩:=g.2 _ j h;exact⟨v,by rw[Cj (by rw[<-c.1];exact d),<-c.1];exact q1,q2⟩
def TD.later{x y:Cx}(l:x.Later y)(a:List Aa):TD x y a a:=⟨rfl,λ_ v h=>⟨v,h,λ_ r=>r.later l⟩⟩
theorem TD.one{b:Aa}(h:Conv x y u b):TD x y [u] [b]:=⟨rfl,λi v a=>by
 match i,a with
 |0,a=>grind
 |i+1,a=>simp at a⟩
def TD.agg{x y:Cx}{b a:List Aa}(h:TD x y b a):Conv x y (.agg b) (.agg a):=by
 intro c r;cases r with
 |agg i e hr=>refine .agg (by rw[i,h.1]) e λj k d g f=>?_;obtain⟨v,q1,q2⟩:=h.2 j k g;exact q2 _ (hr j v d q1 f)
def TD.tup{x y:Cx}{b a:List Aa}(h:TD x y b a):Conv x y (.tup b) (.tup a):=by
 intro c r;cases r with
 |tup g hr=>refine .tup (by rw[g,h.1]) λj i d f e=>?_;obtain⟨v,q1,q2⟩:=h.2 j i f;exact q2 _ (hr j v d q1 e)
section
variable {x y:Cx} {H:Ar} {id n ver:Nat} {t:Ty} {l:List t.D} (lat:x.Later y) (hid:H[id]? =some (.buf false t l n ver)) (hc:Conv x y (.sl id n t.sz 0 n) (.vs t.sz (l.map t.enc)))
include lat hid hc
theorem nG(e:v.ok H):TD x y v.enc (NQ id ver t l v).enc/\Conv x y v.one (NQ id ver t l v).one:=by
 have same: ∀w:Bz,TD x y w.enc w.enc/\Conv x y w.one w.one:=λw=>⟨.later lat _,λ_ r=>r.later lat⟩
 cases v with
 |own f b h g=>simp only[NQ];split;rename_i a;simp only[BY]at a;have c:=DO a.1;have d:=DO a.2;subst c d;obtain⟨_,q⟩:=e.2 _ _ _ _ _ hid;obtain⟨rfl,rfl⟩:=q rfl;exact⟨.one hc,hc⟩;grind
 |_=>exact same _
def oi: ∀{a:List Bz},lok H a->TD x y (lvs a) (lvs (a.map (NQ id ver t l)))
 |[],_=>.later lat _
 |z::r,h=>by rw[Bl,Ha,Ha];exact(nG lat hid hc (h z k!)).1.append (oi λw b=>h w (by simp[b]))
mutual
theorem sA: ∀{v:TV},v.ok H->Conv x y v.enc (nI id ver t l v).enc
 | .c z,h=>(nG lat hid hc (h z (by simp[TV.refs]))).2
 | .g cs,h=>(oi lat hid hc h).agg
 | .tup vs,h=>TD.tup (pn (vs:=vs) h)
 | .aptr ..,_=>λ_ r=>r.later lat
 | .bptr ..,_=>λ_ r=>r.later lat
 | .vw ..,_=>λ_ r=>r.later lat
 | .vptr ..,_=>λ_ r=>r.later lat
theorem pn: ∀{vs:List TV},(TV.tup vs).ok H->TD x y (TV.encL vs) (TV.encL (fK id ver t l vs))
 |[],_=>.later lat _
 |v::r,h=>by simp only[TV.encL,fK];have a:v.ok H:=pA h k!;have b:(TV.tup r).ok H:=Q6 λw c=>pA h (by simp[c]);exact(TD.one (sA a)).append (pn b)
end
end
def rq{l:List t.D}(c:CL G b)(d:v.ok G):(NQ N n t l v).ok b:=by
 cases v with
 |own f e h g=>simp only[NQ];split;trivial;exact c.leaf d
 |_=>exact c.leaf d
def AAQ{l:List t.D}(H:CL G b)(h:lok G d):lok b (d.map (NQ N n t l)):=λz f=>by obtain⟨w,e,rfl⟩:=Br.1 f;exact rq H (h w e)
mutual
theorem xG{H d:Ar}{id b:Nat}{t:Ty}{l:List t.D}(a:CL H d): ∀{v:TV},v.ok H->(nI id b t l v).ok d
 | .c z,h=>Jt (rq a (h z (by simp[TV.refs])))
 | .g cs,h=>AAQ a h
 | .tup vs,h=>uV a h
 | .aptr ..,h=>a.lok h
 | .bptr ..,h=>a.lok h
 | .vw ..,h=>a.lok h
 | .vptr ..,h=>a.lok h
theorem uV{H c:Ar}{id b:Nat}{t:Ty}{l:List t.D}(d:CL H c): ∀{e:List TV},(TV.tup e).ok H->(TV.tup (fK id b t l e)).ok c
 |[],_=>λz i=>by simp[fK,TV.refs,TV.refsL]at i
 |v::r,h=>by have f:v.ok H:=pA h k!;have g:(TV.tup r).ok H:=Q6 λw a=>pA h (by simp[a]);refine Q6 λw a=>?_;simp only[fK]at a;rcases Aw.1 a with rfl|a;exact xG d f;exact pA (uV d g) a
end
theorem ACy{l:List t.D}(f:b[N]? =some (.buf false t l n U)):CL b ((b.map (QO N U t l)).set N .dead):=by
 have s:=G3 f;refine⟨k!,λj y x v h=>⟨by simpa using h.1,λro K E F u c=>?_⟩,λj e c hr=>?_,λj m h x l2 v y a=>?_,λj m _ _ _ _ _ _ _ _ a=>?_⟩;by_cases d:j=N;grind;rw[DU (λe=>d e.symm),CN]at c;cases a:b[j]? with
 |none=>grind
 |some e=>
  rw[a]at c;simp only[Bs,Ao]at c;cases e with
  |live H k=>cases H<;>simp[QO]at c
  |dead=>cases c
  |lp=>cases c
  |mp=>cases c
  |buf H q o p r=>simp only[QO]at c;exact h.2 _ _ _ _ _ (by rw[a,c])
 have d:j≠N:=by rintro rfl;rw[f]at c;injection c with c;subst c;cases hr
 rw[DU (λe=>d e.symm),CN,c];cases e with
 |live H k=>cases H with|true=>rfl|false=>cases hr
 |dead=>cases hr
 |buf H q o p r=>rfl
 |lp=>rfl
 |mp=>rfl
 by_cases d:j=N;grind;rw[DU (λe=>d e.symm),CN]at a;cases g:b[j]? with
 |none=>rw[g]at a;cases a
 |some e=>
  rw[g]at a;simp only[Bs,Ao]at a;cases e with
  |live H k=>cases H<;>simp[QO]at a
  |dead=>cases a
  |lp=>cases a
  |mp=>cases a
  |buf H q o p r=>grind[QO]
 by_cases d:j=N;grind[List.getElem?_set_self];rw[DU (λe=>d e.symm),CN]at a;cases g:b[j]? with
 |none=>rw[g]at a;cases a
 |some e=>
  rw[g]at a;simp only[Bs,Ao]at a;cases e with
  |live H k=>cases H<;>simp[QO]at a
  |dead=>cases a
  |buf H q o p r=>cases a
  |mp=>cases a
  |lp w z G C I A B J=>injection a with _ q2 q3 q4 q5 q6 q7 _;subst q2 q3 q4 q5 q6 q7;exact⟨_,_,rfl⟩
theorem AGm{id:Nat}{env env2:Bd}{H K:Ar}(ok:PA env H)(h:frz id env H=some (env2,K)):PA env2 K/\CL H K/\ ∀N,GD N (BK H).length (B4 env) (BK H) (B4 env2) (BK K):=by
 unfold frz at h;split at h;rename_i t l n i d;simp only[Ao,EX]at h;obtain⟨rfl,rfl⟩:=h;have G:=G3 d;have A:=ACy d;have hn:n=l.length:=ok.heap _ (BN d);refine⟨⟨λp M=>?_,λe R=>?_⟩,A,λN=>?_⟩;obtain⟨q,z,rfl⟩:=Br.1 M;exact xG A (ok.env q z);rcases OY R with R|rfl;obtain⟨k,S,rfl⟩:=Br.1 R;have F:=ok.heap k S;cases k with
 |live b D=>
  cases b with
  |true=>exact A.lok F
  |false=>exact AAQ A F
 |dead=>trivial
 |buf b Q P T U=>exact F
 |lp=>exact F
 |mp=>exact F
 trivial;have u:(BK H)[id]? =some (.live n (t.E.cl l)):=by rw[Ex,d];rfl
 refine Vp (by simp[BK]) λX g w s=>?_;have C: ∀j,(BK ((H.map (QO id i t l)).set id .dead))[j]? =if j=id then some .dead else(H[j]?).map λe=>(QO id i t l e).enc:=by intro j;rw[Ex];by_cases v:j=id;subst v;rw[if_pos rfl,Gt (by simpa using G)];rfl;grind
 have back: ∀(j:Nat) (e:Fl),(BK ((H.map (QO id i t l)).set id .dead))[j]? =some e->e≠ .dead->j≠id/\ ∃k,(BK H)[j]? =some k/\k≠ .dead:=by
  intro j e a f;rw[C]at a;split at a;injection a with a;exact(f a.symm).elim;rename_i v;refine⟨v,?_⟩;cases z:H[j]? with
  |none=>rw[z]at a;cases a
  |some k=>
   refine⟨k.enc,by rw[Ex,z];rfl,λL=>f ?_⟩;rw[z]at a;simp only[Bs,Ao]at a;cases k with
   |live b D=>simp[Dt.enc]at L
   |dead=>exact a.symm
   |buf b Q P T U=>simp[Dt.enc]at L
   |lp=>simp[Dt.enc]at L
   |mp=>simp[Dt.enc]at L
 have y:(cx X g (BK H) w).Later (cx X g (BK ((H.map (QO id i t l)).set id .dead)) w):=fx (by simp[BK]) λj e a f=>(back j e a f).2;have hO: ∀B,g.io id=some B-> ¬(cx X g (BK ((H.map (QO id i t l)).set id .dead)) w).O B:=by rintro B I (hX|⟨j,e,a,f,J⟩);exact(s.out B hX).2 ⟨id,_,u,k!,I⟩;obtain⟨v,k,Y,Z⟩:=back j e a f;exact v (s.inj j id _ _ B Y u Z k! J I)
 have o:Conv (cx X g (BK H) w) (cx X g (BK ((H.map (QO id i t l)).set id .dead)) w) (.sl id n t.sz 0 n) (.vs t.sz (l.map t.enc)):=λc r=>Bx.froze s u (AGw t.E l) (by rw[hn];exact CA _) y rfl hO r;refine⟨⟨by simp[BK],λj e' a=>?_⟩,λtt v' m=>?_⟩;rw[C]at a;split at a;injection a with a;exact .inl a.symm;cases z:H[j]? with
 |none=>rw[z]at a;cases a
 |some k=>
  rw[z]at a;simp only[Bs,Ao]at a;have x:(BK H)[j]? =some k.enc:=by rw[Ex,z];rfl
  cases k with
  |live b D=>
   refine .inr (.inl ?_);cases b with
   |true=>simp only[QO,Dt.enc]at a;exact⟨0,lvs D,lvs D,x,a.symm,rfl,(TD.later y _).2⟩
   |false=>simp only[QO,Dt.enc]at a;obtain⟨V,W⟩:=oi y d o (ok.heap _ (BN z));exact⟨0,lvs D,_,x,a.symm,V,W⟩
  |dead=>exact .inl a.symm
  |buf b Q P T U=>simp only[QO,Dt.enc]at a;exact .inr (.inl ⟨T,Q.E.cl P,Q.E.cl P,x,a.symm,rfl,(TD.later y _).2⟩)
  |lp=>subst a;exact .inr (.inr ⟨x,λ_ _ h=>by cases h⟩)
  |mp=>subst a;exact .inr (.inr ⟨x,λ_ _ h=>by cases h⟩)
 simp only[B4,Ml,Br]at m;obtain⟨p,M,e⟩:=m;simp only[Function.comp,EX]at e;obtain⟨rfl,rfl⟩:=e;exact⟨p.2.enc,Br.2 ⟨p,M,rfl⟩,sA y d o (ok.env p M)⟩;cases h
@[reducible] def DL:List Ty->Type
 |[]=>Unit
 |[t]=>t.D
 |t::u::r=>t.D×DL (u::r)
def inp:(ts:List Ty)->List TV->Option (DL ts)
 |[],[]=>some ()
 |[t],[v]=>t.data v
 |t::u::r,v::vs=>
  match t.data v,inp (u::r) vs with
  |some x,some y=>some (x,y)
  |_,_=>none
 |_,_=>none
def wQ:(ts:List Ty)->DL ts->List TV
 |[],_=>[]
 |[t],x=>[t.tv x]
 |t::u::r,x=>t.tv x.1::wQ (u::r) x.2
def lU:(ts:List Ty)->DL ts->List Aa
 |[],_=>[]
 |[t],x=>[t.enc x]
 |t::u::r,x=>t.enc x.1::lU (u::r) x.2
def one:List TV->TV
 |[v]=>v
 |vs=>.tup vs
def pB:List Aa->Aa
 |[v]=>v
 |vs=>.tup vs
def K4(bt:Ty):(rs:List Ty)->DL (rs++[bt])->DL rs×bt.D
 |[],y=>((),y)
 |[_],y=>(y.1,y.2)
 |_::u::r,y=>((y.1,(K4 bt (u::r) y.2).1),(K4 bt (u::r) y.2).2)
inductive RE where
 |c2 (f:FuncId) (te:Ty) (ds rs:List Ty) (post:List Aa) (g:List te.D->DL ds->Option (DL (rs++[.list te])))
 |cl (f:FuncId) (t:Ty)
 |c0 (f:FuncId) (ds rs:List Ty) (g:DL ds->Option (DL rs))
 |c1 (f:FuncId) (pos:Nat) (bt:Ty) (ds rs:List Ty) (g:bt.D->DL ds->Option (DL (rs++[bt])))
def RE.f:RE->FuncId
 | .c0 f .. =>f
 | .c1 f .. =>f
 | .c2 f .. =>f
 | .cl f _=>f
def fnB:Aa->Aa->Bool
 | .fn (.func F) [] [],.fn (.func G) [] []=>Nat.beq F G
 |_,_=>false
def AGk{w:Aa}(h:fnB u w=true):u=w:=by unfold fnB at h;split at h<;>simp_all
def ur:List TV->List Aa->Bool
 |[],[]=>true
 | .c (.raw v)::r,w::s=>fnB v w&&ur r s
 |_,_=>false
def xo: ∀{l:List TV} {p:List Aa},ur l p=true->l.map TV.enc=p
 |[],[],_=>rfl
 |[],_::_,h=>by simp[ur]at h
 |v::r,[],h=>by cases v<;>simp[ur]at h
 |v::r,w::s,h=>by unfold ur at h;split at h;rename_i e;cases e;rename_i c d;injection c with a1 a2;injection d with a b;subst a1 a2 a b;simp only[BY]at h;rw[Bl,xo h.2];exact congrArg (· ::_) (AGk h.1);cases h
def VQ:Nat->Aa->List Aa->List Aa
 |0,v,l=>v::l
 |n+1,v,x::l=>x::VQ n v l
 |_+1,v,[]=>[v]
def RE.Ok(P:Program):RE->Prop
 | .c2 f te ds rs post g=> ∀l x y,g l x=some y->(K4 (.list te) rs y).2.length=l.length-> ∀H id,H[id]? =some (.live l.length (te.E.cl l))->
  Ek P f (.sl id l.length te.sz 0 l.length::(lU ds x++post)) H (DX (pB (lU rs (K4 (.list te) rs y).1)) (H.set id (.live l.length (te.E.cl (K4 (.list te) rs y).2))))
 | .cl f t=> ∀(l:List t.D) (H:Ar),(∀e∈H,e.ok H)->(l=[]->Ek P f [.vs t.sz []] (BK H) (DX (.vs t.sz []) (BK (H++[.dead]))))/\
  ∀r,l≠ []->app [] l=some r->Ek P f [.vs t.sz (l.map t.enc)] (BK H) (DX (.sl H.length r.length t.sz 0 r.length) (BK (H++[.buf false t r r.length 0])))
 | .c0 f ds rs g=> ∀x y,g x=some y-> ∀H,Ek P f (lU ds x) H (DX (pB (lU rs y)) H)
 | .c1 f pos bt ds rs g=> ∀b x y,g b x=some y-> ∀H id,H[id]? =some (.live 0 (bt.enc b).cells)->Ek P f (VQ pos (.ptr id 0 0) (lU ds x)) H (DX (pB (lU rs (K4 bt rs y).1)) (H.set id (.live 0 (bt.enc (K4 bt rs y).2).cells)))
section
variable {R:Type}
def AAB(c:RE)(vs:List TV)(H:Ar)(k:TV->Ar->Option R):Option R:=
 match c with
 | .c0 _ ds rs g=>match inp ds vs with|some x=>(g x).bind λy=>k (one (wQ rs y)) H|none=>none
 | .c1 _ pos bt ds rs g=>
  match vs[pos]? with
  |some (.c (.raw (.ptr id 0 0)))=>
   match H[id]? with
   |some (.live false cs)=>
    match bt.all cs,inp ds (vs.take pos++vs.drop (pos+1))with
    |some b,some x=>(g b x).bind λy=>k (one (wQ rs (K4 bt rs y).1)) (H.set id (.live false (bt.lvs (K4 bt rs y).2)))
    |_,_=>none
   |_=>none
  |_=>none
 | .c2 _ te ds rs post g=>
  match vs with
  | .c (.own id ver _ _)::r=>
   match H[id]? with
   |some (.buf false t l n' ver')=>
    match Nat.beq ver ver' with
    |true=>
     if h:(Ty.list t).beq (Ty.list te)=true then
      match inp ds (r.take ds.length),ur (r.drop ds.length) post with
      |some x,true=>(g (Ty.cast h l) x).bind λy=>
       cond (Nat.beq (K4 (.list te) rs y).2.length n') (k (one (wQ rs (K4 (.list te) rs y).1)) (H.set id (.buf false te (K4 (.list te) rs y).2 n' ver'))) none
      |_,_=>none
     else none
    |false=>none
   |_=>none
  |_=>none
 | .cl _ t=>
  match vs with
  |[.c (.ls te l)]=>
   if h:(Ty.list te).beq (Ty.list t)=true then
    cond (decide (((l.length:Nat):Int)=0)) (k (.c (.ls t [])) (H++[.dead])) ((app (α:=t.D) [] (Ty.cast h l)).bind λr=>k (.c (.own H.length 0 t r.length)) (H++[.buf false t r r.length 0]))
   else none
  |[.c .nil]=>k (.c (.ls t [])) (H++[.dead])
  |_=>none
def ZY: ∀(a:List Ty) (x:DL a),(wQ a x).map TV.enc=lU a x
 |[],_=>rfl
 |[t],x=>by simp only[wQ,lU,Bl,HH,t.tv_enc]
 |t::u::r,x=>by simp only[wQ,lU,Bl,t.tv_enc,ZY (u::r)]
theorem mL{H:Ar}: ∀(b:List Ty) (x:DL b),∀v∈wQ b x,v.ok H
 |[],_,v,a=>by simp[wQ]at a
 |[t],x,v,a=>by simp only[wQ,A6]at a;subst a;exact t.tv_ok x
 |t::u::r,x,v,a=>by simp only[wQ,Aw]at a;rcases a with rfl|a;exact t.tv_ok _;exact mL (u::r) x.2 v a
def qf(a:List TV):(one a).enc=pB (a.map TV.enc):=by
 match a with
 |[]=>rfl
 |[v]=>rfl
 |v::w::r=>simp only[one,pB,TV.enc,rT,Bl]
def vq(h: ∀v∈m,v.ok b):(one m).ok b:=by
 match m,h with
 |[],h=>exact Q6 h
 |[v],h=>exact h v k!
 |v::w::r,h=>exact Q6 h
def YU: ∀{a:List Ty} {b:List TV} {x:DL a},inp a b=some x->Dk (b.map TV.enc) (lU a x)
 |[],[],x,h=>Dk.refl _
 |[t],[v],x,h=>Dk.one (MI h)
 |t::u::r,v::b,x,h=>by simp only[inp]at h;split at h;rename_i y z c d;injection h with h;subst h;exact(Dk.one (MI c)).append (YU d);cases h
 |[],_::_,x,h=>by simp[inp]at h
 |[t],[],x,h=>by simp[inp]at h
 |[t],_::_::_,x,h=>by simp[inp]at h
 |_::_::_,[],x,h=>by simp[inp]at h
theorem sH: ∀{n:Nat} {a:List Aa} {v:Aa} {b:List Aa},a[n]? =some v->Dk (a.take n++a.drop (n+1)) b->Dk a (VQ n v b)
 |0,u::a,v,b,h,hl=>by simp at h;subst h;exact(Dk.one (Ww.refl u)).append hl
 |n+1,u::a,v,b,h,hl=>by
  cases b with
  |nil=>have:=hl.1;simp at this
  |cons d b=>
   have c:Ww u d:=by obtain⟨w,q1,q2⟩:=hl.2 0 d rfl;grind
   have e:Dk (a.take n++a.drop (n+1)) b:=⟨by have:=hl.1;simpa using this,λi g f=>hl.2 (i+1) g f⟩
   exact(Dk.one c).append (sH h e)
def AEi(c:RE)(vs:List TV):List Nat:=
 match c with
 | .c0 .. =>[]
 | .c1 _ pos .. =>match vs[pos]? with|some v=>idT v|none=>[]
 | .c2 .. =>match vs[0]? with|some v=>idT v|none=>[]
 | .cl .. =>[]
def AId(c:RE)(vs:List TV):List TV:=
 match c with
 | .c2 .. =>vs.drop 1
 |_=>vs
def wo{c:RE}(hc:c.Ok P){k:TV→Ar→Option R}{r:R}(hv: ∀v∈m,v.ok b)(K: ∀e∈b,e.ok b)(h:AAB c m b k=some r):
  ∃v O,Ek P c.f (m.map TV.enc) (BK b) (DX v.enc (BK O))/\k v O=some r/\v.ok O/\(∀e∈O,e.ok O)/\CL b O/\Frame (AEi c m) b O:=by
 unfold AAB at h;split at h;rename_i f S A g;split at h;rename_i x hx;obtain⟨y,hy,h⟩:=Dp.1 h;refine⟨_,b,?_,h,vq (mL A y),K,CL.refl b,Frame.refl _ _⟩;rw[qf,ZY];have hl:=YU hx;refine Ek.before (args2:=lU S x) (H2:=BK b) hl.1 (λX g0 w s=>⟨⟨rfl,λj e' p=>?_⟩,λj Z p=>?_⟩) (hc x y hy _);cases e' with
 |dead=>exact .inl rfl
 |live g1 L=>exact .inr (.inl ⟨g1,L,L,p,rfl,rfl,λi v hi=>⟨v,hi,λ_ r=>r⟩⟩)
 |_=>exact .inr (.inr ⟨p,k!⟩)
 obtain⟨v,q1,q2⟩:=hl.2 j Z p;exact⟨v,q1,λd W=>q2 _ _ W⟩;cases h;rename_i f pos J S A g;split at h;rename_i id hp;split at h;rename_i cs o;split at h;rename_i H x hb hx;obtain⟨y,hy,h⟩:=Dp.1 h;have G:CL b (b.set id (.live false (J.lvs (K4 J A y).2))):=CL.set o rfl λ_ _ _ _ _ h=>by cases h
 refine⟨_,_,?_,h,vq (mL A _),Q7 G K (J.lvs_ok _),G,Frame.set (by simp only[AEi,hp];exact A6.2 rfl)⟩;rw[qf,ZY,Kp];have C:id<(BK b).length:=by rw[Cf];exact G3 o
 have hl:=YU hx;have ap:=Ft hb;have a:Dk (m.map TV.enc) (VQ pos (.ptr id 0 0) (lU S x)):=by refine sH ?_ (by rw[<-List.map_take,<-lI,<-Ki];exact hl);rw[CN,hp];rfl
 have D:=hc H x y hy ((BK b).set id (.live 0 (J.enc H).cells)) id (by rw[Gt C]);rw[Xl]at D;have e1:(Dt.live false (J.lvs (K4 J A y).2)).enc= .live 0 (J.enc (K4 J A y).2).cells:=by simp only[Dt.enc,J.lvs_enc]
 rw[e1];refine Ek.before a.1 (λX g0 w s=>?_) D;have ad:BK b=(BK b).set id (.live 0 (lvs cs)):=by
  have:(BK b)[id]? =some (.live 0 (lvs cs)):=by rw[Ex,o];rfl
  apply Iw;intro j;by_cases F:j=id;subst F;rw[Gt C,this];rw[DU (λe=>F e.symm)]
 have ao:(cx X g0 (BK b) w).Later (cx X g0 ((BK b).set id (.live 0 (J.enc H).cells)) w):=by refine fx k! λj e p ar=>?_;by_cases F:j=id;subst F;exact⟨.live 0 (lvs cs),by rw[Ex,o];rfl,k!⟩;rw[DU (λe=>F e.symm)]at p;exact⟨e,p,ar⟩
 refine⟨Tz.set_less C ad rfl ap ao,λj Z p=>?_⟩;obtain⟨v,q1,q2⟩:=a.2 j Z p;exact⟨v,q1,λd W=>q2 _ _ (W.later ao)⟩;cases h;cases h;cases h;rename_i f Y S A N g;split at h;rename_i id B t0 n0 r0;split at h;rename_i t l V ax o;split at h;rename_i hb;have al:=DO hb;subst al;split at h;rename_i I;have n:=Ty.beq_eq _ _ I;injection n with n;subst n;split at h;rename_i x hx hp;obtain⟨y,hy,h⟩:=Dp.1 h;have z:(Ty.cast I l:List t.D)=l:=rfl;rw[z]at hy;have hn:V=l.length:=K _ (BN o);have hr:Um b id B t0 n0:=hv _ Iv (.own id B t0 n0) (by simp[TV.refs]);obtain⟨_,q⟩:=hr.2 _ _ _ _ _ o;obtain⟨rfl,rfl⟩:=q rfl;cases T:Nat.beq (K4 (.list t) A y).2.length V with
 |false=>rw[T]at h;cases h
 |true=>
  rw[T]at h;have M:(K4 (.list t) A y).2.length=V:=DO T;have G:CL b (b.set id (.buf false t (K4 (.list t) A y).2 V B)):=CL.set o rfl λ_ _ _ _ _ e=>by cases e;exact⟨_,_,_,_,rfl,.inr ⟨rfl,rfl⟩⟩
  refine⟨_,_,?_,h,vq (mL A _),Q7 G K M.symm,G,Frame.set (by simp[AEi,idT])⟩;rw[qf,ZY,Kp];have hl:=YU hx;have U:=xo hp;have a:Dk ((TV.c (.own id B t V)::r0).map TV.enc) (.sl id l.length t.sz 0 l.length::(lU S x++N)):=by
   rw[Bl,<-DN S.length r0,Ki,U];have e1:(TV.c (.own id B t V)).enc= .sl id l.length t.sz 0 l.length:=by rw[<-hn];rfl
   rw[e1];rw[<-rA];rw[<-rA (l:=lU S x++N)];exact(Dk.refl _).append (hl.append (Dk.refl _))
  have D:=hc l x y hy (by rw[M,hn]) (BK b) id (by rw[Ex,o,<-hn];rfl);have e2:(Dt.buf false t (K4 (.list t) A y).2 V B).enc= .live l.length (t.E.cl (K4 (.list t) A y).2):=by rw[<-hn];rfl
  rw[e2];refine Ek.before a.1 (λX g0 w s=>⟨⟨rfl,λj e' p=>?_⟩,λj Z p=>?_⟩) D;cases e' with
  |dead=>exact .inl rfl
  |live g1 L=>exact .inr (.inl ⟨g1,L,L,p,rfl,rfl,λi v hi=>⟨v,hi,λ_ r=>r⟩⟩)
  |_=>exact .inr (.inr ⟨p,k!⟩)
  obtain⟨v,q1,q2⟩:=a.2 j Z p;exact⟨v,q1,λd W=>q2 _ _ W⟩
 cases h;cases h;cases h;cases h;cases h;rename_i f t;have same: ∀{args u:List Aa} {Q:Aa->A1->Prop},Dk args u->Ek P f u (BK b) Q->Ek P f args (BK b) Q:=λa D=>by
  refine Ek.before a.1 (λX g0 w s=>⟨⟨rfl,λj e' p=>?_⟩,λj Z p=>?_⟩) D;cases e' with
  |dead=>exact .inl rfl
  |live g1 L=>exact .inr (.inl ⟨g1,L,L,p,rfl,rfl,λi v hi=>⟨v,hi,λ_ r=>r⟩⟩)
  |_=>exact .inr (.inr ⟨p,k!⟩)
  obtain⟨v,q1,q2⟩:=a.2 j Z p;exact⟨v,q1,λd W=>q2 _ _ W⟩
 split at h;rename_i Y l;split at h;rename_i I;have n:=Ty.beq_eq _ _ I;injection n with n;subst n;have z:(Ty.cast I l:List Y.D)=l:=rfl;rw[z]at h;cases hz:decide (((l.length:Nat):Int)=0)with
 |true=>
  rw[hz]at h;have h0:l=[]:=by
   have:((l.length:Nat):Int)=0:=by simpa using hz
   exact EZ o!
  subst h0;refine⟨TV.c (Bz.ls Y []),b++[Dt.dead],?_,h,Jt trivial,PU K trivial,CL.push _ _,Frame.push _ _ _⟩;exact(hc [] b K).1 rfl
 |false=>
  rw[hz]at h;have h0:l≠ []:=by rintro rfl;simp at hz
  obtain⟨r,hr,h⟩:=Dp.1 h;have e:Dt.ok (b++[.buf false Y r r.length 0]) (.buf false Y r r.length 0):=rfl;have q:=(hc l b K).2 r h0 hr;refine⟨TV.c (Bz.own b.length 0 Y r.length),b++[Dt.buf false Y r r.length 0],?_,h,sg,PU K e,CL.push _ _,Frame.push _ _ _⟩;exact q
 cases h;refine⟨TV.c (Bz.ls t []),b++[Dt.dead],?_,h,Jt trivial,PU K trivial,CL.push _ _,Frame.push _ _ _⟩;exact same (Dk.one (Ww.nil t.sz_pos)) ((hc [] b K).1 rfl);cases h
end
section
variable {P:Program} {N:Nat} {o:Oper} {env:Env} {H:A1} {K:Aa->A1->Prop}
def rk{sz:Nat}{rows:List Aa}(n:o.op= .binOp .eql a c (.const (.slice none 0 0)) I)(E:P.underlying a=some (.slice W))(F:BM env c= .vs sz rows)
  (C: ∀b,(rows≠ []->b=false)->K (.bool b) H):JJ P N o env H K:=by
 apply C1 (by rw[n];rfl);intro X h t w s Q;have l:=Dj s.env c;rw[F]at l;generalize i:t.eval c=cx0 at l;cases l with
 | @vs sz rows e cap f m D p z J=>
  have k:=run_underlying E w;have g:(execOp t.eval o).run P w= .ok (.value (.bool e.isNone)) w:=by
   unfold execOp;rw[n];have r:t.eval (.const (.slice none 0 0))= .slice none 0 0:=rfl;have u:(eqGuard .eql a c (.const (.slice none 0 0)) (.slice e rows.length cap) (.slice none 0 0)).run P w= .ok () w:=by unfold eqGuard;simp
   have v:(Op.equal a (.slice e rows.length cap) (.slice none 0 0)).run P w= .ok e.isNone w:=by
    have y: ∃d,Op.maxDepth=d+1:=⟨9999,rfl⟩
    obtain⟨d,A⟩:=y;unfold Op.equal;rw[A];cases e<;>simp[Op.equalIn,k]
   simp only[i,r,Sem.run_bind,u,Result.andThen_ok,binOp,v,Sem.run_pure]
  unfold Oper.wp;rw[g,Oper.upon_value];refine⟨_,_,h,H,rfl,C e.isNone (λj=>?_),.bool _,s.sim,HE.refl _ _ _⟩;obtain⟨B,G,q,_⟩:=z j;rw[q];rfl
def JJ.clear{t e:TypeId}{x:Operand}{id g l n sz:Nat}(ho:o.op= .call {callee:=.builtin .clear,args:= #[x],argTypes:= #[t]})(hd:o.dst=none)(he:eI P t=some (none,e,sz))(bN:Ro P e=true)(hz:Yd P e=some Q)(W:Q.length=sz)
  (hx:BM env x= .sl id g sz l n) (E:H[id]? =some (Fl.live g i)) (a4:l+n*sz<=i.length) (hk:K (.tup []) (H.set id (.live g (WD i l (List.replicate n Q).flatten)))):JJ P N o env H K:=by
 apply C1 (by rw[ho];rfl);intro X h a w s z;obtain⟨b1,b,hi⟩:=QN he;obtain⟨M,zv,v,b4,a',b2⟩:=Tx bN;have a2:=kK hi v;obtain⟨i',y,a0,a8,a6⟩:=dR (cx X h H w) hz;have:i'=M:=by rw[v]at a0;exact(Bf a0).symm
 subst this;have:y=zv:=by rw[a']at a8;exact(Bf a8).symm
 subst this;have A:y.cells.size=sz:=by rw[b2,a2]
 have rx:=Dj s.env x;rw[hx]at rx;have R:=run_underlying b1 w;have S:(List.replicate n Q).flatten.length=n*sz:=by simp[W]
 obtain⟨ar,ao⟩:=s.sim.live id g i E;have b0: ∃ad cap,a.eval x= .slice ad n cap/\(n≠0-> ∃B,h.io id=some B/\ad=some ⟨B,l,none⟩):=by
  generalize a.eval x=c at rx;cases rx with
  |sl h1 h2 h3 hc=>rcases hc ar with⟨_,q2,_,q4⟩|⟨B,cap,q1,_,_,q4⟩;exact⟨none,0,by rw[q4,q2],λbG=>(bG q2).elim⟩;exact⟨_,cap,q4,λ_=>⟨B,q1,rfl⟩⟩
 obtain⟨ad,cap,Z,bb⟩:=b0;have a1:id<H.length:=by rcases Ay id H.length with h2|h2;exact h2;rw[Cm h2]at E;cases E
 by_cases hn:n=0;subst hn;have F:(execOp a.eval o).run P w= .ok (.value (.tuple #[])) w:=by unfold execOp;rw[ho];simp only[resolve,invoke,builtin,Sem.run_bind,Sem.run_pure,Result.andThen_ok,QE,Bl,HH,Z,Builtin.clear_];simp[R];cases ad<;>simp
 unfold Oper.wp;rw[F,Oper.upon_value];have e1:H.set id (.live g (WD i l (List.replicate 0 Q).flatten))=H:=by
  have:WD i l (List.replicate 0 Q).flatten=i:=by simp[WD]
  rw[this];apply Iw;intro j;by_cases a3:j=id;subst a3;rw[Gt a1,E];rw[DU λe=>a3 e.symm]
 rw[e1]at hk;exact⟨_,_,h,H,rfl,hk,.tup rfl λ_ _ _ h=>by (cases h),s.sim,HE.refl _ _ _⟩;obtain⟨B,J,rfl⟩:=bb hn;rcases ao with⟨a5,_⟩|⟨B',Y,T,fz,f,O,hb,al,b3,ap,I⟩;rw[show(cx X h H w).io id=h.io id from rfl,J]at a5;cases a5;rw[show(cx X h H w).io id=h.io id from rfl,J]at O;injection O with e0;subst e0;have V:(Builtin.zeroCells y.cells n).size=n*sz:=by rw[Ye,A]
 have G: ∀j,j<n*sz-> ∃d u,(Builtin.zeroCells y.cells n)[j]? =some d/\(List.replicate n Q).flatten[j]? =some u/\d.oneCell'=true/\Bx (cx X h H w) u d:=by
  intro j r;have a7:0<sz:=by rcases VU sz with q|q;subst q;simp at r;exact q
  have hm:j%sz<y.cells.size:=by rw[A];exact Xo _ a7
  have D:y.cells[j%sz]? =some (y.cells[j%sz]'hm):=Nf hm;have ax: ∀(m j:Nat),j<m*sz->(List.replicate m Q).flatten[j]? =Q[j%sz]? :=by
   intro m;induction m with
   |zero=>intro j r;omega
   |succ m ih=>intro j r;rw[lK,oG];rcases Ay j sz with bt|bl;rw[CT o!,Sv bt];rw[Cj o!,W,ih (j-sz) (by rw[EW]at r;omega),<-Nat.mod_eq_sub_mod bl]
  have a9:Q[j%sz]? =some (Q[j%sz]'(by rw[W];exact Xo _ a7)):=Av _;have U:(Builtin.zeroCells y.cells n)[j]? =some (y.cells[j%sz]'hm):=by
   unfold Builtin.zeroCells;rw[bE,Array.getElem?_range,if_pos (by rw[A];exact r)];have bz:j%y.cells.size<y.cells.size:=by rw[A];rw[A]at hm;exact hm
   rw[Bs,getElem!_pos y.cells _ bz];simp only[A]
  cases a6 with
  |agg q1 q2 q3=>exact⟨_,_,U,by rw[ax n j r,a9],q2 _ _ D,q3 _ _ _ a9 D⟩
 obtain⟨w',L,p1,p2,p3,p4,p5,p6,p7,p8,p9⟩:=Up (P:=P) (off:=l) (Builtin.zeroCells y.cells n).toList 0 Y w hb (by simp[V];omega) ap (λd hd=>by
  obtain⟨j,r⟩:=Dn hd;have bm:j<n*sz:=by rw[<-V];have:=(HJ.1 r).1;simpa using this
  obtain⟨d',u,q1,_,q3,_⟩:=G j bm;rw[PV]at r;rw[r]at q1;injection q1 with q1;rw[q1];exact q3)
 have F:(execOp a.eval o).run P w= .ok (.value (.tuple #[])) w':=by
  unfold execOp;rw[ho];simp only[resolve,invoke,builtin,Sem.run_bind,Sem.run_pure,Result.andThen_ok,QE,Bl,HH,Z,Builtin.clear_];have b5: ∀(α:Type) (p q:α),(match n with|0=>p|_+1=>q)=q:=by
   intro α p q;cases n with
   |zero=>exact(hn rfl).elim
   |succ m=>rfl
  obtain⟨m,rfl⟩: ∃m,n=m+1:=⟨n-1,o!⟩
  simp[R,zeroValue,typeInfo,v,a'];rw[p1];rfl
 have hh:Holds (cx X h H w) (WD i l (List.replicate n Q).flatten) L fz:=by
  refine⟨λj=>if l<=j/\j<l+n*sz then(Builtin.zeroCells y.cells n).getD (j-l) undef else f j,by rw[jW (by rw[S];exact a4)];omega,by rw[p3];exact ap,λj u r=>?_⟩;rw[tE (by rw[S];exact a4),S]at r;rw[p4];simp only[Su,Du,V,PV];split at r;rename_i C;rw[if_pos C,if_pos C];obtain⟨d,u',q1,q2,q3,q4⟩:=G (j-l) o!;rw[q2]at r;injection r with r;subst r;have e:(Builtin.zeroCells y.cells n).getD (j-l) undef=d:=by rw[QJ,q1];rfl
  rw[e];exact⟨q1,q3,q4⟩;rename_i C;rw[if_neg C,if_neg C];exact I j u r
 obtain⟨q1,q2⟩:=s.sim.upd (g':=g) (B:=B) (arr:=L) (T:=T) (fz:=fz) (w':=w') E (Ap _) (λ_=>⟨J,by rw[p3];exact al.symm⟩) (.inl J) p2 (λk _ hk=>p5 k hk) p6 p7 p8 (by rw[p9];exact Ap _) hh;unfold Oper.wp;rw[F,Oper.upon_value];exact⟨_,_,_,_,rfl,hk,.tup rfl λ_ _ _ h=>by (cases h),q1,q2⟩
def qQ(k:o.op= .call {callee:=.builtin .clear,args:= #[c],argTypes:= #[a]})(m:P.underlying a=some (.slice I))
  (x:BM env c= .vs n []) (l:K (.tup []) H):JJ P N o env H K:=by
 apply C1 (by rw[k];rfl);intro X h t w s Q;have j:=Dj s.env c;rw[x]at j;have d:=run_underlying m w;have i: ∃f cap,t.eval c= .slice f 0 cap:=by
  generalize t.eval c=e at j;cases j with
  |vs=>exact⟨_,_,rfl⟩
 obtain⟨f,cap,g⟩:=i;have b:(execOp t.eval o).run P w= .ok (.value (.tuple #[])) w:=by unfold execOp;rw[k];simp only[resolve,invoke,builtin,Sem.run_bind,Sem.run_pure,Result.andThen_ok,QE,Bl,HH,g,Builtin.clear_];simp[d];cases f<;>simp
 unfold Oper.wp;rw[b,Oper.upon_value];exact⟨_,_,h,H,rfl,l,.tup rfl λ_ _ _ h=>by (cases h),s.sim,HE.refl _ _ _⟩
end
def WJ(P:Program)(N:Nat)(ops:Array Oper):List Oper->Env->A1->(Env->A1->Prop)->Prop
 |[],env,H,Q=> ∃env1 H1,GD N H.length env H env1 H1/\Q env1 H1
 |o::rest,env,H,Q=> ∃env1 H1,GD N H.length env H env1 H1/\
  Xi ops o.guard env1 (JJ P N o env1 H1 λv H'=>WJ P N ops rest (env1.putO o.dst v) H' Q) (WJ P N ops rest (env1.putO o.dst (.tup [])) H1 Q)
def WJ.weak{N:Nat}{Q:Env->A1->Prop}{env1:Env}{H e:A1}(w:GD N H.length s H env1 e): ∀{os:List Oper},WJ P N j os env1 e Q->WJ P N j os s H Q
 |[],h=>by obtain⟨c,b,d,q⟩:=h;exact⟨c,b,w.trans (d.of_le w.1),q⟩
 |o::os,h=>by obtain⟨c,b,d,q⟩:=h;exact⟨c,b,w.trans (d.of_le w.1),q⟩
theorem rl{r:Option Nat}{C:Exit→Act→World→Prop}{Q:Env→A1→Prop}:
  ∀(l:List Nat) (os:List Oper),l.map (j[·]?)=os.map some-> ∀(env:Env) (H:A1) (h:Gh) (a:Act) (w:World),Oi N os=true->WJ P N j os env H Q->St B h N env H a w->(∀f n y u q,Q f n->St B y N f n u q->HE h H w y n q->u.defers=a.defers->C .normal u q)->wpOpsIn (FR r) 0 P j C l a w:=by
 intro l;induction l with
 |nil=>
  intro os d env H h a w _ hr s z;have:os=[]:=t!
  subst this;obtain⟨env1,A,b,hr⟩:=hr;obtain⟨x,e,E,d⟩:=b.2 B h a w s;exact z env1 A x a w hr e (GD.ext rfl b.1 E d (HE.refl h H w)) rfl
 |cons i l L=>
  intro os d env H h a w T hr s z;match os,d with
  |o::os,d=>
   simp at d;obtain⟨O,m⟩:=d;simp only[wpOpsIn,O];have g: ∀t,o.dst=some t->t<a.tmps.size:=by intro t Y;simp only[Oi]at T;rw[s.size];grind
   have p:Oi N os=true:=by simp_all[Oi]
   obtain⟨env1,A,b,hr⟩:=hr;obtain⟨x,e,E,d⟩:=b.2 B h a w s;have M:=GD.ext rfl b.1 E d (HE.refl h H w);rcases xK e.env hr with⟨J,R⟩|⟨J,S⟩;rw[if_pos J];refine Oper.wpIn_mono ?_ (R r B x a w e C);rintro u q ⟨c,v,y,n,rfl,k,W,V,K⟩;have U:=K.later B;apply L os m _ n y _ q p k ⟨V,OP.putO (e.env.later U) g W,(dM _ _ _).trans e.size⟩;intro env2 X m a2 G q2 F I D;exact z env2 X m a2 G q2 F (M.trans (K.trans I)) (D.trans (by cases o.dst<;>rfl));rw[if_neg q!];refine⟨λ_ _=>trivial,L os m _ A x _ w p S ⟨e.sim,OP.putO e.env g (.tup rfl λ_ _ _ h=>by cases h),(dM _ _ _).trans e.size⟩ ?_⟩;intro env2 X m a2 G q2 F I D;exact z env2 X m a2 G q2 F (M.trans I) (D.trans (by cases o.dst<;>rfl))
theorem Fs{N:Nat}{H:A1}{Q:Exit->Env->A1->Prop}{id:Nat}{b:Array Oper}(i:Oi N b.toList=true)(h:WJ P N b b.toList s H (Q .normal)):Lh P N (.region id b false) s H Q:=by intro r X g a w n _;refine wpIn_region (rl (List.range b.size) b.toList ?_ s H g a w i h n ?_);apply Iw;grind;intro c d f l m q j k e;exact⟨f,c,d,q,j,k,.same e⟩
open Go.MapKept (IsKey)
def Po{α:Type}(n:Int)(v:α):List (Int×α)->List (Int×α)
 |[]=>[(n,v)]
 |p::r=>bif p.1==n then(n,v)::r else p::Po n v r
def K1{α:Type}(n:Int):List (Int×α)->Option α
 |[]=>none
 |p::r=>bif p.1==n then some p.2 else K1 n r
def xd{a c:Type}(f:a->c)(n:Int)(v:a): ∀b:List (Int×a),(Po n v b).map (λp=>(p.1,f p.2))=Po n (f v) (b.map λp=>(p.1,f p.2))
 |[]=>rfl
 |p::r=>by simp only[Po,Bl];cases p.1==n<;>simp[xd f n v r]
def sZ{b c:Type}(f:b->c)(n:Int): ∀a:List (Int×b),K1 n (a.map λp=>(p.1,f p.2))=(K1 n a).map f
 |[]=>rfl
 |p::r=>by simp only[K1,Bl];cases p.1==n<;>simp[sZ f n r]
section
variable {X:Nat->Prop} {h:Gh} {H:A1} {w:World}
def It.of_extM{a:Gh}{d:World}(s:It X h H w)(k:HE h H w a p d)
  (key: ∀(id:Nat) (e:Fl),p[id]? =some e->e≠ .dead->(H[id]? =some e/\a.gen id=h.gen id/\a.io id=h.io id/\a.cap id=h.cap id/\ ∀B,h.io id=some B->d.heap[B]? =w.heap[B]?)\/(e.isB=true/\BAt a d id e))
  (inj: ∀(id b:Nat) (e g:Fl) (B:Nat),p[id]? =some e->p[b]? =some g->e≠ .dead->g≠ .dead->a.io id=some B->a.io b=some B->id=b):It X a p d:=
 s.of_ext' k (λi e j f=>(key i e j f).imp id λh=>.inr (.inr h)) inj
theorem It.push_m(s:It X h H w)(o:Obj)(cap:Nat)(E:Fl)(u:E.isB=true)
  (t:BAt (h.at_ H.length (some w.heap.size) 0 cap) {w with heap:=w.heap.push o} H.length E):
  It X (h.at_ H.length (some w.heap.size) 0 cap) (H++[E]) {w with heap:=w.heap.push o}:=by
 refine s.of_extM (HE.push o cap E) (λid e d g=>?_) λid q e r B m n b c k l=>?_;rcases Ir d with⟨a,d⟩|⟨rfl,rfl⟩;refine .inl ⟨d,by simp[Gh.at_,Bi a],by simp[Gh.at_,Bi a],by simp[Gh.at_,Bi a],λB f=>?_⟩;have:=s.io_at d g f;grind;grind;rcases Ir m with⟨l1,i⟩|⟨rfl,_⟩<;>rcases Ir n with⟨l2,j⟩|⟨rfl,_⟩;exact s.inj _ _ _ _ B i j b c (by simpa[Gh.at_,Bi l1]using k) (by simpa[Gh.at_,Bi l2]using l);have p:=s.io_at i b (by simpa[Gh.at_,Bi l1]using k);grind[Gh.at_];have p:=s.io_at j c (by simpa[Gh.at_,Bi l2]using l);grind[Gh.at_];rfl
def It.setM(s:It X h H w){E E':Fl}{o o':Obj}{w':World}(g:H[N]? =some E)(J:E.isB=true)(v:E'.isB=true)(m:h.io N=some n)(K:w.heap[n]? =some o)(A: ∀r,o≠ .loop r)
  (G:w'.heap=w.heap.setIfInBounds n o') (C:w'.os=w.os) (O:w'.tape=w.tape) (M:w'.output=w.output) (x:BAt h w' N E'):
  It X h (H.set N E') w'/\HE h H w h (H.set N E') w':=by
 have d:N<H.length:=by rcases Ay N H.length with f|f;exact f;rw[Cm f]at g;cases g
 have b:E≠ .dead:=by rintro rfl;cases J
 have B: ∀k,k≠n->w'.heap[k]? =w.heap[k]? :=λk h=>by rw[G];simp[Oa h]
 have own: ∀k,owned h (H.set N E') k->owned h H k:=by rintro k ⟨i,e,j,c,f⟩;rcases JI d j with⟨y,a⟩|⟨rfl,_⟩;exact⟨i,e,a,c,f⟩;exact⟨i,E,g,b,f⟩
 have I:HE h H w h (H.set N E') w':=by refine⟨C,O,M,by rw[G];simp,λk _ hn=>B k λe=>hn ⟨N,E,g,b,by rw[e];exact m⟩,k!,λ_ _=>Ap _,λ_ _ _=>⟨rfl,rfl⟩,λk B=>.inl (own k B),λk r hr=>⟨r,?_⟩⟩;refine(B k λe=>?_).trans hr;subst e;rw[K]at hr;injection hr with hr;exact A r hr
 refine⟨s.of_extM I (λi e j c=>?_) (λi D e F k j f p q t u=>?_),I⟩;rcases JI d j with⟨y,a⟩|⟨rfl,rfl⟩;refine .inl ⟨a,rfl,rfl,rfl,λk z=>B k λe=>?_⟩;subst e;exact y (s.inj i N _ _ k a g c b z m);exact .inr ⟨v,x⟩;rcases JI d j with⟨y,a⟩|⟨rfl,rfl⟩<;>rcases JI d f with⟨L,l⟩|⟨rfl,rfl⟩;exact s.inj i D e F k a l p q t u;exact s.inj i D e E k a g p b t u;exact s.inj i D E F k g l b q t u;rfl
end
def ln{k:IntKind}{n:Int}: ∀(l:List MapEntry) (a:List (Int×Aa)) (i:Nat),l.length=a.length→(∀(j:Nat) (p:Int×Aa),a[j]? =some p→ ∃e:MapEntry,l[j]? =some e∧e.key= .int k p.1)→
  (Instr.findNow (.int k) (.int k n) l i=some none/\K1 n a=none/\ ∀v,Po n v a=a++[(n,v)])\/∃j e p,Instr.findNow (.int k) (.int k n) l i=some (some (i+j,e.val))/\l[j]? =some e/\a[j]? =some p/\e.key= .int k n/\K1 n a=some p.2/\ ∀v,Po n v a=a.set j (n,v)
 |[],[],_,_,_=>.inl ⟨rfl,rfl,λ_=>rfl⟩
 |[],_::_,_,hl,_=>by simp at hl
 |_::_,[],_,hl,_=>by simp at hl
 |e::l,p::a,i,hl,h=>by
  obtain⟨z,o,r⟩:=h 0 p rfl;simp only[jn,Ao]at o;subst o;have m:Instr.sameNow (.int k) (.int k n) e.key=some (n==p.1):=by rw[r];simp[Instr.sameNow]
  by_cases hn:p.1=n;refine .inr ⟨0,e,p,?_,rfl,rfl,by rw[r,hn],?_,λv=>?_⟩;simp[Instr.findNow,m,hn];simp[K1,hn];simp[Po,hn];have c:(n==p.1)=false:=by simp;exact λe=>hn e.symm
  have b:(p.1==n)=false:=by simpa using hn
  rcases ln (k:=k) (n:=n) l a (i+1) (by simpa using hl) (λj q x=>by simpa using h (j+1) q (by simpa using x))with⟨d,f,g⟩|⟨j,s,y,d,f,g,t,u,w⟩;exact .inl ⟨by simp[Instr.findNow,m,c,d],by simp[K1,b,f],λv=>by simp[Po,b,g]⟩;exact .inr ⟨j+1,s,y,by simp[Instr.findNow,m,c,d];omega,by simpa using f,by simpa using g,t,by simp[K1,b,u],λv=>by simp[Po,b,w]⟩
section
variable {P:Program} {N:Nat} {o:Oper} {env:Env} {H:A1} {K:Aa->A1->Prop}
def JJ.makeMap(k:IntKind)(c:o.op= .makeMap a none)(e:K (.mp H.length) (H++[.mp k []])):JJ P N o env H K:=by
 apply C1 (by rw[c];rfl);intro X h t w s Q;have b:(execOp t.eval o).run P w= .ok (.value (.map (some w.heap.size))) {w with heap:=w.heap.push (.map #[] 0)}:=by unfold execOp;rw[c];rfl
 unfold Oper.wp;rw[b,Oper.upon_value];refine⟨_,_,_,_,rfl,e,?_,s.sim.push_m (.map #[] 0) 0 (.mp k []) rfl ⟨w.heap.size, #[],by simp[Gh.at_],by simp[Gh.at_],k!,rfl,λj p d=>by simp at d⟩,HE.push _ _ _⟩;exact .mp (by simp[cx]) rfl λ_=>⟨w.heap.size,by simp[cx,Gh.at_],rfl⟩
def ADI(s:St B h N env H M w)(u:BM env c= .mp n)(r:H[n]? =some (.mp z J)):
  ∃(X:Nat) (b:Array MapEntry),M.eval c= .map (some X)/\h.io n=some X/\h.gen n=0/\w.heap[X]? =some (.map b b.size)/\b.size=J.length/\∀(j:Nat) (p:Int×Aa),J[j]? =some p-> ∃e:MapEntry,b[j]? =some e/\e.born=j/\e.key= .int z p.1/\ ∀c,Bx c p.2 e.val:=by
 have g:=Dj s.env c;rw[u]at g;obtain⟨X,b,i,l,m,x,o⟩:=s.sim.bld n _ r rfl;generalize M.eval c=a at g;cases g with
 |mp t y q=>obtain⟨v,d,rfl⟩:=q l;rw[show(cx B h H w).io n=h.io n from rfl,i]at d;injection d with d;subst d;exact⟨X,b,rfl,i,l,m,x,o⟩
def AC3(s:St X h N env H M w)(d:BM env c= .int z F):M.eval c= .int z F:=by have b:=Dj s.env c;rw[d]at b;generalize M.eval c=a at b;cases b;rfl
theorem JJ.mapUpdate{t U et:TypeId}{m I A:Operand}{id:Nat}{k:IntKind}{es:List (Int×Aa)}{n:Int}{v:Aa}(S:o.op= .mapUpdate t m I A)(hm:BM env m= .mp id)(G:BM env I= .int k n)
  (hp: ∀(x:Cx) (c:Value),Bx x (BM env A) c-> ∀y,Bx y v c) (T:P.underlying t=some (.map U et)) (l:P.underlying U=some (.int k)) (E:H[id]? =some (.mp k es)) (R:K .any (H.set id (.mp k (Po n v es)))):JJ P N o env H K:=by
 apply C1 (by rw[S];rfl);intro X h a w s Q;obtain⟨B,b,q1,q2,q3,q4,q5,q6⟩:=ADI s hm E;have V:=AC3 s G;have W:=hp _ _ (Dj s.env A);generalize u:a.eval A=c at W;have al:id<H.length:=q!
 have f:IsKey (.int k) (.int k n):=rfl;have q:B<w.heap.size:=(bC.1 q4).1;have z:execOp a.eval o=(do Instr.mapUpdate t (a.eval m) (a.eval I) (a.eval A);pure .skip):=by unfold execOp;rw[S]
 rcases ln (n:=n) (k:=k) b.toList es 0 q! (λj p d=>by obtain⟨e,Z,_,C,_⟩:=q6 j p d;exact⟨e,q!,C⟩)with⟨D,M,O⟩|⟨j,Y,p0,D,M,O,h4,h5,h6⟩;have g:(execOp a.eval o).run P w= .ok .skip {w with heap:=w.heap.setIfInBounds B (.map (b.push {key:=.int k n,val:=c,born:=b.size}) (b.size+1))}:=by rw[z,q1,V,u];simp[Instr.mapUpdate,run_underlying T,MapKept.run_getObj_map q4,MapKept.run_checkKey l f,MapKept.run_findKey l D,MapKept.run_setObj_map _ q4]
 unfold Oper.wp;rw[g,Oper.upon_skip];obtain⟨J,L⟩:=s.sim.setM (E':=.mp k (Po n v es)) (o':=.map (b.push {key:=.int k n,val:=c,born:=b.size}) (b.size+1))
  (w':={w with heap:=w.heap.setIfInBounds B (.map (b.push {key:=.int k n,val:=c,born:=b.size}) (b.size+1))}) E rfl rfl q2 q4 (λr e=>by cases e) rfl rfl rfl rfl (by refine⟨B,b.push {key:=.int k n,val:=c,born:=b.size},q2,q3,by simp[q],q!,λj p d=>?_⟩;rw[O]at d;rcases QH j es.length with ar|rfl|ad;grind;rw[Cj (Ap _),Gl]at d;simp only[jn,Ao]at d;subst d;exact⟨{key:=.int k n,val:=c,born:=b.size},q!,q5,rfl,W⟩;rw[Cm w!]at d;cases d)
 exact⟨_,_,_,_,rfl,R,.any _,J,L⟩;have d:b[j]? =some Y:=by simpa using M
 have ap:j<b.size:=(bC.1 d).1;have g:(execOp a.eval o).run P w= .ok .skip {w with heap:=w.heap.setIfInBounds B (.map (b.modify j λe=>{e with key:=.int k n,val:=c}) b.size)}:=by rw[z,q1,V,u];simp[Instr.mapUpdate,run_underlying T,MapKept.run_getObj_map q4,MapKept.run_checkKey l f,MapKept.run_findKey l D,d,h4,MapKept.run_keyThatStays f,MapKept.run_setObj_map _ q4]
 unfold Oper.wp;rw[g,Oper.upon_skip];obtain⟨J,L⟩:=s.sim.setM (E':=.mp k (Po n v es)) (o':=.map (b.modify j λe=>{e with key:=.int k n,val:=c}) b.size)
  (w':={w with heap:=w.heap.setIfInBounds B (.map (b.modify j λe=>{e with key:=.int k n,val:=c}) b.size)}) E rfl rfl q2 q4 (λr e=>by cases e) rfl rfl rfl rfl (by refine⟨B,b.modify j λe=>{e with key:=.int k n,val:=c},q2,q3,by simp[q],q!,λi p F=>?_⟩;rw[h6,VX]at F;split at F;grind;rename_i ao;obtain⟨e,Z,C⟩:=q6 i p F;exact⟨e,q!,C⟩)
 exact⟨_,_,_,_,rfl,R,.any _,J,L⟩
def AAs(P:Program)(t:TypeId):Option Aa:=
 match (P.info? t).bind (·.zero)with
 |some (.agg cs)=>if cs.toList.all (·.oneCell')then some (.agg (cs.toList.map pZ))else none
 |some (.bool b)=>some (.bool b)
 |_=>none
theorem ABy(h:AAs P a=some u)(w:World): ∃v,(zeroValue a).run P w= .ok v w/\ ∀x,Bx x u v:=by unfold AAs at h;split at h;rename_i d t;split at h;rename_i e;obtain⟨i,c,t⟩:=Dp.1 t;refine⟨.agg d,by simp[zeroValue,typeInfo,c,t],λx=>?_⟩;have:=w7 x (.agg d);grind[ABD];cases h;rename_i b t;obtain⟨i,c,t⟩:=Dp.1 t;injection h with h;subst h;exact⟨.bool b,by simp[zeroValue,typeInfo,c,t],λx=>.bool b⟩;cases h
theorem JJ.lookup{id:Nat}{k:IntKind}{es:List (Int×Aa)}{n:Int}{z:Aa}{g:Bool}(T:o.op= .lookup a c L g)(hm:BM env c= .mp id)(G:BM env L= .int k n)
  (U:P.underlying a=some (.map I W)) (f:P.underlying I=some (.int k)) (hz:AAs P W=some z) (he:H[id]? =some (.mp k es))
  (hk:K (bif g then .tup [(K1 n es).getD z,.bool (K1 n es).isSome]else(K1 n es).getD z) H):JJ P N o env H K:=by
 apply C1 (by rw[T];cases g<;>rfl);intro X h t w s Q;obtain⟨B,q,q1,q2,q3,q4,q5,q6⟩:=ADI s hm he;have Y:=AC3 s G;have i:IsKey (.int k) (.int k n):=rfl;have y:execOp t.eval o=(do pure (.value (<-Instr.lookup a (t.eval c) (t.eval L) g))):=by unfold execOp;rw[T]
 have x: ∀(m:Value) (v:Aa) (b:Bool),(execOp t.eval o).run P w= .ok (.value (bif g then .tuple #[m,.bool b]else m)) w→Bx (cx X h H w) v m→K (bif g then .tup [v,.bool b]else v) H→
   Oper.wp P o t w (λZ V=> ∃m v E C,Z=t.put o.dst m/\K v C/\Bx (cx X E C V) v m/\It X E C V/\HE h H w E C V) Q:=by
  intro m v b A J hK;unfold Oper.wp;rw[A,Oper.upon_value];refine⟨_,_,h,H,rfl,hK,?_,s.sim,HE.refl _ _ _⟩;cases g;exact J;refine .tup k! λj u d l S=>?_;rcases j with _|_|j;grind;simp at l S;subst l S;exact .bool b;grind
 rcases ln (n:=n) (k:=k) q.toList es 0 q! (λj p l=>by obtain⟨e,r,_,D,_⟩:=q6 j p l;exact⟨e,q!,D⟩)with⟨F,h2,R⟩|⟨j,M,O,F,h2,R,h4,h5,h6⟩;obtain⟨v,J,hr⟩:=ABy hz w;refine x v z false ?_ (hr _) q!;rw[y,q1,Y];cases g<;>simp[Instr.lookup,run_underlying U,MapKept.run_getObj_map q4,MapKept.run_checkKey f i,MapKept.run_findKey f F,J];obtain⟨e',r,_,_,D⟩:=q6 j O R;have l:q[j]? =some M:=q!
 rw[l]at r;injection r with r;subst r;refine x M.val O.2 true ?_ (D _) q!;rw[y,q1,Y];cases g<;>simp[Instr.lookup,run_underlying U,MapKept.run_getObj_map q4,MapKept.run_checkKey f i,MapKept.run_findKey f F]
theorem JJ.range{id:Nat}{k:IntKind}{es:List (Int×Aa)}(d:o.op= .range a c)(j:BM env c= .mp id)(l:P.underlying a=some (.map I W))(g:H[id]? =some (.mp k es))
  (i:K (.itp H.length id) (H++[.it es.length []])):JJ P N o env H K:=by
 apply C1 (by rw[d];rfl);intro X h t w s Q;obtain⟨B,e,q1,q2,q3,q4,q5,q6⟩:=ADI s j g;have n:id<H.length:=q!
 have b:(execOp t.eval o).run P w= .ok (.value (.pointer (some ⟨w.heap.size,0,none⟩))) {w with heap:=w.heap.push (.mapIter (some B) es.length #[] es.length)}:=by unfold execOp;rw[d];simp only[q1];simp[Instr.range,run_underlying l,MapKept.run_getObj_map q4,newObj,q5];rfl
 unfold Oper.wp;rw[b,Oper.upon_value];refine⟨_,_,_,_,rfl,i,?_,s.sim.push_m (.mapIter (some B) es.length #[] es.length) B (.it es.length []) rfl ⟨w.heap.size,by simp[Gh.at_],by simp[Gh.at_],by simp[Gh.at_]⟩,HE.push _ _ _⟩;exact .itp (by simp[cx]) (by simp[cx];omega) rfl λ_=>⟨w.heap.size,by simp[cx,Gh.at_],rfl,λ_=>by simp[cx,Gh.at_,Bi n,q2]⟩
def AFu{m:Nat}(s:St B h N env H M w)(F:BM env c= .itp U m)(D:H[U]? =some (.it n O))(C:H[m]? =some (.mp z J)):
  ∃(a f:Nat) (b:Array MapEntry),M.eval c= .pointer (some ⟨a,0,none⟩)/\h.io U=some a/\h.gen U=0/\w.heap[a]? =some (.mapIter (some f) n O.toArray n)/\h.cap U=f/\w.heap[f]? =some (.map b b.size)/\b.size=J.length/\∀(j:Nat) (p:Int×Aa),J[j]? =some p-> ∃e:MapEntry,b[j]? =some e/\e.born=j/\e.key= .int z p.1/\ ∀c,Bx c p.2 e.val:=by
 have l:=Dj s.env c;rw[F]at l;obtain⟨a,o,q,r⟩:=s.sim.bld U _ D rfl;obtain⟨f,b,t,u,v,y,k⟩:=s.sim.bld m _ C rfl;generalize M.eval c=x at l;cases l with
 |itp E X I A=>obtain⟨G,g,rfl,d⟩:=A q;rw[show(cx B h H w).io U=h.io U from rfl,o]at g;injection g with g;subst g;have d:=d u;rw[show(cx B h H w).io m=h.io m from rfl,t]at d;injection d with d;have d:f=h.cap U:=d;subst d;exact⟨a,_,b,rfl,o,q,r,rfl,v,y,k⟩
theorem JJ.next{x:Operand}{id m:Nat}{k:IntKind}{es:List (Int×Aa)}{seen:List Nat}(ho:o.op= .next x false)(hx:BM env x= .itp id m)(f:H[id]? =some (.it es.length seen))(he:H[m]? =some (.mp k es))
  (z:(∀j,j<es.length->j∈seen)->K (.tup [.bool false]) H)
  (C: ∀(j:Nat) (p:Int×Aa),es[j]? =some p->j∉seen->K (.tup [.bool true,.int k p.1,p.2]) (H.set id (.it es.length (seen++[j])))):JJ P N o env H K:=by
 apply C1 (by rw[ho];rfl);intro X h a w s Q;obtain⟨B,v,c,q1,q2,q3,q4,qc,q5,q6,q7⟩:=AFu s hx f he;have ap:execOp a.eval o=(do pure (.value (<-Instr.next (a.eval x) false o.type))):=by unfold execOp;rw[ho]
 have y: ∀(j:Nat) (e:MapEntry),c[j]? =some e->e.born=j/\j<es.length:=by
  intro j e q;have I:j<es.length:=by grind[Array.getElem?_eq_some_iff]
  obtain⟨e',E,T,_⟩:=q7 j _ (Av I);rw[q]at E;injection E with E;subst E;exact⟨T,I⟩
 have t: ∀e∈c.toList,e.born<es.length:=λe A=>by grind[List.getElem?_of_mem]
 have M:w.heap[B]? =some (.mapIter (some v) es.length seen.toArray es.length):=q4;generalize V:Array.filter (λe:MapEntry=>!seen.toArray.contains e.born) c=L;have G: ∀e∈L.toList,e∈c.toList/\e.born∉seen:=λe A=>by rw[<-V]at A;simpa using A
 have E:L.filter (λx=>decide (x.born<es.length))=L:=Array.filter_eq_self.2 (λx hx=>by simpa using t x (G x (by simpa using hx)).1);have T:L.filter (λx=>decide (x.born>=es.length))= #[]:=by grind[Array.filter_eq_empty_iff]
 have D:(Instr.next (.pointer (some ⟨B,0,none⟩)) false o.type).run P w=((do
   let b:=(if L.isEmpty then #[none]else #[])++L.map some;match b[<-choose (.mapNext b.size)]? with
   |some (some e)=>
    setObj B (.mapIter (some v) es.length (seen.toArray.push e.born) c.size)
    pure (.tuple #[.bool true,e.key,e.val])
   |some none=>pure (.tuple #[.bool false])
   |none=>stuck "Next: no such candidate"):Sem Value).run P w:=by
  simp only[Instr.next,getObj,Sem.run_bind,Sem.run,M,q5,Result.andThen,next_test_false seen.toArray c es.length es.length t (Ap _),PW,if_false,V,E,T,Array.append_empty];rfl
 by_cases h0:L.size=0;have W:L= #[]:=qx h0;subst W;have g:(execOp a.eval o).run P w= .ok (.value (.tuple #[.bool false])) w:=by simp_all[Sem.run_bind,Sem.run,Question.forced]
 unfold Oper.wp;rw[g,Oper.upon_value];refine⟨_,_,h,H,rfl,z λj q=>?_,.tup k! λi u d f n=>?_,s.sim,HE.refl _ _ _⟩;obtain⟨e,O,R,_⟩:=q7 j _ (Av q);rcases Classical.em (j∈seen)with U|U;exact U;have:e∈(Array.filter (λe:MapEntry=>!seen.toArray.contains e.born) c).toList:=by have A:e∈c:=tu O;simp[A,R,U]
 rw[V]at this;simp at this;rcases i with _|i;simp at f n;subst f n;exact .bool false;simp at f;have ax:L.isEmpty=false:=by simp[Array.isEmpty,h0]
 obtain⟨i,l,ar,Y,Z,ad,al,ao⟩: ∃(i:Nat) (l:World),i<L.size/\l.heap=w.heap/\l.os=w.os/\l.output=w.output/\l.tape=w.tape/\(choose (Question.mapNext L.size)).run P w= .ok i l:=by by_cases hf:L.size<=1;exact⟨0,w,o!,rfl,rfl,rfl,rfl,by simp[choose,Sem.run,Question.forced,hf]⟩;exact⟨_,w.drew,Xo _ o!,rfl,rfl,rfl,rfl,by simp only[choose,Sem.run,Question.forced,decide_eq_true_eq,hf,if_false,Question.cut];rfl⟩
 have A:L[i]∈L.toList:=k!
 obtain⟨m1,m2⟩:=G _ A;obtain⟨j,q⟩:=Dn m1;have q:c[j]? =some L[i]:=by simpa using q
 obtain⟨O,R⟩:=y j _ q;obtain⟨e,S,c2,c3,c4⟩:=q7 j _ (Av R);rw[q]at S;injection S with S;subst S;have F:B<w.heap.size:=(bC.1 q4).1;have g:(execOp a.eval o).run P w= .ok (.value (.tuple #[.bool true,.int k es[j].1,L[i].val])) {l with heap:=w.heap.setIfInBounds B (.mapIter (some v) es.length (seen++[j]).toArray es.length)}:=by
  rw[ap,q1,Sem.run_bind,D];simp only[ax,PW,if_false,Array.empty_append,Array.size_map,Sem.run_bind,ao,Result.andThen_ok,bE,Nf ar,Bs];have J:(setObj B (.mapIter (some v) es.length (seen.toArray.push L[i].born) c.size)).run P l= .ok () {l with heap:=w.heap.setIfInBounds B (.mapIter (some v) es.length (seen++[j]).toArray es.length)}:=by simp[setObj,Sem.run,Y,M,O,q6]
  simp only[J,Result.andThen_ok,Sem.run_pure,c3]
 unfold Oper.wp;rw[g,Oper.upon_value];obtain⟨s1,s2⟩:=s.sim.setM (E':=.it es.length (seen++[j])) (o':=.mapIter (some v) es.length (seen++[j]).toArray es.length) (w':={l with heap:=w.heap.setIfInBounds B (.mapIter (some v) es.length (seen++[j]).toArray es.length)}) f rfl rfl q2 q4 (λr e=>by cases e) rfl Z al ad
  ⟨B,q2,q3,by simp[F,qc]⟩
 refine⟨_,_,_,_,rfl,C j _ (Av R) (by rw[<-O];exact m2),.tup k! λi u d f n=>?_,s1,s2⟩;rcases i with _|_|_|i;simp at f n;subst f n;exact .bool true;simp at f n;subst f n;exact .int _ _;simp at f n;subst f n;exact c4 _;simp at f
theorem JJ.entry{x:Operand}{id m j:Nat}{k:IntKind}{es:List (Int×Aa)}{seen:List Nat}{p:Int×Aa}(l:o.op= .entry x)(A:BM env x= .itp id m)(f:H[id]? =some (.it es.length (seen++[j])))(r:H[m]? =some (.mp k es))
  (v:es[j]? =some p) (y:K (.tup [.int k p.1,p.2]) H):JJ P N o env H K:=by
 apply C1 (by rw[l];rfl);intro X h a w s Q;obtain⟨B,C,b,q1,q2,q3,q4,J,q5,q6,q7⟩:=AFu s A f r;obtain⟨e,D,n,q,E⟩:=q7 j p v;have t:b.find? (λx=>x.born==j)=some e:=by
  rw[<-Array.find?_toList,<-n];refine find_born e b.toList ?_ q!;have I:b.toList.map (·.born)=List.range b.size:=by refine Iw λi=>?_;rw[CN,PV];rcases Ay i b.size with z|z;obtain⟨e,F,G,_⟩:=q7 i _ (Av (by omega:i<es.length));grind;grind
  grind
 have c:(execOp a.eval o).run P w= .ok (.value (.tuple #[.int k p.1,e.val])) w:=by unfold execOp;rw[l];simp only[q1];simp[Instr.entry,getObj,Sem.run,q4,q5,q6,t,q]
 unfold Oper.wp;rw[c,Oper.upon_value];refine⟨_,_,h,H,rfl,y,.tup k! λi u d f g=>?_,s.sim,HE.refl _ _ _⟩;rcases i with _|_|i;simp at f g;subst f g;exact .int _ _;grind;grind
end
mutual
def Ty.flat:Ty->Bool
 | .list _=>false
 | .arr _ t=>t.flat
 | .prod ts=>ts.flat
 |_=>true
def Rp.flat:Rp->Bool
 | .one t=>t.flat
 | .cons t ts=>t.flat&&ts.flat
end
def Plain(v:Aa):Prop:= ∀(x:Cx) (c:Value),Bx x v c-> ∀y,Bx y v c
theorem Plain.agg{a:List Aa}(h: ∀v∈a,Plain v):Plain (.agg a):=λx c r y=>by
 cases r with
 |agg e f i=>exact .agg e f λj v d b g=>h v (BN b) x d (i j v d b g) y
mutual
theorem Ty.plain_cells: ∀(t:Ty),t.flat=true-> ∀x:t.D,∀v∈(t.enc x).cells,Plain v
 | .bool,_,b,v,d=>by simp only[Ty.enc,Aa.cells,A6]at d;subst d;exact λ_ c r y=>by cases r;exact .bool _
 | .int k,_,n,v,d=>by simp only[Ty.enc,Aa.cells,A6]at d;subst d;exact λ_ c r y=>by cases r;exact .int _ _
 | .str,_,s,v,d=>by
  simp only[Ty.enc,Aa.cells,A6]at d;subst d;exact λ_ c r y=>by
   cases r with
   |str t e=>exact .str t e
 | .list t,h,_,_,_=>by cases h
 | .arr n t,h,a,v,d=>by simp only[Ty.enc,Aa.cells,Hj]at d;obtain⟨i,_,d⟩:=d;exact t.plain_cells h _ v d
 | .prod ts,h,x,v,d=>ts.plain_cells h x v d
theorem Rp.plain_cells: ∀(b:Rp),b.flat=true-> ∀x:b.D,∀v∈b.cells x,Plain v
 | .one t,h,x,v,a=>t.plain_cells h x v a
 | .cons t b,h,x,v,a=>by simp only[Rp.flat,BY]at h;simp only[Rp.cells,An]at a;rcases a with a|a;exact t.plain_cells h.1 _ v a;exact b.plain_cells h.2 _ v a
end
theorem Ty.plain(t:Ty)(h:t.flat=true)(x:t.D):Plain (t.enc x):=by have a:=t.plain_cells h x;cases t<;>grind[Plain.agg,Ty.enc,Aa.cells]
section
variable {R:Type}
def sW(P:Program)(H:Ar)(t:TypeId)(k:TV->Ar->Option R):Option R:=
 match P.underlying t with
 |some (.map kt et)=>
  match P.underlying kt,zm P 1000 et with
  |some (.int kk),some ty=>k (.c (.raw (.mp H.length))) (H++[.mp false kk ty []])
  |_,_=>none
 |_=>none
def mD(P:Program)(H:Ar)(t:TypeId)(m kx v:TV)(k:TV->Ar->Option R):Option R:=
 match P.underlying t with
 |some (.map kt _)=>
  match m,kx with
  | .c (.raw (.mp id)),.c (.it kk n)=>
   match P.underlying kt,H[id]? with
   |some (.int k1),some (.mp false k2 ty es)=>
    if k1=kk/\k2=kk then
     match ty.flat with
     |true=>match ty.data v with|some x=>k Ux (H.set id (.mp false k2 ty (Po n x es)))|none=>none
     |false=>none
    else none
   |_,_=>none
  |_,_=>none
 |_=>none
def vj(P:Program)(H:Ar)(t:TypeId)(g:Bool)(m kx:TV)(k:TV->Ar->Option R):Option R:=
 match P.underlying t with
 |some (.map kt et)=>
  match m,kx with
  | .c (.raw (.mp id)),.c (.it kk n)=>
   match P.underlying kt,H[id]?,AAs P et with
   |some (.int k1),some (.mp _ k2 ty es),some z=>
    if k1=kk/\k2=kk then
     match Aa.beq z (ty.enc ty.zero)with
     |true=>k (bif g then .tup [ty.tv ((K1 n es).getD ty.zero),.c (.bl (K1 n es).isSome)]else ty.tv ((K1 n es).getD ty.zero)) H
     |false=>none
    else none
   |_,_,_=>none
  |_,_=>none
 |_=>none
variable {P:Program} {N:Nat} {o:Oper} {env:Bd} {H:Ar} {k:TV->Ar->Option R} {r:R}
theorem sX(ok:PA env H)(b:o.op= .makeMap a none)(h:sW P H a k=some r): ∀F,np P N o env H F k r:=by intro F;unfold sW at h;split at h;split at h;rename_i t c _ _;have st:CL H (H++[.mp false t c []]):=CL.push H _;refine⟨_,_,JJ.makeMap t b ⟨?_,?_⟩,h,Jt trivial,PU ok.heap trivial,st,Frame.push F H _⟩;show Aa.mp (BK H).length=Aa.mp H.length;rw[Cf];rw[Q1];rfl;cases h;cases h
def o6{u:Operand}(ok:PA env H)(E:o.op= .mapUpdate a c L u)(h:mD P H a (JK env c) (JK env L) (JK env u) k=some r):np P N o env H (List.range H.length) k r:=by
 have b:=K9 env;unfold mD at h;split at h;rename_i K I F;split at h;rename_i id J n D C;split at h;rename_i k1 q t d g i;split at h;rename_i f;obtain⟨w,A⟩:=f;subst w A;split at h;rename_i e;split at h;rename_i x G;have st:CL H (H.set id (.mp false q t (Po n x d))):=CL.set i rfl λ_ _ _ _ _ h=>by cases h
 refine⟨Ux,_,JJ.mapUpdate (id:=id) (k:=q) (n:=n) (v:=t.enc x) (es:=d.map λp=>(p.1,t.enc p.2)) E (by rw[b,D];rfl) (by rw[b,C];rfl) (λy m l z=>?_) F g (by rw[Ex,i];rfl) ⟨rfl,?_⟩,h,gL,Q7 st ok.heap trivial,st,λj B hn=>(hn (Hk.2 B)).elim⟩;rw[b]at l;exact t.plain e x y m (MI G y m l) z;rw[Kp,<-xd];rfl;cases h;cases h;cases h;cases h;cases h;cases h
theorem th(ok:PA env H)(y:o.op= .lookup a c L A)(h:vj P H a A (JK env c) (JK env L) k=some r): ∀F,np P N o env H F k r:=by
 intro F;have i:=K9 env;unfold vj at h;split at h;rename_i G D j;split at h;rename_i id E n x w;split at h;rename_i k1 ro C m t z f u B;split at h;rename_i d;obtain⟨l,q⟩:=d;subst l q;split at h;rename_i s;have e:(K1 n (t.map λp=>(p.1,m.enc p.2))).getD z=(m.tv ((K1 n t).getD m.zero)).enc:=by rw[sZ,beq_eq _ _ s,Ty.tv_enc];cases K1 n t<;>rfl
 refine⟨_,H,JJ.lookup (id:=id) (k:=C) (n:=n) (z:=z) (g:=A) (es:=t.map λp=>(p.1,m.enc p.2)) y (by rw[i,x];rfl) (by rw[i,w];rfl) j f B (by rw[Ex,u];rfl) ⟨?_,rfl⟩,h,?_,ok.heap,CL.refl H,Frame.refl F H⟩;rw[e,sZ];cases A<;>cases K1 n t<;>rfl;cases A;exact Ty.tv_ok _ _;refine Q6 λv b=>?_;rcases Aw.1 b with rfl|b;exact Ty.tv_ok _ _;simp at b;subst b;exact Jt trivial;cases h;cases h;cases h;cases h;cases h
end
inductive Tgt where
 |fn (F:FuncId)
 |yd (id:Nat)
abbrev TC:= ∀{R:Type},Tgt->List TV->Ar->(TV->Ar->Option R)->Option R
def fq(ops:Array Oper)(g:Option (Nat×Bool))(env:Bd):Option Bool:=
 match g with
 |none=>some true
 |some (j,want)=>
  match (ops[j]?).bind (·.dst)with
  |some d=>match env.get d with| .c (.bl b)=>some (b==want)| .tup []=>some false|_=>none
  |none=>none
def K2:List Bz->List Nat
 |[]=>[]
 | .own id _ _ _::r=>id::K2 r
 |_::r=>K2 r
def behind(H:Ar)(v:TV):List Nat:=
 match v with
 | .c (.raw (.ptr id 0 0))=>match H[id]? with|some (.live false cs)=>K2 cs|_=>[]
 |v=>K2 v.refs
def IK:List Nat->Bd->Ar->Bd×Ar
 |[],env,H=>(env,H)
 |id::r,env,H=>match frz id env H with|some (e,h)=>IK r e h|none=>IK r env H
def xE:List RE->FuncId->Option RE
 |[],_=>none
 |c::r,F=>match Nat.beq c.f F with|true=>some c|false=>xE r F
def AFD:List Aa->List TV->Bool
 |[.fn (.func C) _ _],vs=>match vs.getLast? with|some (.c (.raw (.fn (.func D) _ _)))=>Nat.beq C D|_=>true
 |_,_=>true
def AHo:RE->List TV->Bool
 | .c2 _ _ _ _ post _,.c (.own _ _ _ _)::r=>AFD post r
 | .c2 _ _ _ _ _ _,_=>false
 |_,_=>true
def re:List RE->FuncId->List TV->Option RE
 |[],_,_=>none
 |c::r,F,vs=>match Nat.beq c.f F&&AHo c vs with|true=>some c|false=>re r F vs
def jt(env:Bd)(op:Op):Option (FuncId×List TV):=
 match op with
 | .call c=>
  match c.callee with
  | .value f=>match JK env f with| .c (.raw (.fn (.func F) first caps))=>some (F,first.map tvA++c.args.toList.map (JK env)++caps.map tvA)|_=>none
  |_=>none
 |_=>none
def tN(env:Bd)(c:Call):Option (Nat×List TV):=
 match c.callee with
 | .value f=>match JK env f with| .c (.raw (.yf id))=>some (id,c.args.toList.map (JK env))|_=>none
 |_=>none
def AF8:FuncId:=1152921504606846976
def AIK:RE:=.c0 AF8 [] [] λ_=>none
def AD2:AIK.Ok P:=λ_ _ h=>by cases h
def lC(cs:List RE)(env:Bd)(H:Ar)(op:Op):List Nat:=
 match op with
 | .call c=>
  match jt env (.call c)with
  |some (F,vs)=>match re cs F vs with|some ct=>(AId ct vs).flatMap (behind H)|none=>[]
  |none=>[]
 | .buildSlice _ _ parts=>parts.toList.flatMap λp=>K2 (JK env p.2).refs
 | .store _ a v=>match JK env a with| .aptr .. =>K2 (JK env v).refs| .bptr .. =>K2 (JK env v).refs|_=>[]
 | .slice _ x _ _ _=>match xE cs AF8 with|some _=>[]|none=>K2 (JK env x).refs
 |_=>[]
def Vu(H H':Ar):Ar:=H++H'.drop H.length
def isNil:List R->Bool
 |[]=>true
 |_=>false
section
variable {R:Type}
def vV(cs:List RE)(env:Bd)(H:Ar)(op:Op):List Nat:=
 match op with
 | .store _ a _=>idT (JK env a)
 | .mapUpdate .. =>List.range H.length
 | .call c=>
  match jt env (.call c)with
  |some (F,vs)=>match re cs F vs with|some ct=>AEi ct vs|none=>(match isNil vs with|true=>[]|false=>List.range H.length)
  |none=>
   match tN env c with
   |some _=>List.range H.length
   |none=>match c with|{callee:=.builtin .append,args:=⟨[s,_]⟩,.. }=>idT (JK env s)|_=>[]
 |_=>[]
def xC(P:Program)(cs:List RE)(call:TC)(env:Bd)(H:Ar)(op:Op)(k:TV->Ar->Option R):Option R:=
 match op with
 | .alloc t=>yX P H t k
 | .box _ x=>AEU H (JK env x) k
 | .store t a v=>storeT P H t (JK env a) (JK env v) k
 | .buildSlice t len parts=>ZC P env H t len parts k
 | .makeSlice t x y=>fy P H t (JK env x) (JK env y) k
 | .makeMap t none=>sW P H t k
 | .mapUpdate t m x y=>mD P H t (JK env m) (JK env x) (JK env y) k
 | .lookup t m x g=>vj P H t g (JK env m) (JK env x) k
 | .convert s d x=>
  match kd P d with
  | .bytes=>tL P H s d (JK env x) k
  |_=>quT P env H (.convert s d x) λv=>k v H
 | .call c=>
  match jt env (.call c)with
  |some (F,vs)=>
   match Enters P F with
   |true=>
    match re cs F vs with
    |some ct=>AAB ct vs H k
    |none=>match isNil vs with|true=>call (.fn F) [] (H.map Dt.lock) λv H'=>k v (Vu H H')|false=>call (.fn F) vs H k
   |false=>none
  |none=>
   match tN env c with
   |some (id,vs)=>call (.yd id) vs H k
   |none=>
    match c with
    |{callee:=.builtin .append,args:=⟨[s,x]⟩,argTypes:=⟨[t,t']⟩}=>match Nat.beq t t' with|true=>qW P H t (JK env s) (JK env x) k|false=>none
    |c=>quT P env H (.call c) λv=>k v H
 |op=>quT P env H op λv=>k v H
def force(f:Bool)(v:TV)(k:TV->Option R):Option R:=
 match f with
 |true=>match v with| .c (.bl b)=>cond b (k (.c (.bl true))) (k (.c (.bl false)))|v=>k v
 |false=>k v
def guards(ops:Array Oper):List Nat:=ops.toList.filterMap λo=>o.guard.map (·.1)
def OF(j:Nat):List Nat->Bool
 |[]=>false
 |i::r=>match Nat.beq i j with|true=>true|false=>OF j r
def AGp{α:Type}(l:List α)(i:Int)(z:α):Option (List α):=if 0<=i/\i<=(l.length:Int)then some (l.take i.toNat++List.replicate (l.length-i.toNat) z)else none
def AAG(o1 o2:Oper):Option (Nat×TypeId×Operand×Operand):=
 match o1.dst,o1.op,o1.guard,o2.dst,o2.op,o2.guard with
 |some d,.slice t x (some lo) none none,none,none,.call {callee:=.builtin .clear,args:=⟨[.tmp d']⟩,argTypes:=⟨[t']⟩},none=>match Nat.beq d d'&&Nat.beq t t' with|true=>some (d,t,x,lo)|false=>none
 |_,_,_,_,_,_=>none
def AGf(P:Program)(H:Ar)(t:TypeId)(x lo:TV)(k:Ar->Option R):Option R:=
 match x,lo with
 | .c (.own id ver _ _),.c (.it _ i)=>
  match H[id]? with
  |some (.buf false t2 l n2 ver2)=>
   match Nat.beq ver ver2,elT P t,eI P t with
   |true,some te,some (none,e,_)=>
    if h:(Ty.list t2).beq (Ty.list te)=true then
     match tO P e with
     |some z=>match te.all z with|some zd=>(AGp (α:=te.D) (Ty.cast h l) i zd).bind λl'=>k (H.set id (.buf false te l' n2 ver2))|none=>none
     |none=>none
    else none
   |_,_,_=>none
  |_=>none
 |_,_=>none
def AEd(o:Oper):List Oper->Option (Nat×TypeId×Operand×Operand)
 |o2::_=>AAG o o2
 |[]=>none
def xw(P:Program)(cs:List RE)(call:TC)(ops:Array Oper)(gs:List Nat)(sk:Bool):List Oper->Nat->Bd->Ar->(Bd->Ar->Option R)->Option R
 |[],_,env,H,k=>k env H
 |o::r,j,env,H,k=>
  match sk with
  |true=>xw P cs call ops gs false r (j+1) env H k
  |false=>
   match AEd o r with
   |some (d,t,x,lo)=>AGf P H t (JK env x) (JK env lo) λH'=>xw P cs call ops gs true r (j+1) (env.put d Ux) H' k
   |none=>
    match fq ops o.guard env with
    |some true=>
     match IK (lC cs env H o.op) env H with
     |(env1,H1)=>xC P cs call env1 H1 o.op λv H'=>force (OF j gs) v λv'=>xw P cs call ops gs false r (j+1) (env1.putO o.dst v') H' k
    |some false=>xw P cs call ops gs false r (j+1) (env.putO o.dst (.tup [])) H k
    |none=>none
end
def nT(H:Ar)(v:TV):Prop:= ∀id ver t n,Bz.own id ver t n∈v.refs-> ∀t' l n' ver',H[id]? ≠some (.buf false t' l n' ver')
structure Ej(A:List Nat)(env:Bd)(H:Ar)(env':Bd)(H':Ar):Prop where
 step:CL H H'
 same: ∀t,t∉A->nT H (env.get t)->env'.get t=env.get t
def nT.step(h:CL G b)(d:e.ok G)(k:nT G e):nT b e:=by intro id a t n c;have hr:=d (.own id a t n) c;exact h.nb id hr.1 (k id a t n c)
theorem Ej.refl(A:List Nat)(env:Bd)(H:Ar):Ej A env H env H:=⟨CL.refl H,λ_ _ _=>rfl⟩
def Ej.trans{A B:List Nat}{d g i:Bd}{c e f:Ar}(ok: ∀p∈d,p.2.ok c)(a:Ej A d c g e)(b:Ej B g e i f):Ej (A++B) d c i f:=by refine⟨a.step.trans b.step,λt l k=>?_⟩;have j:=a.same t (λh=>l (GI _ h)) k;rw[b.same t (λh=>l (Kj _ h)) (by rw[j];exact k.step a.step (lz ok t)),j]
def Ej.mono{B:List Nat}(a:Ej O g b Y G)(h: ∀t,t∈O->t∈B):Ej B g b Y G:=⟨a.step,λt A f=>a.same t (λq=>A (h t q)) f⟩
def qZ{t u:Nat}(h:u≠t): ∀env:Bd,(Bd.del t env).get u=env.get u
 |[]=>rfl
 |(k,v)::r=>by simp only[Bd.del];by_cases a:k=t;subst a;rw[Hn];simp only[Bd.get,beq_false (Oa h)];exact qZ h r;rw[beq_false a];simp only[Bd.get];rw[qZ h r]
def nj(h:n≠N):(g.put N e).get n=g.get n:=by simp_all[Bd.put,Bd.get,beq_false,Oa,qZ]
theorem vk{p:Nat×TV}{t:Nat}: ∀{env:Bd},p∈Bd.del t env->p∈env
 |(k,v)::r,h=>by simp only[Bd.del]at h;split at h;exact CW _ (vk h);rcases Aw.1 h with rfl|h;simp;exact CW _ (vk h)
theorem aj{d:Option Nat}(h: ∀p∈g,p.2.ok b)(H:e.ok b): ∀p∈g.putO d e,p.2.ok b:=by
 cases d with
 |none=>exact h
 |some t=>intro p a;rcases Aw.1 a with rfl|a;exact H;grind[vk]
def nH{l:List t.D}(g:b[N]? =some (.buf false t l n U))(j: ∀a f e d,v= .own a f e d-> ∀i l2 h c,b[a]? ≠some (.buf false i l2 h c)):NQ N U t l v=v:=by
 cases v with
 |own a f e d=>simp only[NQ];split<;>simp_all
 |_=>rfl
mutual
theorem sB{H:Ar}{id n k:Nat}{t:Ty}{l:List t.D}(d:H[id]? =some (.buf false t l n k)): ∀{v:TV},nT H v->nI id k t l v=v
 | .c z,h=>by simp only[nI];rw[nH d λa j i f e=>h a j i f (by simp[TV.refs,e])]
 | .g b,h=>by
  simp only[nI,TV.g.injEq];have: ∀b:List Bz,(∀a j i f,Bz.own a j i f∈b-> ∀s l2 q m,H[a]? ≠some (.buf false s l2 q m))->b.map (NQ id k t l)=b:=by
   intro b;induction b with
   |nil=>intro _;rfl
   |cons z r p=>intro h;rw[Bl,p λa j i f o=>h a j i f (by simp[o]),nH d λa j i f e=>h a j i f (by simp[e])]
  exact this b h
 | .tup vs,h=>by simp only[nI];rw[po d (vs:=vs) h]
 | .aptr ..,_=>rfl
 | .bptr ..,_=>rfl
 | .vw ..,_=>rfl
 | .vptr ..,_=>rfl
theorem po{H:Ar}{id n c:Nat}{t:Ty}{l:List t.D}(b:H[id]? =some (.buf false t l n c)): ∀{vs:List TV},nT H (.tup vs)->fK id c t l vs=vs
 |[],_=>rfl
 |v::r,h=>by simp only[fK];rw[sB b (v:=v) λa g f e d=>h a g f e (by simp only[TV.refs,TV.refsL,An];exact .inl d),po b (vs:=r) λa g f e d=>h a g f e (by simp only[TV.refs,TV.refsL,An]at d⊢;exact .inr d)]
end
def AAS{f:TV->TV}(a:f Ux=Ux)(t:Nat): ∀env:Bd,Bd.get (env.map λp=>(p.1,f p.2)) t=f (env.get t)
 |[]=>a.symm
 |(k,v)::r=>by simp only[Bl,Bd.get];split;rfl;exact AAS a t r
def ACx(h:frz N g b=some (Y,G))(t:Nat)(d:nT b (g.get t)):Y.get t=g.get t:=by unfold frz at h;split at h;rename_i e l n H a;obtain⟨rfl,rfl⟩:=h;rw[AAS (f:=nI N H e l) rfl];exact sB a d;cases h
def Q3: ∀(a:List Nat) {env:Bd} {H:Ar},PA env H→PA (IK a env H).1 (IK a env H).2∧Ej [] env H (IK a env H).1 (IK a env H).2∧
  ∀N,GD N (BK H).length (B4 env) (BK H) (B4 (IK a env H).1) (BK (IK a env H).2)
 |[],env,H,ok=>⟨ok,Ej.refl _ _ _,λN=>GD.refl N _ _⟩
 |id::r,env,H,ok=>by simp only[IK];split;rename_i e h b;obtain⟨f,c,j⟩:=AGm ok b;obtain⟨g,i,k⟩:=Q3 r f;refine⟨g,(Ej.trans (A:=[]) (B:=[]) ok.env ⟨c,λt _ d=>ACx b t d⟩ i),λN=>(j N).trans ((k N).of_le (by rw[Cf,Cf];exact c.len))⟩;exact Q3 r ok
section
variable {P:Program} {N:Nat} {R:Type}
def zu(P:Program)(args:List Aa)(H:A1)(v:Aa)(H':A1):Tgt->Prop
 | .fn F=>Ek P F args H (DX v H')
 | .yd id=> ∀(N:Nat) (o:Oper) (c:Call) (f:Operand) (env:Env),o.op= .call c->c.callee= .value f->BM env f= .yf id->c.args.toList.map (BM env)=args->JJ P N o env H (DX v H')
def Wv(P:Program)(call:TC):Prop:= ∀{R:Type} tg vs H (k:TV->Ar->Option R) r,(∀v∈vs,v.ok H)->(∀e∈H,e.ok H)->call tg vs H k=some r->
 ∃v H',zu P (vs.map TV.enc) (BK H) v.enc (BK H') tg/\k v H'=some r/\v.ok H'/\(∀e∈H',e.ok H')/\CL H H'
theorem jO(h:fq j q g=some true){B:Prop}(a:V):Xi j q (B4 g) V B:=by unfold fq at h;grind[Xi,V7,UN,TV.enc,Bz.one]
theorem nQ(h:fq j q g=some false){B:Prop}(b:B):Xi j q (B4 g) V B:=by unfold fq at h;unfold Xi;split at h;cases h;rename_i a c;unfold V7;split at h;rename_i d f;simp only[f,UN];split at h;grind[TV.enc,Bz.one];rename_i e;simp[e];exact b;cases h;cases h
theorem vd(e: ∀d b,g.get d= .c (.bl b)->Y.get d= .c (.bl b))(h:fq j q g=some true):fq j q Y=some true:=by cases q<;>grind[fq]
theorem rZ: ∀{a:List RE} {F:FuncId} {c:RE},xE a F=some c->c∈a/\c.f=F
 |d::r,F,c,h=>by simp only[xE]at h;split at h;simp_all;obtain⟨b,e⟩:=rZ h;grind
theorem rf: ∀{a:List RE} {F:FuncId} {b:List TV} {c:RE},re a F b=some c->c∈a/\c.f=F
 |d::r,F,b,c,h=>by simp only[re]at h;split at h;simp_all;obtain⟨e,g⟩:=rf h;grind
theorem vL{e:Op}(h:jt g e=some (S,m)):Go.Ab.callT (BM (B4 g)) e=some (.inl (S,m.map TV.enc))/\ ∀H,(∀p∈g,p.2.ok H)-> ∀v∈m,v.ok H:=by
 unfold jt at h;split at h;rename_i c;split at h;rename_i f d;split at h;rename_i G first a F
 simp at h;obtain⟨rfl,rfl⟩:=h;have j:BM (B4 g) f= .fn (.func G) first a:=by rw[K9,F];rfl
 have k: ∀l:List Aa,(l.map tvA).map TV.enc=l:=by
  intro l;conv=>rhs;rw[<-dX l]
  grind[List.map_congr_left,gM]
 refine⟨?_,λH b v i=>?_⟩;simp_all[Go.Ab.callT,K9];simp at i;grind[jY,fG];cases h;cases h;cases h
theorem yJ{c:Call}(h:tN g c=some (N,m)):(∃f,c.callee= .value f/\BM (B4 g) f= .yf N/\c.args.toList.map (BM (B4 g))=m.map TV.enc)/\ ∀H,(∀p∈g,p.2.ok H)-> ∀v∈m,v.ok H:=by unfold tN at h;split at h;rename_i f a;split at h;rename_i i b;injection h with h;injection h with d e;subst d e;refine⟨⟨f,a,by rw[K9,b];rfl,?_⟩,λH j v k=>?_⟩;grind[List.map_congr_left,K9];grind[fG];cases h;cases h
def AHD{k:TV->Ar->Option R}{r:R}(ok:PA g b)(h:quT P g b o.op (λv=>k v b)=some r): ∀F,np P N o g b F k r:=by intro F;obtain⟨v,a,H,c⟩:=uu ok h;exact⟨v,b,Dq a ⟨rfl,rfl⟩,H,c,ok.heap,CL.refl b,Frame.refl F b⟩
theorem tW(H:Ar):BK (H.map Dt.lock)=BK H:=by grind[BK,List.map_congr_left,sT]
theorem xZ(h: ∀e∈b,e.ok b): ∀e∈b.map Dt.lock,e.ok (b.map Dt.lock):=by
 have f: ∀id a t n,Um b id a t n->Um (b.map Dt.lock) id a t n:=λid a t n q=>by
  refine⟨by simpa using q.1,λro y l w k c=>?_⟩;rw[CN]at c;cases j:b[id]? with
  |none=>grind
  |some e=>
   rw[j]at c;simp at c;cases e<;>simp only[Dt.lock]at c<;>first|(cases c;done)|skip
   injection c with _ m v o p;subst m o p;exact q.2 _ _ _ _ _ j
 have d: ∀x:Bz,x.ok b->x.ok (b.map Dt.lock):=λx i=>by
  cases x with
  |own id a t n=>exact f _ _ _ _ i
  |_=>trivial
 intro e c;obtain⟨u,r,rfl⟩:=Br.1 c;have g:=h u r;cases u with
 |dead=>trivial
 |live H s=>exact λx i=>d x (g x i)
 |buf=>exact g
 |lp=>exact g
 |mp=>exact g
theorem ACU(L: ∀e∈b,e.ok b)(st:CL (b.map Dt.lock) G)(F: ∀e∈G,e.ok G):
  (∀v:TV,v.ok G->v.ok (Vu b G))/\(∀e∈Vu b G,e.ok (Vu b G))/\CL b (Vu b G)/\ ∀x:Cx,Tz x x (BK G) (BK (Vu b G)):=by
 have K:b.length<=G.length:=by simpa using st.len
 have c:(Vu b G).length=G.length:=by grind[Vu,List.length_append,List.length_drop]
 have o: ∀j,j<b.length->(Vu b G)[j]? =b[j]? :=λj p=>CT p;have I: ∀j,b.length<=j->(Vu b G)[j]? =G[j]? :=λj p=>by grind[Vu]
 have keep: ∀(j:Nat) (e:Dt),b[j]? =some e->e≠ .dead->G[j]? =some e.lock:=λj e p H=>by apply st.ro j e.lock (by rw[CN,p];rfl);cases e<;>first|rfl|exact(H rfl).elim
 have A: ∀id f t n,Um G id f t n->Um (Vu b G) id f t n:=λid f t n q=>by refine⟨by rw[c];exact q.1,λro P l O D d=>?_⟩;rcases Ay id b.length with h|h;rw[o id h]at d;exact q.2 _ _ _ _ _ (keep id _ d k!);rw[I id h]at d;exact q.2 _ _ _ _ _ d
 have k: ∀x:Bz,x.ok G->x.ok (Vu b G):=λx C=>by
  cases x with
  |own id f t n=>exact A _ _ _ _ C
  |_=>trivial
 have B:CL b (Vu b G):=by refine⟨by rw[c];exact K,λid f t n q=>⟨by rw[c];exact DQ q.1 K,λro P l O D d=>?_⟩,λid e d _=>?_,λid w h=>by rw[o id w];exact h,λid w _ _ _ _ _ _ _ _ h=>by rw[o id w]at h;exact⟨_,_,h⟩⟩;rw[o id q.1]at d;exact q.2 _ _ _ _ _ d;grind
 refine⟨λv N x C=>k x (N x C),λe d=>?_,B,λx=>⟨by rw[Cf,Cf,c],λj Q p=>?_⟩⟩;rcases An.1 d with d|d;exact B.ent (L e d);have E:=F e (Mm d);cases e with
 |dead=>trivial
 |live a s=>exact λx C=>k x (E x C)
 |buf=>exact E
 |lp=>exact E
 |mp=>exact E
 rw[Ex]at p;cases J:(Vu b G)[j]? with
 |none=>grind
 |some y=>
  rw[J]at p;simp at p;subst p;have same:(BK G)[j]? =some y.enc->y.enc= .dead\/(∃g s u,(BK G)[j]? =some (.live g s)/\y.enc= .live g u/\u.length=s.length/\ ∀(i:Nat) (z:Aa),u[i]? =some z-> ∃v,s[i]? =some v/\Conv x x v z)\/((BK G)[j]? =some y.enc/\ ∀g s,y.enc≠ .live g s):=λh=>by
   cases y with
   |dead=>exact .inl rfl
   |live a s=>exact .inr (.inl ⟨_,_,_,h,rfl,rfl,λi z h=>⟨z,h,λ_ r=>r⟩⟩)
   |buf a t l m f=>exact .inr (.inl ⟨_,_,_,h,rfl,rfl,λi z h=>⟨z,h,λ_ r=>r⟩⟩)
   |lp=>exact .inr (.inr ⟨h,λ_ _ h=>by cases h⟩)
   |mp=>exact .inr (.inr ⟨h,λ_ _ h=>by cases h⟩)
  rcases Ay j b.length with h|h;rw[o j h]at J;by_cases M:y= .dead;subst M;exact .inl rfl;grind[Ex,sT];grind[Ex]
theorem ph{u:List RE}(y: ∀c∈u,c.Ok P){i:TC}(l:Wv P i){k:TV->Ar->Option R}{r:R}(ok:PA g b)(h:xC P u i g b o.op k=some r):np P N o g b (vV u g b o.op) k r:=by
 have s: ∀t,o.op=t->quT P g b t (λv=>k v b)=some r-> ∀F,np P N o g b F k r:=λt e h=>AHD ok q!;generalize a:o.op=t at h;unfold xC at h;split at h;exact vI ok a h;exact yh ok a h;exact wN ok a h;exact mW ok a h;exact o0 ok a h;grind[sX];exact o6 ok a h;grind[th];split at h;exact tM ok a h;grind;rename_i c;split at h;rename_i F q m;obtain⟨K,C⟩:=vL m;split at h;rename_i x;split at h;rename_i L n;obtain⟨M,O⟩:=rf n;obtain⟨v,d,q1,q2,q3,q4,q5,q6⟩:=wo (y L M) (C b ok.env) ok.heap h;rw[O]at q1;exact⟨v,d,nY q! x q1,q2,q3,q4,q5,by simp only[vV,m,n];exact q6⟩;rename_i n;split at h;rename_i W;have A:q=[]:=by cases q<;>first|rfl|cases W
 subst A;obtain⟨v,d,q1,q2,q3,q4,q5⟩:=l (.fn F) [] (b.map Dt.lock) _ r (λv Q=>by cases Q) (xZ ok.heap) h;obtain⟨E,G,I,J⟩:=ACU ok.heap q5 q4;have B:Ek P F [] (BK b) (DX v.enc (BK d)):=by grind[zu,tW]
 refine⟨v,Vu b d,JJ.after (nY q! x B) λX H w _=>?_,q2,E v q3,G,I,?_⟩;have hr:=(J (cx X H (BK d) w)).onto;exact⟨hr,λc r=>r.later hr.later⟩;simp only[vV,m,n];exact λj p _=>CT p;rename_i W;obtain⟨v,d,q1,q2,q3,q4,q5⟩:=l (.fn F) q b k r (C b ok.env) ok.heap h;have z:=W;exact⟨v,d,nY (by rw[a];exact K) x q1,q2,q3,q4,q5,by simp only[vV,m,n,z];exact λj p hn=>(hn (Hk.2 p)).elim⟩;cases h;rename_i m;split at h;rename_i id q D;obtain⟨⟨f,S,T,U⟩,V⟩:=yJ D;obtain⟨v,d,q1,q2,q3,q4,q5⟩:=l (.yd id) q b k r (V b ok.env) ok.heap h;exact⟨v,d,q1 N o c f (B4 g) a S T U,q2,q3,q4,q5,by simp only[vV,m,D];exact λj p hn=>(hn (Hk.2 p)).elim⟩;grind[tQ,Nat.eq_of_beq_eq_true,vV];grind
theorem lu{k:TV->Option R}{r:R}(h:force A e k=some r):k e=some r:=by unfold force at h;grind
def mw(ops:List Oper):List Nat:=ops.filterMap (·.dst)
def rQ{b:Oper}{d:Nat}(h:AAG o b=some (d,a,L,c)):o.dst=some d/\o.op= .slice a L (some c) none none/\o.guard=none/\b.dst=none/\b.op= .call {callee:=.builtin .clear,args:= #[.tmp d],argTypes:= #[a]}/\b.guard=none:=by unfold AAG at h;split at h;rename_i e f g i j k;split at h<;>simp_all;cases h
def uT{a:Ty}{z:List Aa}{b:a.D}(h:Dk z (a.enc b).cells): ∀n:Nat,Dk (List.replicate n z).flatten (a.E.cl (List.replicate n b))
 |0=>Dk.refl _
 |n+1=>by exact Dk.append h (uT h n)
theorem yl{o1 o2:Oper}{d:Nat}{t:TypeId}{x lo:Operand}{env:Bd}{H:Ar}{k:Ar→Option R}{r:R}(ok:PA env H)(hc:AAG o1 o2=some (d,t,x,lo))(h:AGf P H t (JK env x) (JK env lo) k=some r):
  ∃v G,JJ P N o1 (B4 env) (BK H) (DX v (BK H))/\JJ P N o2 ((B4 env).put d v) (BK H) (DX (.tup []) (BK G))/\k G=some r/\(∀e∈G,e.ok G)/\CL H G:=by
 obtain⟨_,c2,_,c4,U,_⟩:=rQ hc;unfold AGf at h;split at h;rename_i id c t0 n0 kk i hx Z;split at h;rename_i a l b ap y;split at h;rename_i te e ax hb al F;split at h;rename_i S;split at h;rename_i z hz;split at h;rename_i zd ao;obtain⟨w,o,h⟩:=Dp.1 h;have T:=DO hb;subst T;have u:=Ty.beq_eq _ _ S;injection u with u;subst u;have B:(Ty.cast S l:List a.D)=l:=rfl;rw[B]at o;have hr:Um H id c t0 n0:=by have:=fG ok.env x;rw[hx]at this;exact this (.own id c t0 n0) (by simp[TV.refs])
 obtain⟨_,q⟩:=hr.2 _ _ _ _ _ y;obtain⟨rfl,rfl⟩:=q rfl;have hn:b=l.length:=ok.heap _ (BN y);obtain⟨e',I,M⟩:=iu al;rw[I]at F;injection F with F;injection F with _ F;injection F with X Y;subst X Y;obtain⟨z1,z2⟩:=Yf hz;have p:=Ft ao;have C:(lvs z).length=a.sz:=by rw[<-p.1,a.enc_len]
 unfold AGp at o;split at o;rename_i hi;injection o with o;have O:CL H (H.set id (.buf false a w b c)):=CL.set y rfl λ_ _ _ _ _ e=>q!
 have J:Dt.ok (H.set id (.buf false a w b c)) (.buf false a w b c):=by show b=w.length;grind
 have m:(BK H)[id]? =some (.live b (a.E.cl l)):=by rw[Ex,y];rfl
 have A:id<(BK H).length:=q!
 have ex:BM (B4 env) x= .sl id b a.sz 0 b:=by rw[K9,hx];rfl
 have el:BM (B4 env) lo= .int kk i:=by rw[K9,Z];rfl
 have W:TB (BK H) id b=true:=by simp[TB,m]
 have s: ∀v,BM ((B4 env).put d v) (.tmp d)=v:=λv=>by simp[BM,Env.put,Env.get]
 have j:=a.E.clen l;have Q:a.E.sz=a.sz:=rfl;rw[Q]at j;have ad:Ce P (B4 env) (BK H) o1.op=some (if i.toNat=0 then .sl id b a.sz 0 b else if i.toNat=b then .vs a.sz []else .sl id b a.sz (0+i.toNat*a.sz) (b-i.toNat)):=by
  rw[c2];have b1:WL 0 (some (Aa.int kk i))=some i.toNat:=by grind[WL,se]
  have b2: ∀n,WL n none=some n:=λ_=>rfl;simp only[Ce,ex,el,Bs,lQ,gH,b1,b2,I];rw[if_pos ⟨trivial,a.sz_pos,o!,Ap _,Ap _,W,k!⟩];grind
 have g: ∀V,a.E.cl l=V->(BK H).set id (.live b V)=BK H:=λV ar=>by apply Iw;grind
 have f:Dk (WD (a.E.cl l) (i.toNat*a.sz) (List.replicate (b-i.toNat) (lvs z)).flatten) (a.E.cl w):=by
  have e1:a.E.cl w=a.E.cl (l.take i.toNat)++a.E.cl (List.replicate (b-i.toNat) zd):=by grind[Rq.cl]
  have e2:(a.E.cl l).take (i.toNat*a.sz)=a.E.cl (l.take i.toNat):=by
   have e3:a.E.cl l=a.E.cl (l.take i.toNat)++a.E.cl (l.drop i.toNat):=by grind[List.take_append_drop,Rq.cl]
   have e4:(a.E.cl (l.take i.toNat)).length=i.toNat*a.sz:=by rw[a.E.clen,BQ,Q];grind
   grind
  have e5:(a.E.cl l).drop (i.toNat*a.sz+(List.replicate (b-i.toNat) (lvs z)).flatten.length)=[]:=by apply jj;simp[C];rw[<-EW];grind
  unfold WD;rw[e1,e2,e5,C5];exact(Dk.refl _).append (uT p _)
 have L:JJ P N o2 ((B4 env).put d (if i.toNat=0 then .sl id b a.sz 0 b else if i.toNat=b then .vs a.sz []else .sl id b a.sz (0+i.toNat*a.sz) (b-i.toNat))) (BK H) (DX (.tup []) (BK (H.set id (.buf false a w b c)))):=by
  have e6:BK (H.set id (.buf false a w b c))=(BK H).set id (.live b (a.E.cl w)):=by rw[Kp];rfl
  rw[e6];by_cases h0:i.toNat=0;rw[if_pos h0];refine JJ.set_less A ?_ f;have:=JJ.clear (N:=N) (K:=DX (.tup []) _) U c4 I M z1 C (s (.sl id b a.sz 0 b)) m (by rw[j,hn];omega) ⟨rfl,rfl⟩;grind;rw[if_neg h0];by_cases h1:i.toNat=b;rw[if_pos h1];have e7:w=l:=t!
  rw[e7,g _ rfl];exact qQ U (QN I).1 (s _) ⟨rfl,rfl⟩;rw[if_neg h1];refine JJ.set_less A ?_ f;have:=JJ.clear (N:=N) (K:=DX (.tup []) _) U c4 I M z1 C (s (.sl id b a.sz (0+i.toNat*a.sz) (b-i.toNat))) m (by rw[j,<-hn,D9,<-EW];apply Mn;omega) ⟨rfl,rfl⟩;grind
 exact⟨_,_,Dq ad ⟨rfl,rfl⟩,L,h,Q7 O ok.heap J,O⟩;grind;cases h;cases h;cases h;cases h;cases h;cases h
def AD4:GD N (BK b).length ((B4 g).put n u) (BK b) (B4 (g.put n Ux)) (BK b):=by
 refine Vp rfl λX d w s=>⟨Tz.refl _ _,λt f m=>?_⟩
 rw[iw]at m;rcases Aw.1 m with e|m;injection e with a H;subst a H;exact⟨u,Iv,λc _=>.any c⟩;exact⟨f,CW _ m,λ_ r=>r⟩
theorem gE{J:List RE}(m: ∀c∈J,c.Ok P){p:TC}(l:Wv P p){D:Array Oper}{gs:List Nat}: ∀(os:List Oper) (j:Nat) (env:Bd) (H:Ar) (k:Bd→Ar→Option R) (r:R),PA env H→xw P J p D gs false os j env H k=some r→
  ∃f i,WJ P N D os (B4 env) (BK H) (λe h=>e=B4 f/\h=BK i)/\k f i=some r/\PA f i/\Ej (mw os) env H f i
 |[],j,env,H,k,r,ok,h=>⟨env,H,⟨_,_,GD.refl _ _ _,rfl,rfl⟩,h,ok,Ej.refl _ _ _⟩
 |o::os,j,env,H,k,r,ok,h=>by
  simp only[xw]at h;have B: ∀{e:Bd} {h:Ar} {v:TV},Ej (mw [o]) e h (e.putO o.dst v) h:=by
   intro e h v;refine⟨CL.refl h,λt U _=>?_⟩;cases hd:o.dst with
   |none=>rfl
   |some d=>refine nj λe=>U ?_;simp[mw,hd,e]
  have z: ∀t,t∈mw [o]++mw os->t∈mw (o::os):=by grind[mw]
  split at h;rename_i d t x lo y;cases os with
  |nil=>cases y
  |cons o2 E=>
   have hc:=y;obtain⟨c1,c2,c3,c4,c5,c6⟩:=rQ hc;obtain⟨v,C,M,w2,T,W,st⟩:=yl (N:=N) ok hc h;have g:PA (env.put d Ux) C:=⟨aj (d:=some d) (st.env ok.env) gL,W⟩
   obtain⟨f,i,L,Y,F,G⟩:=gE m l E (j+1+1) _ C k r g T;refine⟨f,i,⟨B4 env,BK H,GD.refl N _ _,?_⟩,Y,F,?_⟩;rw[c3];apply JJ.mono M;rintro u _ ⟨rfl,rfl⟩;rw[c1];refine⟨(B4 env).put d u,BK H,GD.refl N _ _,?_⟩;rw[c6];apply JJ.mono w2;rintro _ _ ⟨rfl,rfl⟩;rw[c4];exact WJ.weak AD4 L;have Z:Ej (mw [o]) env H (env.put d Ux) C:=by exact⟨st,λu hu _=>nj λe=>hu (by simp[mw,c1,e])⟩
   refine(Ej.trans ok.env Z G).mono λu hu=>?_;grind[mw,List.mem_cons_of_mem]
  split at h;rename_i S;obtain⟨K,t1,M⟩:=Q3 (lC J env H o.op) ok;generalize IK (lC J env H o.op) env H=q at h K t1 M;obtain⟨env1,C⟩:=q;obtain⟨v,I,e1,e2,e3,e4,e5,_⟩:=ph (N:=N) m l K h;have O:=lu e2;have g:PA (env1.putO o.dst v) I:=⟨aj (e5.env K.env) e3,e4⟩
  obtain⟨f,i,L,E,F,G⟩:=gE m l os (j+1) _ I k r g O;refine⟨f,i,?_,E,F,?_⟩;refine⟨B4 env1,BK C,M N,jO ?_ ?_⟩;exact vd (λd b hb=>by rw[t1.same d (λh=>by cases h) (by rw[hb];intro id al t n hm;simp[TV.refs]at hm),hb]) S;exact λrr X h0 a w s Q=>Vn (e1 rr X h0 a w s Q) (by rintro a' w' ⟨c,u,h',ad,ha,⟨rfl,rfl⟩,V,hs,hx⟩;exact⟨c,_,h',_,ha,by show WJ P N D os ((B4 env1).putO o.dst v.enc) (BK I) _;rw[<-Xa];exact L,V,hs,hx⟩);have Z:Ej (mw [o]) env1 C (env1.putO o.dst v) I:=by exact⟨e5,λt U T=>(B (h:=C)).same t U T⟩
  have:=(Ej.trans (A:=[]) ok.env t1 (Ej.trans K.env Z G))
  exact this.mono z;rename_i S;have g:PA (env.putO o.dst (.tup [])) H:=⟨aj ok.env (Q6 λv V=>by cases V),ok.heap⟩
  obtain⟨f,i,L,E,F,G⟩:=gE m l os (j+1) _ H k r g h;refine⟨f,i,⟨B4 env,BK H,GD.refl N _ _,nQ S ?_⟩,E,F,(Ej.trans ok.env B G).mono z⟩;have:(B4 env).putO o.dst (.tup [])=B4 (env.putO o.dst (.tup [])):=by rw[Xa];rfl
  grind;cases h
end
end Go.Ab
