/- Texts of wip, joined and shortened by wip/tools/pack.py; nothing is assumed. -/
import Derived.Test.YtdbincbpjobdpaaGreatK2
import Derived.Laws.IdiomRangeMap
noncomputable section
set_option linter.all false
open Option renaming some->δ,none->ε,bind->σ
open Bool renaming true->ζ,false->η
open List renaming length->θ,replicate->ς
open Go.IntKind renaming wrap->ι
open BitVec renaming ofInt->κ,toNat->π
open Sum renaming elim->ν
open Nat renaming beq->ξ
open Int renaming toNat->ο
open Decidable renaming decide->τ
namespace Go.Ab
def Sp(H:Ap)(id ver:Nat)(t:Ty)(n:Nat):Prop:=
 id<θ H/\∀ro t' l n' ver',H[id]?=δ (.buf ro t' l n' ver')->ver<=ver'/\(ver=ver'->t'=t/\n'=n)
def Bv.ok(H:Ap):Bv->Prop
 |.own id ver t n=>Sp H id ver t n
 |_=>True
def lok(H:Ap)(cs:List Bv):Prop:=∀x∈cs,x.ok H
mutual
def TV.refs:TV->List Bv
 |.c x=>[x]
 |.g cs=>cs
 |.aptr .. =>[]
 |.bptr id ver t n _ _=>[.own id ver t n]
 |.vw id ver t n _ _=>[.own id ver t n]
 |.vptr cs _=>cs
 |.tup vs=>TV.refsL vs
def TV.refsL:List TV->List Bv
 |[]=>[]
 |v::r=>v.refs++TV.refsL r
end
def TV.ok(H:Ap)(v:TV):Prop:=lok H v.refs
def Dv.ok(H:Ap):Dv->Prop
 |.live _ cs=>lok H cs
 |.buf _ _ l n _=>n=θ l
 |.dead=>True
 |.lp _ _ _ env _ _ _ _=>∀p∈env,∀id ver t n,Bv.own id ver t n∉p.2.refs
 |.mp .. =>True
structure No(env:BZ)(H:Ap):Prop where
 env:∀p∈env,p.2.ok H
 heap:∀e∈H,e.ok H
variable {a G V:TypeId}{N n S:Nat}{b F:Ap}{c J:Operand}{d:List Bv}{e Q:TV}{P:Program}{t:Ty}{g W:BZ}{i T:List Ac}{w:World}{j:Array Oper}{m:List TV}{p Y:Au}{o:Oper}{q:Option (Nat×Bool)}{s:Env}{u:Ac}{X:Nat->Prop}{h:Gh}{v:Bv}{z:IntKind}{A:Bool}{x y:Cx}{B:Nat→Prop}{C:Option TV}{D:Dv}{E:Int}{I:List (Int×Ac)}{R:Type}{L:Act}{M:List Nat}{O:FuncId}{U:Prop}
theorem JE{H:List Bv}:lok b (d++H)↔lok b d/\lok b H:=by grind[lok]
theorem AGH:lok b []:=λ_ h=>by cases h
def wK{v:TV}:∀{l:List TV},v∈l->∀x∈v.refs,x∈TV.refsL l
 |w::r,a,x,hx=>by simp only[TV.refsL,Ak];rcases Aw.1 a with rfl|a;exact .inl hx;exact .inr (wK a x hx)
def qI(h:(TV.tup m).ok b)(H:e∈m):e.ok b:=λx c=>h x (by simp only[TV.refs];exact wK H x c)
def RM{H:Ap}:∀{vs:List TV},(∀v∈vs,v.ok H)->(TV.tup vs).ok H
 |[],_=>λx a=>by simp[TV.refs,TV.refsL]at a
 |v::r,h=>by have:=RM (vs:=r) λw b=>h w (by simp[b]);intro x a;simp only[TV.refs,TV.refsL,Ak]at a;rcases a with a|a;exact h v k! x a;exact this x a
theorem kN(h:∀p∈g,p.2.ok b)(t:Nat):(g.get t).ok b:=by
 induction g with
 |nil=>intro x a;simp only[BZ.get,VD,TV.refs,BA]at a;subst a;trivial
 |cons p r H=>grind[BZ.get]
theorem ABM(v:Value):(ADo v).ok b:=by
 cases v with
 |pointer p=>cases p<;>trivial
 |slice a l c=>
  cases a with
  |some _=>trivial
  |none=>
   match l,c with
   |0,0=>trivial
   |0,_+1=>trivial
   |_+1,_=>trivial
 |_=>trivial
def iD:VD.ok b:=λx a=>by simp only[VD,TV.refs,BA]at a;subst a;trivial
theorem Ji{H:Ap}(h:v.ok H):(TV.c v).ok H:=λy a=>by grind[TV.refs]
theorem AHs(v:Value):(cvT v).ok b:=by
 cases v with
 |agg a=>
  simp only[cvT];cases h:a.toList.all (·.oneCell')with
  |false=>exact iD
  |true=>intro x H;grind[TV.refs,ABM]
 |_=>exact Ji (ABM _)
theorem fw{H:Ap}(h:∀p∈g,p.2.ok H)(x:Operand):(JW g x).ok H:=by
 cases x with
 |tmp t=>exact kN h t
 |const v=>exact AHs v
 |global _=>exact iD
 |func f=>exact Ji trivial
theorem Gs(a b:List Bv):lvs (a++b)=lvs a++lvs b:=bZ
theorem Hn(x:Bv)(b:List Bv):lvs (x::b)=x.enc++lvs b:=I7
theorem dz:∀a:List Bv,(lvs a).length=AFD a
 |[]=>rfl
 |x::r=>by rw[Hn,AY,x.enc_len,dz r];rfl
def OY:∀{c:List Bv}{n:Nat}{a b:List Bv},W8 c n=δ (a,b)->c=a++b/\(lvs a).length=n
 |c,0,a,b,h=>by cases c<;>simp only[W8]at h<;>obtain⟨rfl,rfl⟩:=h<;>exact⟨rfl,rfl⟩
 |x::r,n+1,a,b,h=>by simp only[W8]at h;split at h;rename_i e;split at h;rename_i g i f;obtain⟨rfl,rfl⟩:=h;obtain⟨j,d⟩:=OY f;rw[Hn,AY,d,x.enc_len];simp_all;cases h;cases h
mutual
theorem Ty.lvs_enc:∀(t:Ty)(x:t.D),lvs (t.lvs x)=(t.enc x).cells
 |.bool,_=>rfl
 |.int _,_=>rfl
 |.str,_=>rfl
 |.list _,_=>rfl
 |.arr n t,a=>by simp only[Ty.lvs,lvs,I7,pJ,DN,Bv.enc]
 |.prod ts,x=>by simp only[Ty.lvs,Ty.enc,Ac.cells];exact ts.lvs_cells x
theorem R1.lvs_cells:∀(a:R1)(x:a.D),Go.Ab.lvs (a.lvs x)=a.cells x
 |.one t,x=>by simp only[R1.lvs,R1.cells];exact t.lvs_enc x
 |.cons t a,x=>by simp only[R1.lvs,R1.cells];rw[Gs,t.lvs_enc,a.lvs_cells]
end
mutual
theorem Ty.lvs_ok{H:Ap}:∀(t:Ty)(x:t.D),lok H (t.lvs x)
 |.bool,_=>λy b=>by simp only[Ty.lvs,BA]at b;subst b;trivial
 |.int _,_=>λy b=>by simp only[Ty.lvs,BA]at b;subst b;trivial
 |.str,_=>λy b=>by simp only[Ty.lvs,BA]at b;subst b;trivial
 |.list _,_=>λy b=>by simp only[Ty.lvs,BA]at b;subst b;trivial
 |.arr n t,a=>λy b=>by simp only[Ty.lvs,BA]at b;subst b;trivial
 |.prod ts,x=>by simp only[Ty.lvs];exact ts.lvs_ok x
theorem R1.lvs_ok{H:Ap}:∀(a:R1)(x:a.D),lok H (a.lvs x)
 |.one t,x=>by simp only[R1.lvs];exact t.lvs_ok x
 |.cons t a,x=>by simp only[R1.lvs];exact JE.2 ⟨t.lvs_ok _,a.lvs_ok _⟩
end
def MR(h:v.scalar=ζ):v.enc=[v.one]:=by
 cases v with
 |ar n t a=>cases h
 |_=>rfl
def Bv.scalar_cells(h:v.scalar=ζ):v.one.cells=[v.one]:=by
 cases v with
 |ar n t a=>cases h
 |raw x=>cases x<;>first|rfl|cases h
 |_=>rfl
theorem RO(h:part P a d N=δ e):
  (∃n,tI P a=δ (ζ,n)/\N+n<=(lvs d).length/\e.enc=.agg (((lvs d).drop N).take n)\/tI P a=δ (η,n)/\(lvs d)[N]?=δ e.enc)/\∀H,lok H d->e.ok H:=by
 unfold part at h;split at h;rename_i t r l;obtain⟨rfl,j⟩:=OY l;split at h;rename_i n i;split at h;rename_i b c g;obtain⟨rfl,k⟩:=OY g;injection h with h;subst h;refine⟨⟨n,.inl ⟨i,?_,?_⟩⟩,λH f=>?_⟩;simp only[Gs,AY];omega;simp only[TV.enc,Gs,Ac.agg.injEq];rw[<-j,Q4,<-k,X2];exact(JE.1 (JE.1 f).2).1;cases h;rename_i n i;split at h;rename_i x r;split at h;rename_i m;injection h with h;subst h;refine⟨⟨n,.inr ⟨i,?_⟩⟩,λH f=>Ji ((JE.1 f).2 x k!)⟩;rw[Gs,Hn,MR m,Ci o!];simp[j,TV.enc];cases h;cases h;cases h;cases h
def lU(h:part P a d N=δ e)
  (hr:∀n,N+n<=(lvs d).length->P1 p u n=δ (((lvs d).drop N).take n)):iM P a p u=δ e.enc:=by
 obtain⟨⟨n,c|c⟩,_⟩:=RO h;obtain⟨i,g,t⟩:=c;simp only[iM,i,hr n g,Bt,t];obtain⟨i,t⟩:=c;have k:N<(lvs d).length:=by rcases Ax N (lvs d).length with f|f;exact f;rw[Cn f]at t;cases t
 simp only[iM,i,hr 1 o!,AD];rw[List.head?_take,List.head?_drop,t];rfl
theorem qv(h:W6 b N=δ d):∃ro,b[N]?=δ (.live ro d):=by grind[W6]
theorem EJ(H:Ap)(id:Nat):(BJ H)[id]?=(H[id]?).map Dv.enc:=CL
theorem uI(h:W6 b N=δ d):(BJ b)[N]?=δ (.live 0 (lvs d)):=by obtain⟨ro,H⟩:=qv h;rw[EJ,H];rfl
def AGF(H:∀e∈b,e.ok b)(h:W6 b N=δ d):lok b d:=by obtain⟨ro,c⟩:=qv h;exact H _ (BN c)
def zq{l:List t.D}(h:X7 b N n t=δ l):∃ro H,b[N]?=δ (.buf ro t l H n):=by unfold X7 at h;split at h;rename_i ro i j H d e;split at h;rename_i g;have c:=DA g;subst c;split at h;rename_i f;have a:=f;have:=Ty.beq_eq i t a;subst this;injection h with h;refine⟨ro,H,?_⟩;rw[e,<-h];rfl;cases h;cases h;cases h
def XJ{l:List t.D}(d:∀e∈b,e.ok b)(hr:Sp b N S t n)(h:X7 b N S t=δ l):(BJ b)[N]?=δ (.live n (t.E.cl l))/\θ l=n:=by obtain⟨ro,f,H⟩:=zq h;obtain⟨_,c⟩:=hr.2 _ _ _ _ _ H;obtain⟨_,rfl⟩:=c rfl;have:f=θ l:=d _ (BN H);refine⟨?_,this.symm⟩;rw[EJ,H];rfl
def zl{a:GO (n+1) t.D}(h:ADS d N n t=δ a):∃pre b,d=pre++(.ar n t a::b)/\(lvs pre).length=N:=by unfold ADS at h;split at h;rename_i pre k l j b g;split at h;rename_i i;have:=Ty.beq_eq _ _ i;injection this with f e;subst f e;injection h with h;obtain⟨f,e⟩:=OY g;refine⟨pre,b,?_,e⟩;rw[f,<-h];rfl;cases h;cases h
theorem bf(n:Nat)(t:Ty)(a:GO (n+1) t.D):(Bv.ar n t a).enc=eT (n+1) t.E a:=rfl
section
variable {P:Program}{R:Type}{H:Ap}{k:TV->Option R}{r:R}
theorem WX(h:okT C k=δ r):∃v,C=δ v/\k v=δ r:=by unfold okT at h;grind
theorem iE(v:Ac):(tvA v).enc=v:=by cases v<;>rfl
theorem kf(v:Ac):(tvA v).ok H:=by cases v<;>exact Ji trivial
theorem kU{o:Option Ac}(h:okA o k=δ r):∃v,o=δ v/\k (tvA v)=δ r:=by unfold okA at h;grind
theorem lK{o:Option R}(h:cond A ε o=δ r):A=η/\o=δ r:=q!
theorem qw(B:∀t∈H,t.ok H)(C:e.ok H)(h:loadT P H a e k=δ r):∃u,iM P a (BJ H) e.enc=δ u.enc/\k u=δ r/\u.ok H:=by
 unfold loadT at h;split at h;rename_i id g;split at h;rename_i A p;obtain⟨u,f,j⟩:=WX h;refine⟨u,lU f λn c=>?_,j,(RO f).2 H (AGF B p)⟩;grind[TV.enc,Bv.one,P1,uI];cases h;rename_i A d;obtain⟨u,f,j⟩:=WX h;refine⟨u,lU f λn c=>?_,j,(RO f).2 H C⟩;simp only[TV.enc,P1];grind;rename_i id o n b i g;split at h;rename_i A p;split at h;rename_i v F;obtain⟨t,y,h⟩:=Dj.1 h;obtain⟨u,f,j⟩:=WX h;obtain⟨pre,d,rfl,q⟩:=zl F;refine⟨u,lU f λm c=>?_,j,(RO f).2 H (b.lvs_ok t)⟩;rw[b.lvs_enc,b.enc_len]at c;obtain⟨s,w⟩:=ADP b.E (lvs pre) (lvs d) y c;have D:lvs (pre++(.ar n b v::d))=lvs pre++eT (n+1) b.E v++lvs d:=by rw[Gs,Hn,bf,A5]
 simp only[TV.enc,P1,uI p,D];have x:o+i.toNat*b.sz+g=(lvs pre).length+i.toNat*b.E.sz+g:=by rw[q];rfl
 rw[x,C! ⟨O!,s⟩,w,b.lvs_enc];rfl;cases h;cases h;rename_i id z b n i g;split at h;rename_i l p;obtain⟨t,y,h⟩:=Dj.1 h;obtain⟨u,f,j⟩:=WX h;obtain⟨x,_⟩:=XJ B (C (.own id z b n) (by simp[TV.refs])) p;refine⟨u,lU f λm c=>?_,j,(RO f).2 H (b.lvs_ok t)⟩;rw[b.lvs_enc,b.enc_len]at c;obtain⟨s,w⟩:=AHh b.E y c;simp only[TV.enc,P1,x];rw[C! ⟨O!,s⟩];show δ (List.take m (List.drop (i.toNat*b.E.sz+g) (b.E.cl l)))=_;rw[w,b.lvs_enc];rfl;cases h;cases h
theorem zn{i:BinOp}(h:AHi P i a e Q k=δ r):∃u,yE P i a e.enc Q.enc=δ u.enc/\k u=δ r/\u.ok H:=by
 unfold AHi at h;split at h;rename_i n x o b;simp only[TV.enc,Bv.one,yE];split at h;obtain⟨c,h⟩:=lK h;have d:¬b<0:=by simpa using c
 refine⟨_,?_,h,Ji trivial⟩;grind[ke,TV.enc,Bv.one];obtain⟨c,h⟩:=lK h;have d:¬b<0:=by simpa using c
 refine⟨_,?_,h,Ji trivial⟩;grind[ke,TV.enc,Bv.one];split at h;rename_i t;obtain⟨c,h⟩:=lK h;have d:¬b=0:=by simpa using c
 refine⟨_,?_,h,Ji trivial⟩;grind[pM,TV.enc,Bv.one];cases h;split at h;rename_i t;obtain⟨c,h⟩:=lK h;have d:¬b=0:=by simpa using c
 refine⟨_,?_,h,Ji trivial⟩;grind[pM,TV.enc,Bv.one];cases h;grind[kU,kf,iE];rename_i x b;simp only[TV.enc,Bv.one,yE];split at h;split at h;rename_i t;exact⟨_,by simp only[C! t,TV.enc,Bv.one],h,Ji trivial⟩;cases h;split at h;rename_i t;exact⟨_,by simp only[C! t,TV.enc,Bv.one],h,Ji trivial⟩;cases h;cases h;rename_i x b;simp only[TV.enc,Bv.one,yE];split at h;obtain⟨s,j,h⟩:=Dj.1 h;exact⟨_,by simp only[wh,TV.enc,Bv.one];exact AIA j,h,Ji trivial⟩;grind[kU,iE,kf];rename_i l bs;split at h;rename_i m f;split at h;rename_i g;simp only[TV.enc,yE,f,C! g];split at h;exact⟨_,by simp only[TV.enc,Bv.one,eqT],h,Ji trivial⟩;exact⟨_,by simp only[TV.enc,Bv.one,eqT],h,Ji trivial⟩;cases h;cases h;cases h;cases h
def ACz{a:UnOp}(h:unT a e k=δ r):∃u,unV a e.enc=δ u.enc/\k u=δ r/\u.ok H:=by unfold unT at h;split at h;obtain⟨e,b,h⟩:=kU h;exact⟨_,by rw[iE];exact b,h,kf e⟩;cases h
def AIw(l:List Int):(Ty.int .u8).E.cl l=l.map (wy .u8).f:=by
 unfold R3.cl;induction l with
 |nil=>rfl
 |cons n l a=>simp only[Bf,I7,a];rfl
def ACH:XD P p G a (.int z E)=XD P [] G a (.int z E):=by unfold XD;cases kd P a<;>rfl
def ACI{s:List UInt8}:XD P p G a (.str s)=XD P [] G a (.str s):=by unfold XD;cases kd P a<;>rfl
def yK(g:∀d∈H,d.ok H)(c:e.ok H)(h:ADl P H G a e k=δ r):∃u,XD P (BJ H) G a e.enc=δ u.enc/\k u=δ r/\u.ok H:=by
 unfold ADl at h;split at h;rename_i l;split at h;rename_i b;exact⟨_,AEP l b.1 b.2,h,Ji trivial⟩;cases h;rename_i id f n;split at h;rename_i b;split at h;rename_i l j;obtain⟨i,hn⟩:=XJ g (c (.own id f (.int .u8) n) (by simp[TV.refs])) j;refine⟨_,?_,h,Ji trivial⟩;simp only[TV.enc,Bv.one,XD,b.1,b.2,if_true,rowsOf,i];rw[C! ⟨O!,rfl,by rw[(Ty.int .u8).E.clen,hn];show 0+n<=n*1;omega⟩];have:((Ty.int .u8).E.cl l).length=n:=by rw[(Ty.int .u8).E.clen,hn];exact Nat.mul_one n
 rw[bY,<-this,HT,AIw];exact E! (Option.map Ac.str) (xl l);cases h;cases h;obtain⟨e,c,h⟩:=kU h;exact⟨_,by rw[iE];exact ACH.trans c,h,kf e⟩;obtain⟨e,c,h⟩:=kU h;exact⟨_,by rw[iE];exact ACI.trans c,h,kf e⟩;cases h
end
section
variable {P:Program}{R:Type}{H:Ap}{k:TV->Option R}{r:R}
theorem ju(h:W6 H N=δ d):TO (BJ H) N 0=ζ:=by simp[TO,uI h]
def oB{l:List t.D}(b:∀e∈H,e.ok H)(hr:Sp H N S t n)(h:X7 H N S t=δ l):TO (BJ H) N n=ζ:=by simp[TO,(XJ b hr h).1]
theorem pe(x:∀f∈H,f.ok H)(g:e.ok H)(h:nE P H N n e k=δ r):∃u,Vx P (BJ H) N n e.enc=δ u.enc/\k u=δ r/\u.ok H:=by
 unfold nE at h;split at h;rename_i B t s z;split at h;cases h;rename_i hn;have d:s≠0:=λf=>t!
 unfold Vx;simp only[z,D! d];split at h;rename_i id o;split at h;rename_i p c;exact⟨_,by simp only[TV.enc,Bv.one,shift,ju c,if_true],h,Ji trivial⟩;cases h;rename_i p q;split at h;rename_i a b A;obtain⟨rfl,y⟩:=OY A;refine⟨_,?_,h,(JE.1 g).2⟩;simp only[TV.enc,shift];rw[C! (by simp only[AY,Gs];omega),Gs,A5,<-y,Q4];cases h;rename_i id m s w i o;split at h;rename_i p c;refine⟨_,?_,h,λ_ h=>by cases h⟩;grind[TV.enc,shift,ju];cases h;rename_i id j w s i o;split at h;rename_i l c;refine⟨_,?_,h,g⟩;simp only[TV.enc,shift,oB x (g (.own id j w s) (by simp[TV.refs])) c,if_true,eN];cases h;cases h;cases h
theorem xR(h:part P a d N=δ e)(c:∀t,N+t<=(lvs d).length->n+t<=θ i/\(i.drop n).take t=((lvs d).drop N).take t):uU P a i n=δ e.enc:=by grind[RO,uU,List.head?_take,List.head?_drop]
theorem wz(d:e.ok H)(h:zz P N n e k=δ r):∃u,tR P N n e.enc=δ u.enc/\k u=δ r/\u.ok H:=by unfold zz at h;split at h;rename_i f t s g a;obtain⟨u,c,b⟩:=WX h;refine⟨u,?_,b,(RO c).2 H d⟩;simp only[tR,a,TV.enc];grind[xR];cases h
theorem sW{a:GO n R}{x:R}(h:Gk a E=δ x):0<=E/\E<n:=by obtain⟨c,j,rfl,_⟩:=oz h;grind
theorem py(q:∀t∈H,t.ok H)(C:e.ok H)(h:nI P H a e Q k=δ r):∃u,V2 P (BJ H) a e.enc Q.enc=δ u.enc/\k u=δ r/\u.ok H:=by
 unfold nI at h;split at h;rename_i N Q;simp only[TV.enc,Bv.one,V2];split at h;rename_i len F sz y;simp only[y];split at h;rename_i id J;split at h;rename_i K j;split at h;rename_i pre n b v p M;split at h;rename_i g;obtain⟨rfl,rfl⟩:=g;obtain⟨t,c,h⟩:=Dj.1 h;refine⟨_,?_,h,λ_ h=>by cases h⟩;rw[C! (sW c)];simp only[TV.enc,Bv.one,shift,ju j,if_true,Ol];cases h;cases h;cases h;rename_i n b v O p;split at h;rename_i g;obtain⟨rfl,rfl⟩:=g;obtain⟨t,c,h⟩:=Dj.1 h;refine⟨_,?_,h,b.lvs_ok t⟩;rw[C! (sW c)];obtain⟨_,w,B,_⟩:=ADU b.E c [] [];simp only[B4,DN,Bb,DT]at w B;have G:Q.toNat*b.sz+b.sz<=(eT (n+1) b.E v).length:=w;simp only[TV.enc,shift,Hn,bf];rw[C! q!];rw[b.lvs_enc,A5,pH o!];have D:(eT (n+1) b.E v).drop (Q.toNat*b.sz)=(b.enc t).cells++(eT (n+1) b.E v).drop (Q.toNat*b.sz+b.sz):=by rw[<-Nq];have L:((eT (n+1) b.E v).drop (Q.toNat*b.sz)).take b.sz=(b.enc t).cells:=B;grind[List.take_append_drop]
 rw[D,A5];rfl;cases h;cases h;rename_i F sz y;simp only[y];split at h;rename_i b l;split at h;rename_i g;subst g;obtain⟨t,c,h⟩:=Dj.1 h;obtain⟨q1,q2⟩:=AJ0 (f:=b.enc) c;refine⟨_,?_,h,b.lvs_ok t⟩;simp only[TV.enc,Bv.one];rw[C! ⟨q1,O!⟩,q2,b.lvs_enc,DN];rfl;cases h;rename_i id d b n;split at h;rename_i l j;split at h;rename_i g;subst g;obtain⟨t,c,h⟩:=Dj.1 h;have hr:=C (.own id d b n) (by simp[TV.refs]);obtain⟨I,hn⟩:=XJ q hr j;refine⟨.bptr id d b n Q 0,?_,h,λx o=>by simp only[TV.refs,BA]at o;subst o;exact hr⟩;obtain⟨_,_,_,_,s,w,_,_⟩:=tE b.E c;simp only[TV.enc,Bv.one];rw[C! ⟨s,o!,O!,oB q hr j⟩,DT,Ol];cases h;cases h;rename_i id d b n A m;split at h;rename_i l j;split at h;rename_i g;subst g;obtain⟨t,c,h⟩:=Dj.1 h;have hr:=C (.own id d b n) (by simp[TV.refs]);obtain⟨I,hn⟩:=XJ q hr j;refine⟨.bptr id d b n ((A:Int)+Q) 0,?_,h,λx o=>by simp only[TV.refs,BA]at o;subst o;exact hr⟩;unfold ix at c;split at c;rename_i s;have z:=(EP.1 c).1;rw[BR,C5]at z;simp only[TV.enc,vwE];rw[D! o!];dsimp only;rw[C! ⟨s,o!,rfl,oB q hr j⟩,Ol,show((A:Int)+Q).toNat=A+Q.toNat by omega,EI];cases c;cases h;cases h;cases h;cases h;cases h
theorem ny{e:TypeId}{sz:Nat}{cs:List Bv}{i:Int}(b:lok H cs):∀{m j:Nat},wl P e sz cs i k m j=δ r->∃u,(0<=i/\i<((j+m:Nat):Int))/\uU P e (lvs cs) (i.toNat*sz)=δ u.enc/\k u=δ r/\u.ok H
 |m+1,j,h=>by
  simp only[wl]at h;cases a:τ (i=Int.ofNat j)with
  |true=>
   rw[a]at h;have f:i=(j:Int):=q!
   obtain⟨u,d,c⟩:=WX h;refine⟨u,o!,?_,c,(RO d).2 H b⟩;grind[xR]
  |false=>rw[a]at h;obtain⟨u,q1,q2⟩:=ny b (m:=m) (j:=j+1) h;grind
theorem xC(A:e.ok H)(h:AAD P a e Q k=δ r):∃u,kQ P a e.enc Q.enc=δ u.enc/\k u=δ r/\u.ok H:=by
 unfold AAD at h;split at h;rename_i B Q;split at h;rename_i n c v;split at h;rename_i len x sz o;split at h;rename_i z;obtain⟨rfl,rfl⟩:=z;obtain⟨t,p,h⟩:=Dj.1 h;obtain⟨u,q,f⟩:=WX h;refine⟨u,?_,f,(RO q).2 H (c.lvs_ok t)⟩;simp only[TV.enc,Bv.one,kQ,o];rw[C! (sW p)];refine xR q λm d=>?_;rw[c.lvs_enc,c.enc_len,DT]at d;obtain⟨j,l⟩:=ADP c.E (off:=0) [] [] p (m:=m) (by rw[DT];exact d);simp at j l;have w:lvs [Bv.ar n c v]=eT (n+1) c.E v:=by grind[bf,lvs]
 rw[w,c.lvs_enc,bY];exact⟨j,l⟩;cases h;cases h;rename_i g _;split at h;rename_i len x sz o;split at h;obtain⟨u,q1,q2,q3⟩:=ny (cs:=g) (H:=H) A h;grind[TV.enc,Bv.one,kQ];cases h;cases h;rename_i s;split at h;rename_i f;obtain⟨b,y,h⟩:=Dj.1 h;exact⟨_,by simp only[TV.enc];exact AJC y f,h,Ji trivial⟩;cases h;cases h;cases h
theorem bh{d:Nat}(h:yF d C=δ E)(a:0<=E):Wj d (C.map TV.enc)=δ E.toNat:=by unfold yF at h;grind[Wj,TV.enc,Bv.one,uO]
theorem xf{G K:Option TV}(E:∀v∈H,v.ok H)(N:e.ok H)(h:AAs P H a e C G K k=δ r):∃u,hZ P (BJ H) a e.enc (C.map TV.enc) (G.map TV.enc) (K.map TV.enc)=δ u.enc/\k u=δ r/\u.ok H:=by
 unfold AAs at h;split at h;cases h;split at h;rename_i s;split at h;rename_i l f i b;split at h;rename_i t;obtain⟨x,c,h⟩:=Dj.1 h;refine⟨_,?_,h,Ji trivial⟩;unfold R0 at c;split at c;rename_i J;simp only[TV.enc,Bv.one,hZ,bh (d:=0) i J.1,bh b (bX J.1 J.2.1)];grind;cases c;cases h;cases h;rename_i w o;split at h;rename_i l f M sz i b B;split at h;rename_i t;obtain⟨x,c,h⟩:=Dj.1 h;refine⟨_,?_,h,Ji trivial⟩;unfold W7 at c;split at c;rename_i J;have j:(o.map w.enc).length=θ o:=BT _;have y:=bh (d:=0) i J.1;have p:=bh b (bX J.1 J.2.1);have A:Wj (θ o) ε=δ (θ o):=rfl;simp only[TV.enc,Bv.one,hZ,j,y,p,A,B];grind[List.map_take,List.map_drop];cases c;cases h;cases h;rename_i id D w n;split at h;rename_i o F;split at h;rename_i l f M sz i b B;split at h;rename_i t;obtain⟨x,c,h⟩:=Dj.1 h;have hr:=N (.own id D w n) (by simp[TV.refs]);obtain⟨O,L⟩:=XJ E hr F;have g:=oB E hr F;refine⟨_,?_,h,λz I=>by simp only[TV.refs,BA]at I;subst I;exact hr⟩;unfold W7 at c;split at c;rename_i J;have y:=bh (d:=0) i J.1;have p:=bh b (bX J.1 J.2.1);rw[L]at p;have A:Wj n ε=δ n:=rfl;simp only[TV.enc,Bv.one,hZ,mh,y,p,A,B];rw[C! ⟨t.symm,w.sz_pos,o!,o!,An _,g,λq=>by cases q⟩];have m:min (f.toNat-l.toNat) (n-l.toNat)=f.toNat-l.toNat:=o!
 unfold vwE;rw[m];by_cases q0:l.toNat=0;rw[C! q0,q0];by_cases q1:f.toNat=0;rw[q1];rfl;rw[D! o!,X5,eP];rw[D! q0];by_cases q1:l.toNat=f.toNat
 rw[C! q1,C! o!,D! q0];rw[D! q1,D! o!,DT];cases c;cases h;cases h;cases h;cases h
def AAI(f:∀t∈H,t.ok H)(g:e.ok H)(h:AH3 P H a e k=δ r):∃u,pz P (BJ H) a e.enc=δ u.enc/\k u=δ r/\u.ok H:=by unfold AH3 at h;split at h;rename_i s v;exact⟨_,by simp only[pz,v,TV.enc,Bv.one],h,Ji trivial⟩;rename_i n t v;exact⟨_,by simp only[pz,v,TV.enc,Bv.one],h,Ji trivial⟩;rename_i c l t v;exact⟨_,by simp only[pz,v,TV.enc,Bv.one,BT],h,Ji trivial⟩;rename_i t id b c n v;split at h;rename_i l d;refine⟨_,?_,h,Ji trivial⟩;simp only[pz,v,TV.enc,Bv.one];cases h;rename_i t v;exact⟨_,by simp only[pz,v,TV.enc,Bv.one],h,Ji trivial⟩;rename_i t id b c n i m v;split at h;rename_i l d;obtain⟨_,hn⟩:=XJ f (g (.own id b c n) (by simp[TV.refs])) d;refine⟨_,?_,h,Ji trivial⟩;simp only[TV.enc,vwE,Bv.one,BR,C5,hn];split;rename_i q;rw[q];split<;>simp only[pz,v]<;>rfl;simp only[pz,v];cases h;cases h
end
def Yv(h:e.words=δ d):e.enc.solid=ζ/\e.enc.cells=lvs d/\∀H,e.ok H->lok H d:=by unfold TV.words at h;split at h;rename_i x;split at h;rename_i a;simp at a;injection h with h;subst h;refine⟨a.2,?_,λH b=>b⟩;rw[Hn,MR a.1];exact Bv.scalar_cells a.1;cases h;injection h with h;subst h;exact⟨rfl,rfl,λH b=>b⟩;cases h
theorem lX{f c:List Bv}{e n:Nat}(h:ACu d e f n=δ c)(hn:(lvs f).length=n):lvs c=Wa (lvs d) e (lvs f)/\e+n<=(lvs d).length/\∀H,lok H d->lok H f->lok H c:=by unfold ACu at h;split at h;rename_i a r i;obtain⟨rfl,l⟩:=OY i;split at h;rename_i m b g;obtain⟨rfl,o⟩:=OY g;refine⟨?_,by simp only[Gs,AY];omega,λH j k=>?_⟩;grind[Wa,Gs];grind[JE];cases h;cases h
mutual
theorem Ty.zlvs_ok{H:Ap}:∀t:Ty,lok H t.zlvs
 |.bool=>λy a=>by simp only[Ty.zlvs,BA]at a;subst a;trivial
 |.int _=>λy a=>by simp only[Ty.zlvs,BA]at a;subst a;trivial
 |.str=>λy a=>by simp only[Ty.zlvs,BA]at a;subst a;trivial
 |.list _=>λy a=>by simp only[Ty.zlvs,BA]at a;subst a;trivial
 |.arr n t=>λy a=>by simp only[Ty.zlvs,BA]at a;subst a;trivial
 |.prod b=>by simp only[Ty.zlvs];exact b.zlvs_ok
theorem R1.zlvs_ok{H:Ap}:∀a:R1,lok H a.zlvs
 |.one t=>by simp only[R1.zlvs];exact t.zlvs_ok
 |.cons t a=>by simp only[R1.zlvs];exact JE.2 ⟨t.zlvs_ok,a.zlvs_ok⟩
end
def ACW(v:Ac):(vr v).enc=[v]:=by cases v<;>rfl
theorem AD9(v:Ac):(vr v).ok b:=by cases v<;>trivial
theorem qC:∀z:List Ac,lvs (z.map vr)=z
 |[]=>rfl
 |v::r=>by rw[Bf,Hn,qC r,ACW];rfl
theorem ABh(z:List Ac):lok b (z.map vr):=λx a=>by grind[AD9]
theorem Yy(h:um P a=δ d):Yw P a=δ (lvs d)/\∀H,lok H d:=by unfold um at h;split at h;rename_i z b;split at h;rename_i e t;split at h;rename_i c;injection h with h;subst h;exact⟨by rw[b,lE _ _ c],λH=>e.zlvs_ok⟩;grind[qC,ABh];grind[qC,ABh];cases h
theorem tS{p:Zt}:∀{a:List (Nat×TV)}{c b:List Bv},yU p c a=δ b->qm p (lvs c) (a.map λq=>(q.1,q.2.enc))=δ (lvs b)/\∀H,lok H c->(∀q∈a,q.2.ok H)->lok H b
 |[],c,b,h=>by simp only[yU,Ao]at h;subst h;exact⟨rfl,λH h _=>h⟩
 |(i,v)::r,c,b,h=>by simp only[yU]at h;split at h;rename_i m size z t l;split at h;rename_i k;have e:=DA k;split at h;rename_i s d;obtain⟨x,y,o⟩:=Yv l;obtain⟨u,w,n⟩:=lX d (by rw[dz,e]);obtain⟨q1,q2⟩:=tS h;refine⟨?_,λH g f=>q2 H (n H g (o H (f (i,v) k!))) λq j=>f q (by simp[j])⟩;grind[qm,dz];cases h;cases h;cases h
section
variable {P:Program}{R:Type}{env:BZ}{H:Ap}{k:TV->Option R}{r:R}
theorem yG{v:List (Nat×TV)}(h:zr P a v=δ e):sj P a (v.map λq=>(q.1,q.2.enc))=δ e.enc/\((∀q∈v,q.2.ok H)->e.ok H):=by unfold zr at h;split at h;rename_i z p t j;obtain⟨k,f⟩:=Yy t;rw[S9]at h;obtain⟨g,c,rfl⟩:=h;obtain⟨i,b⟩:=tS c;refine⟨?_,λd=>b H (f H) d⟩;grind[sj,TV.enc];cases h
def qM:∀{l:List TV}{m:List Ac},rY l=δ m->m=l.map TV.enc
 |[],m,h=>by simp only[rY,Ao]at h;subst h;rfl
 |.c x::r,m,h=>by simp only[rY]at h;split at h;rename_i b _ a;injection h with h;subst h;rw[Bf,<-qM a];rfl;cases h
 |.g _::_,m,h=>by simp[rY]at h
 |.aptr .. ::_,m,h=>by simp[rY]at h
 |.bptr .. ::_,m,h=>by simp[rY]at h
 |.vw .. ::_,m,h=>by simp[rY]at h
 |.vptr .. ::_,m,h=>by simp[rY]at h
 |.tup _::_,m,h=>by simp[rY]at h
def wA(h:mmT A e Q k=δ r):∃u,mmV A [e.enc,Q.enc]=δ u.enc/\k u=δ r/\u.ok H:=by unfold mmT at h;split at h;exact⟨_,by simp only[TV.enc,Bv.one,mmV],h,Ji trivial⟩;cases h
def AAQ{z:TV}(h:AH4 e Q z k=δ r):∃u,mm3 e.enc Q.enc z.enc=δ u.enc/\k u=δ r/\u.ok H:=by unfold AH4 at h;split at h;exact⟨_,by simp only[TV.enc,Bv.one,mm3],h,Ji trivial⟩;cases h
theorem wJ{F:Op}(ok:No env H)(h:quT P env H F k=δ r):∃v,Cd P (Bz env) (BJ H) F=δ v.enc/\k v=δ r/\v.ok H:=by
 have j:∀x,(JW env x).ok H:=fw ok.env;have g:=LN env;unfold quT at h;split at h;grind[Cd];grind[Cd];rename_i c a b;split at h;rename_i t K;have w:BO (Bz env) c=.bool t:=by rw[g,K];rfl
 grind[Cd,Bool.false_eq_true];cases h;obtain⟨u,d,e⟩:=qw ok.heap (j _) h;grind[Cd];rename_i x;split at h;grind[BO,Bz,Cd,ju,TV.enc,Bv.one,Ji];grind[BO,Bz,Cd,TV.enc,Bv.one,Ji];grind[BO,Bz,lvs,Cd,TV.enc];grind[BO,Bz,Cd,ju,TV.enc];rename_i id D G n i B s;split at h;rename_i l A;have w:BO (Bz env) x=.ptr id n (i.toNat*G.sz+B):=by rw[g,s];rfl
 have:=j x;rw[s]at this;exact⟨_,by simp only[Cd,w,oB ok.heap (this (.own id D G n) (by simp[TV.refs])) A,if_true,TV.enc],h,this⟩;cases h;cases h;simp_all[zn,Cd];obtain⟨u,d,e⟩:=ACz (H:=H) h;exact⟨u,by simp only[Cd,g,d],e⟩;obtain⟨u,d,e⟩:=yK ok.heap (j _) h;exact⟨u,by simp only[Cd,g,d],e⟩;obtain⟨u,d,e⟩:=pe ok.heap (j _) h;exact⟨u,by simp only[Cd,g,d],e⟩;obtain⟨u,d,e⟩:=wz (j _) h;exact⟨u,by simp only[Cd,g,d],e⟩;obtain⟨u,d,e⟩:=py ok.heap (j _) h;exact⟨u,by simp only[Cd,g,d],e⟩;obtain⟨u,d,e⟩:=xC (H:=H) (j _) h;exact⟨u,by simp only[Cd,g,d],e⟩;rename_i t x Q O R;obtain⟨u,d,e⟩:=xf ok.heap (j _) h;have q:∀o:Option Operand,o.map (BO (Bz env))=(o.map (JW env)).map TV.enc:=by
  intro o;cases o with
  |none=>rfl
  |some y=>simp only[Bt,g]
 exact⟨u,by simp only[Cd,g,q,d],e⟩;rename_i x i;split at h;rename_i N s;split at h;rename_i v z;have w:BO (Bz env) x=.tup (N.map TV.enc):=by rw[g,s];simp only[TV.enc,tO]
 have E:=j x;rw[s]at E;exact⟨v,by simp only[Cd,w,CL,z,Bt],h,qI E (BN z)⟩;cases h;cases h;rename_i f a b;split at h;rename_i l m A L;refine⟨_,?_,h,Ji trivial⟩;have q:∀o:List Operand,o.map (BO (Bz env))=(o.map (JW env)).map TV.enc:=by intro o;rw[Og];exact Mt λy _=>g y
 simp only[Cd,q,<-qM A,<-qM L,TV.enc,Bv.one];cases h;rename_i t C;obtain⟨v,z,h⟩:=WX h;obtain⟨I,J⟩:=yG (H:=H) z;refine⟨v,?_,h,J λq M=>?_⟩;simp only[Cd];rw[<-I,Og];congr 1;exact Mt λp _=>by simp only[Function.comp,g]
 obtain⟨p,_,rfl⟩:=Bs.1 M;exact j _;obtain⟨u,d,e⟩:=AAI ok.heap (j _) h;exact⟨u,by simp only[Cd,g,d],e⟩;obtain⟨u,d,e⟩:=wA (H:=H) h;exact⟨u,by simp only[Cd,g,d],e⟩;obtain⟨u,d,e⟩:=wA (H:=H) h;exact⟨u,by simp only[Cd,g,d],e⟩;obtain⟨u,d,e⟩:=AAQ (H:=H) h;exact⟨u,by simp only[Cd,g,d],e⟩;cases h
end
def Conv(x y:Cx)(v v':Ac):Prop:=∀c,Bx x v c->Bx y v' c
def S3(x y:Cx)(H H2:Au):Prop:=
 θ H2=θ H/\∀(j:Nat)(e':Fk),H2[j]?=δ e'->e'=.dead\/
  (∃g cs cs',H[j]?=δ (.live g cs)/\e'=.live g cs'/\θ cs'=θ cs/\∀(i:Nat)(v':Ac),cs'[i]?=δ v'->∃v,cs[i]?=δ v/\Conv x y v v')\/
  (H[j]?=δ e'/\∀g cs,e'≠.live g cs)
theorem S3.refl(x:Cx)(H:Au):S3 x x H H:=by
 refine⟨rfl,λj a d=>?_⟩;cases a with
 |live g c=>exact .inr (.inl ⟨g,c,c,d,rfl,rfl,λi v b=>⟨v,b,λ_ r=>r⟩⟩)
 |_=>grind
theorem S3.own{H d:Au}{h:Gh}(hr:S3 x y H d):∀B,owned h d B->owned h H B:=by rintro B ⟨j,f,i,c,a⟩;rcases hr.2 j f i with b|⟨g,k,e,b,_⟩|⟨b,_⟩;grind;exact⟨j,_,b,k!,a⟩;exact⟨j,_,b,c,a⟩
def S3.later{h:Gh}{H a:Au}{w:World}{x y:Cx}(hr:S3 x y H a):(cx X h H w).Later (cx X h a w):={size:=An _,keep:=λ_ _ _ _=>rfl,own:=λB _ b=>b.imp _root_.id (hr.own B),n:=by simp[cx,hr.1],gen:=λ_ _=>An _,same:=λ_ _ _=>⟨rfl,rfl⟩}
theorem I1.rel{X:Nat->Prop}{h:Gh}(s:I1 X h p w)(hr:S3 (cx X h p w) (cx X h Y w) p Y):I1 X h Y w:=by
 have y:=hr.own (h:=h);have M:(cx X h p w).Later (cx X h Y w):=hr.later;have back:∀{j:Nat}{e:Fk},Y[j]?=δ e->e≠.dead->∃N,p[j]?=δ N/\N≠.dead:=by intro j e l ad;rcases hr.2 j e l with a|⟨g,z,C,a,_⟩|⟨a,_⟩;grind;grind;grind
 refine⟨λB n=>⟨(s.out B n).1,λho=>(s.out B n).2 (y B ho)⟩,λj Q C l=>?_,λj L l=>?_,λi j e e' B a c J K O D=>?_,s.bldKeep λj e l n=>?_⟩;rcases hr.2 j _ l with a|⟨g,z,o,a,c,O,D⟩|⟨_,a⟩;cases a;injection c with R S;subst R S;obtain⟨I,W⟩:=s.live j Q z a;refine⟨I,?_⟩;rcases W with⟨k,h0⟩|⟨B,A,T,P,f,k,V,q,Z,G,b⟩;refine .inl ⟨k,?_⟩;grind;refine .inr ⟨B,A,T,P,f,k,V,q,o!,G,λi v' H=>?_⟩;obtain⟨v,hv,U⟩:=D i v' H;obtain⟨p1,p2,p3⟩:=b i v hv;exact⟨p1,p2,U _ p3⟩;grind;rcases hr.2 j _ l with a|⟨g,z,o,_,c,_⟩|⟨a,_⟩;cases a;cases c;obtain⟨I,B,r,q1,q2,q3,q4,q5,q6,q7,q8,q9⟩:=s.lp j L a;exact⟨I,B,r,q1,q2,q3,q4,q5,q6,q7,q8,λt v m=>⟨(q9 t v m).1,(q9 t v m).2.later M⟩⟩;obtain⟨d,E,F⟩:=back a J;obtain⟨d',u,x⟩:=back c K;exact s.inj i j _ _ B E u F x O D;refine⟨?_,rfl,rfl,rfl,λ_ _ _ _ _=>rfl⟩;rcases hr.2 j _ l with a|⟨g,z,o,_,c,_⟩|⟨a,_⟩;subst a;cases n;subst c;cases n;exact a
theorem S3.onto(hr:S3 (cx X h p w) (cx X h p w) p Y):S3 (cx X h p w) (cx X h Y w) p Y:=by have e:(cx X h p w).Later (cx X h Y w):=hr.later;refine⟨hr.1,λj k H=>?_⟩;rcases hr.2 j k H with d|⟨g,f,b,d,l,m,n⟩|d;grind;refine .inr (.inl ⟨g,f,b,d,l,m,λi q o=>?_⟩);obtain⟨v,q1,q2⟩:=n i q o;exact⟨v,q1,λc r=>(q2 c r).later e⟩;grind
def WA{env2:Env}(f:θ Y=θ p)(hr:∀X h w,I1 X h p w→S3 (cx X h p w) (cx X h Y w) p Y∧ ∀t c,(t,c)∈env2→ ∃v,(t,v)∈s∧Conv (cx X h p w) (cx X h Y w) v c):
  FU N (θ p) s p env2 Y:=by
 refine⟨o!,λX h a w H=>?_⟩;obtain⟨q1,q2⟩:=hr X h w H.sim;refine⟨h,⟨H.sim.rel q1,λt c m=>?_,H.size⟩,λ_ _=>⟨rfl,rfl,rfl⟩,q1.own⟩;obtain⟨v,d,e⟩:=q2 t c m;exact⟨(H.env t v d).1,e _ (H.env t v d).2⟩
def S3.ext{X:Nat->Prop}{c:Gh}{H a b:Au}{d:World}(hr:S3 x y H b)(e:G8 c a d h H w):G8 c a d h b w where
 os:=e.os
 tape:=e.tape
 output:=e.output
 size:=e.size
 keep:=e.keep
 n:=by rw[hr.1];exact e.n
 gen:=e.gen
 same:=e.same
 fresh B hB:=e.fresh B (hr.own B hB)
 loops:=e.loops
def JV.after{N:Nat}{H:Au}{v f:Ac}{H1 b:Au}(h:JV P N o s H (DQ v H1))
  (hr:∀X h w,I1 X h H1 w->S3 (cx X h H1 w) (cx X h b w) H1 b/\Conv (cx X h H1 w) (cx X h b w) v f):JV P N o s H (DQ f b):=by
 intro r X g a w p Q;apply V6 (h r X g a w p Q);rintro n l ⟨c,u,d,m,i,⟨rfl,rfl⟩,j,e,k⟩;obtain⟨q1,q2⟩:=hr X d l e;exact⟨c,_,d,_,i,⟨rfl,rfl⟩,q2 _ j,e.rel q1,S3.ext (X:=X) q1 k⟩
def JV.before{N:Nat}{env2:Env}{H H2:Au}{K:Ac->Au->Prop}(b:FU N (θ H) s H env2 H2)(h:JV P N o env2 H2 K):JV P N o s H K:=by intro r X g a w x Q;obtain⟨f,q,j,l⟩:=b.2 X g a w x;apply V6 (h r X f a w q Q);rintro t u ⟨c,v,e,d,i,k,n,m,p⟩;exact⟨c,v,e,d,i,k,n,m,(FU.ext rfl b.1 j l (G8.refl g H w)).trans p⟩
def Ea.before{args args2:List Ac}{H H2:Au}{K:Ac→Au→Prop}(hn:θ args2=θ args)
  (hr:∀X h w,I1 X h H w->S3 (cx X h H w) (cx X h H2 w) H H2/\∀(j:Nat)(b:Ac),args2[j]?=δ b->∃v,args[j]?=δ v/\Conv (cx X h H w) (cx X h H2 w) v b)
  (h:Ea P O args2 H2 K):Ea P O args H K:=by
 intro X g w a s n k;obtain⟨q1,q2⟩:=hr X g w s;refine(h X g w a (s.rel q1) o! λj b c m l=>?_).mono ?_;obtain⟨v,o,d⟩:=q2 j b m;exact d _ (k j v c o l);rintro e t ⟨c,v,i,f,rfl,q,r,p,x⟩;exact⟨c,v,i,f,rfl,q,r,p,(S3.ext (X:=X) q1 (G8.refl g H w)).trans x⟩
def Wf(v v':Ac):Prop:=∀(x:Cx)(c:Value),Bx x v c->Bx x v' c
def Wf.refl(v:Ac):Wf v v:=λ_ _ h=>h
def Wf.nil{sz:Nat}(h:0<sz):Wf .nils (.vs sz []):=λ_ _ r=>r.nil_vs h
def Dl(cs cs':List Ac):Prop:=θ cs'=θ cs/\∀(i:Nat)(v':Ac),cs'[i]?=δ v'->∃v,cs[i]?=δ v/\Wf v v'
theorem Dl.refl(a:List Ac):Dl a a:=⟨rfl,λ_ v h=>⟨v,h,.refl v⟩⟩
theorem Dl.append{b f:List Ac}(c:Dl i T)(g:Dl b f):Dl (i++b) (T++f):=by refine⟨by simp[c.1,g.1],λa j h=>?_⟩;rcases Ax a (θ T) with d|d;rw[CT d]at h;obtain⟨v,q1,q2⟩:=c.2 a j h;grind;rw[Ci d]at h;obtain⟨v,q1,q2⟩:=g.2 _ j h;exact⟨v,by rw[Ci (by rw[<-c.1];exact d),<-c.1];exact q1,q2⟩
theorem Dl.one{b:Ac}(h:Wf u b):Dl [u] [b]:=⟨rfl,λi v a=>by
 match i,a with
 |0,a=>grind
 |i+1,a=>simp at a⟩
def Dl.agg{b a:List Ac}(h:Dl b a):Wf (.agg b) (.agg a):=by
 intro x c r;cases r with
 |agg i e hr=>refine .agg (by rw[i,h.1]) e λj k d g f=>?_;obtain⟨v,q1,q2⟩:=h.2 j k g;exact q2 _ _ (hr j v d q1 f)
mutual
def Ty.mk:(t:Ty)->List Bv->Option (t.D×List Bv)
 |.bool,.bl b::r=>δ (b,r)
 |.int k,.it k' n::r=>if k=k' then δ (n,r)else ε
 |.str,.st s::r=>δ (s,r)
 |.list t,.ls t' l::r=>if h:(Ty.list t').beq (Ty.list t)=ζ then δ (Ty.cast h l,r)else ε
 |.list _,.nil::r=>δ ([],r)
 |.arr n t,.ar n' t' a::r=>if h:(Ty.arr n' t').beq (Ty.arr n t)=ζ then δ (Ty.cast h a,r)else ε
 |.prod ts,ls=>ts.mk ls
 |_,_=>ε
def R1.mk:(ts:R1)->List Bv->Option (ts.D×List Bv)
 |.one t,ls=>t.mk ls
 |.cons t ts,ls=>
  match t.mk ls with
  |some (x,r)=>match ts.mk r with|some (y,r')=>δ ((x,y),r')|none=>ε
  |none=>ε
end
mutual
theorem Ty.mk_spec:∀(t:Ty)(b:List Bv)(x:t.D)(r:List Bv),t.mk b=δ (x,r)->∃a,b=a++r/\Dl (lvs a) (t.enc x).cells
 |.bool,b,x,r,h=>by
  cases b with
  |nil=>simp[Ty.mk]at h
  |cons y b=>
   cases y<;>simp only[Ty.mk]at h<;>try (cases h;done)
   simp only[Ao,EX]at h;obtain⟨rfl,rfl⟩:=h;exact⟨[_],rfl,Dl.refl _⟩
 |.int k,b,x,r,h=>by
  cases b with
  |nil=>simp[Ty.mk]at h
  |cons y b=>
   cases y<;>simp only[Ty.mk]at h<;>try (cases h;done)
   split at h;rename_i f;subst f;simp only[Ao,EX]at h;obtain⟨rfl,rfl⟩:=h;exact⟨[_],rfl,Dl.refl _⟩;cases h
 |.str,b,x,r,h=>by
  cases b with
  |nil=>simp[Ty.mk]at h
  |cons y b=>
   cases y<;>simp only[Ty.mk]at h<;>try (cases h;done)
   simp only[Ao,EX]at h;obtain⟨rfl,rfl⟩:=h;exact⟨[_],rfl,Dl.refl _⟩
 |.list t,b,x,r,h=>by
  cases b with
  |nil=>simp[Ty.mk]at h
  |cons y b=>
   cases y<;>simp only[Ty.mk]at h<;>try (cases h;done)
   split at h;rename_i c;simp only[Ao,EX]at h;obtain⟨rfl,rfl⟩:=h;refine⟨[_],rfl,?_⟩;have d:((Ty.list t).enc (Ty.cast c ‹_›))=_:=dG c _;rw[d];exact Dl.refl _;cases h;simp only[Ao,EX]at h;obtain⟨rfl,rfl⟩:=h;exact⟨[_],rfl,Dl.one (Wf.nil t.sz_pos)⟩
 |.arr n t,b,x,r,h=>by
  cases b with
  |nil=>simp[Ty.mk]at h
  |cons y b=>
   cases y<;>simp only[Ty.mk]at h<;>try (cases h;done)
   split at h;rename_i c;simp only[Ao,EX]at h;obtain⟨rfl,rfl⟩:=h;refine⟨[_],rfl,?_⟩;have d:((Ty.arr n t).enc (Ty.cast c ‹_›))=_:=dG c _;rw[d];have e:∀y:Bv,lvs [y]=y.enc:=λy=>by rw[Hn];simp[lvs]
   rw[e];exact Dl.refl _;cases h
 |.prod ts,b,x,r,h=>ts.mk_spec b x r (by simpa only[Ty.mk]using h)
theorem R1.mk_spec:∀(d:R1)(c:List Bv)(x:d.D)(r:List Bv),d.mk c=δ (x,r)->∃a,c=a++r/\Dl (lvs a) (d.cells x)
 |.one t,c,x,r,h=>t.mk_spec c x r (by simpa only[R1.mk]using h)
 |.cons t d,c,x,r,h=>by simp only[R1.mk]at h;split at h;rename_i y e f;split at h;rename_i z k g;simp only[Ao,EX]at h;obtain⟨rfl,rfl⟩:=h;obtain⟨a,rfl,i⟩:=t.mk_spec c y e f;obtain⟨b,rfl,j⟩:=d.mk_spec e z k g;exact⟨a++b,by rw[A5],by rw[Gs];exact i.append j⟩;cases h;cases h
end
def Ty.isAgg:Ty->Bool
 |.arr .. =>ζ
 |.prod _=>ζ
 |_=>η
def Ty.all(t:Ty)(ls:List Bv):Option t.D:=
 match t.mk ls with
 |some (x,[])=>δ x
 |_=>ε
theorem Fq{x:t.D}(h:t.all d=δ x):Dl (Go.Ab.lvs d) (t.enc x).cells:=by unfold Ty.all at h;split at h;rename_i y c;obtain⟨a,rfl,b⟩:=t.mk_spec d y [] c;grind;cases h
def Ty.data(t:Ty)(v:TV):Option t.D:=
 match v with
 |.c x=>match t.isAgg|| !x.scalar with|true=>ε|false=>t.all [x]
 |.g cs=>match t.isAgg with|true=>t.all cs|false=>ε
 |_=>ε
def Ty.scalar_cells(h:t.isAgg=η)(x:t.D):(t.enc x).cells=[t.enc x]:=by cases t<;>first|rfl|cases h
def Ty.agg_enc(h:t.isAgg=ζ)(x:t.D):t.enc x=.agg (t.enc x).cells:=by cases t<;>first|rfl|cases h
def MS{v:TV}{x:t.D}(h:t.data v=δ x):Wf v.enc (t.enc x):=by unfold Ty.data at h;split at h;rename_i y;split at h;cases h;rename_i a;simp at a;have:=Fq h;rw[t.scalar_cells a.1,Hn,MR a.2]at this;obtain⟨u,b,c⟩:=this.2 0 _ rfl;simp at b;subst b;exact c;rename_i d;split at h;rename_i a;have:=(Fq h).agg;rw[<-t.agg_enc a]at this;exact this;cases h;cases h
def Ty.tv(t:Ty)(x:t.D):TV:=
 match t,x with
 |.bool,b=>.c (.bl b)
 |.int k,n=>.c (.it k n)
 |.str,s=>.c (.st s)
 |.list t,l=>.c (.ls t l)
 |.arr n t,a=>.g [.ar n t a]
 |.prod ts,x=>.g (ts.lvs x)
def Ty.tv_enc(t:Ty)(x:t.D):(t.tv x).enc=t.enc x:=by
 cases t with
 |arr n t=>
  have a:∀y:Bv,Go.Ab.lvs [y]=y.enc:=λy=>by rw[Hn];simp[Go.Ab.lvs]
  simp only[Ty.tv,TV.enc,a];rfl
 |prod b=>simp only[Ty.tv,TV.enc,b.lvs_cells];rfl
 |_=>rfl
def Ty.tv_ok(t:Ty)(x:t.D):(t.tv x).ok b:=by
 cases t with
 |prod a=>exact a.lvs_ok x
 |_=>exact Ji trivial
def Dv.ro:Dv->Bool
 |.dead=>η
 |.live b _=>b
 |.buf b _ _ _ _=>b
 |.lp b _ _ _ _ _ _ _=>b
 |.mp b _ _ _=>b
def Dv.isLp:Dv->Bool
 |.lp .. =>ζ
 |_=>η
def LpS(H H':Ap):Prop:=∀(id:Nat),id<θ H->∀ro F n env ps a b s,H'[id]?=δ (.lp ro F n env ps a b s)->∃ro0 s0,H[id]?=δ (.lp ro0 F n env ps a b s0)
def LpS.refl(H:Ap):LpS H H:=λ_ _ _ _ _ _ _ _ _ _ h=>⟨_,_,h⟩
def Dv.lock:Dv->Dv
 |.dead=>.dead
 |.live _ cs=>.live ζ cs
 |.buf _ t l n ver=>.buf ζ t l n ver
 |.lp _ F n env ps a b s=>.lp ζ F n env ps a b s
 |.mp _ k t es=>.mp ζ k t es
theorem oe(e:Dv):e.lock.enc=e.enc:=by cases e<;>rfl
structure CD(H H':Ap):Prop where
 len:θ H<=θ H'
 refs:∀id ver t n,Sp H id ver t n->Sp H' id ver t n
 ro:∀(id:Nat)(e:Dv),H[id]?=δ e->e.ro=ζ->H'[id]?=δ e
 nb:∀id,id<θ H->(∀t l n ver,H[id]? ≠δ (.buf η t l n ver))->∀t l n ver,H'[id]? ≠δ (.buf η t l n ver)
 lp:LpS H H'
theorem CD.refl(H:Ap):CD H H:=⟨An _,λ_ _ _ _ h=>h,λ_ _ h _=>h,λ_ _ h=>h,.refl H⟩
def CD.trans{a b c:Ap}(h:CD a b)(k:CD b c):CD a c:=⟨Ct h.len k.len,λid d t n q=>k.refs id d t n (h.refs id d t n q),λid e q r=>k.ro id e (h.ro id e q r) r,λid q r=>k.nb id (DB q h.len) (h.nb id q r),λid q _ _ _ _ _ _ _ _ r=>by obtain⟨g,i,f⟩:=k.lp id (DB q h.len) _ _ _ _ _ _ _ _ r;exact h.lp id q _ _ _ _ _ _ _ _ f⟩
def CD.leaf(h:CD F b)(k:v.ok F):v.ok b:=by
 cases v with
 |own id a t n=>exact h.refs id a t n k
 |_=>trivial
def CD.lok(h:CD b F)(k:lok b d):lok F d:=λx c=>h.leaf (k x c)
def CD.tv(h:CD b F)(k:e.ok b):e.ok F:=h.lok k
def CD.ent(h:CD b F)(k:D.ok b):D.ok F:=by
 cases D with
 |live H d=>exact h.lok k
 |buf H t l n c=>exact k
 |dead=>trivial
 |lp=>exact k
 |mp=>exact k
def CD.env{H a:Ap}(h:CD H a){env:BZ}(k:∀p∈env,p.2.ok H):∀p∈env,p.2.ok a:=λp b=>h.tv (k p b)
theorem CD.push(H:Ap)(e:Dv):CD H (H++[e]):=by refine⟨k!,λid g t n h=>⟨by have:=h.1;simp;omega,λro f l d a b=>?_⟩,λid i b hr=>?_,λid c h=>q!,λid c _ _ _ _ _ _ _ _ h=>q!⟩;rw[CT h.1]at b;exact h.2 ro f l d a b;grind
def CD.set{H:Ap}{id:Nat}{r:Dv}(o:H[id]?=δ D)(hr:D.ro=η)
  (y:∀ro t l n k,r=.buf ro t l n k->∃d v p f,D=.buf d t v p f/\(f<k\/(f=k/\p=n)))
  (B:∀ro F n env z a b s,r=.lp ro F n env z a b s->∃d w,D=.lp d F n env z a b w:=by intro _ _ _ _ _ _ _ _ h;cases h):CD H (H.set id r):=by
 have m:id<θ H:=by rcases Ax id (θ H) with u|u;exact u;rw[Cn u]at o;cases o
 refine⟨k!,λj k t n h=>⟨by simpa using h.1,λro I l G A g=>?_⟩,λj E g x=>?_,λj g h t l n k i=>?_,λj g _ _ _ _ _ _ _ _ i=>?_⟩;by_cases c:j=id;subst c;rw[Gy m]at g;injection g with g;obtain⟨d,v,p,f,q1,q2⟩:=y _ _ _ _ _ g;subst q1;obtain⟨C,e⟩:=h.2 _ _ _ _ _ o;rcases q2 with q2|⟨rfl,rfl⟩;exact⟨o!,λD=>o!⟩;exact⟨C,e⟩;rw[DW (λD=>c D.symm)]at g;exact h.2 _ _ _ _ _ g;have c:j≠id:=by rintro rfl;rw[o]at g;injection g with g;subst g;rw[hr]at x;cases x
 rw[DW (λD=>c D.symm)];exact g;by_cases c:j=id;subst c;rw[Gy m]at i;injection i with i;obtain⟨d,v,p,f,q1,_⟩:=y _ _ _ _ _ i;subst q1;have:d=η:=hr;subst this;exact h _ _ _ _ o;rw[DW (λD=>c D.symm)]at i;exact h _ _ _ _ i;by_cases c:j=id;subst c;rw[Gy m]at i;injection i with i;obtain⟨d,w,q⟩:=B _ _ _ _ _ _ _ _ i;exact⟨d,w,by rw[o,q]⟩;rw[DW (λD=>c D.symm)]at i;exact⟨_,_,i⟩
theorem Pe{H:Ap}(h:∀x∈H,x.ok H)(b:D.ok (H++[D])):∀x∈H++[D],x.ok (H++[D]):=by intro x a;rcases Ak.1 a with a|a;exact(CD.push H D).ent (h x a);grind
def RN{H:Ap}{id:Nat}(d:CD H (H.set id D))(h:∀x∈H,x.ok H)(c:D.ok (H.set id D)):∀x∈H.set id D,x.ok (H.set id D):=by intro x b;rcases QV b with b|rfl;exact d.ent (h x b);exact c
def Frame(F:List Nat)(H H':Ap):Prop:=∀j,j<θ H->j∉F->H'[j]?=H[j]?
def Frame.refl(F:List Nat)(H:Ap):Frame F H H:=λ_ _ _=>rfl
def Frame.push(F:List Nat)(H:Ap)(e:Dv):Frame F H (H++[e]):=λ_ a _=>CT a
theorem Frame.set{F:List Nat}{H:Ap}{id:Nat}(h:id∈F):Frame F H (H.set id D):=λj _ hn=>DW λq:id=j=>hn q!
def idT:TV->List Nat
 |.c (.raw a)=>pw a
 |.c (.own id _ _ _)=>[id]
 |.aptr id .. =>[id]
 |.bptr id .. =>[id]
 |.vw id .. =>[id]
 |_=>[]
def AGA(v:TV):∀id∈pw v.enc,id∈idT v:=by
 cases v with
 |c x=>
  cases x with
  |_=>exact λ_ h=>h
 |vw id a t n b m=>intro i h;simp only[TV.enc,vwE]at h;split at h;split at h;exact h;cases h;exact h
 |_=>exact λ_ h=>h
def RD(H:Ap)(e:Dv):BJ (H++[e])=BJ H++[e.enc]:=by simp[BJ]
theorem Kx(H:Ap)(id:Nat)(e:Dv):BJ (H.set id e)=(BJ H).set id e.enc:=by simp[BJ]
theorem CW(H:Ap):(BJ H).length=θ H:=BT _
section
variable {R:Type}
def storeT(P:Program)(H:Ap)(t:TypeId)(p v:TV)(k:TV->Ap->Option R):Option R:=
 match v.words,tI P t with
 |some ws,δ (_,n)=>
  match ξ (AFD ws) n with
  |false=>ε
  |true=>
   match p with
   |.c (.raw (.ptr id 0 off))=>
    match H[id]? with
    |some (.live η cs)=>match ACu cs off ws n with|some cs'=>k VD (H.set id (.live η cs'))|none=>ε
    |_=>ε
   |.aptr id base m te i off=>
    match H[id]? with
    |some (.live η cs)=>
     match W8 cs base with
     |some (pre,.ar m' te' a::post)=>
      if h:(Ty.arr m' te').beq (Ty.arr m te)=ζ then
       (Gk (n:=m+1) (Ty.cast h a) i).bind λe=>
        match ACu (te.lvs e) off ws n with
        |some ls=>match te.all ls with|some e'=>k VD (H.set id (.live η (pre++(.ar m te (Wi (n:=m+1) (Ty.cast h a) i e')::post))))|none=>ε
        |none=>ε
      else ε
     |_=>ε
    |_=>ε
   |.bptr id ver te _ i off=>
    match H[id]? with
    |some (.buf η te' l n' ver')=>
     match ξ ver ver' with
     |true=>
      if h:(Ty.list te').beq (Ty.list te)=ζ then
       (ix (α:=te.D) (Ty.cast h l) i).bind λe=>
        match ACu (te.lvs e) off ws n with
        |some ls=>match te.all ls with|some e'=>k VD (H.set id (.buf η te (Eo (α:=te.D) (Ty.cast h l) i e') n' ver'))|none=>ε
        |none=>ε
      else ε
     |false=>ε
    |_=>ε
   |_=>ε
 |_,_=>ε
theorem zN{b d:List Ac}(h:N+θ d<=θ T):Wa (i++T++b) (θ i+N) d=i++Wa T N d++b:=by
 unfold Wa;have e:(i++T++b).take (θ i+N)=i++T.take N:=by rw[A5,eK,BP o!,S7,eL o!]
 have f:(i++T++b).drop (θ i+N+θ d)=T.drop (N+θ d)++b:=by grind[List.drop_drop,List.drop_left]
 grind
theorem S3.set_less{H m n:Au}{f cs':List Ac}(k:N<θ H)(s:m=H.set N (.live S f))(t:n=H.set N (.live S cs'))(o:Dl f cs')(d:x.Later y):S3 x y m n:=by
 subst s t;refine⟨k!,λj p a=>?_⟩;by_cases b:j=N;subst b;rw[Gy k]at a;injection a with a;subst a;refine .inr (.inl ⟨S,f,cs',q!,rfl,o.1,λi l h=>?_⟩);obtain⟨v,q1,q2⟩:=o.2 i l h;exact⟨v,q1,λc r=>q2 _ _ (r.later d)⟩;rw[DW (λe=>b e.symm)]at a;cases p with
 |live q c0=>exact .inr (.inl ⟨q,c0,c0,q!,rfl,rfl,λi l h=>⟨l,h,λc r=>r.later d⟩⟩)
 |_=>grind
theorem gl(l:θ Y=θ p)(i:∀(j:Nat)(e:Fk),Y[j]?=δ e->e≠.dead->∃a,p[j]?=δ a/\a≠.dead):(cx X h p w).Later (cx X h Y w):={size:=An _,keep:=λ_ _ _ _=>rfl,gen:=λ_ _=>An _,same:=λ_ _ _=>⟨rfl,rfl⟩,n:=by simp[cx,l],own:=λB _ m=>m.imp _root_.id (λ⟨j,e,k,d,c⟩=>by obtain⟨a,f,g⟩:=i j e k d;exact⟨j,a,f,g,c⟩)}
theorem JV.set_less{N:Nat}{b cs':List Ac}(d:n<θ p)(h:JV P N o s p (DQ u (p.set n (.live S b))))(f:Dl b cs'):JV P N o s p (DQ u (p.set n (.live S cs'))):=by
 refine JV.after h λX e w _=>?_;have a:(cx X e (p.set n (.live S b)) w).Later (cx X e (p.set n (.live S cs')) w):=by grind[gl]
 exact⟨S3.set_less d rfl rfl f a,λc r=>r.later a⟩
theorem G7{l:List R}{x:R}(h:l[N]?=δ x):N<θ l:=q!
variable {P:Program}{N:Nat}{o:Oper}{env:BZ}{H:Ap}{k:TV->Ap->Option R}{r:R}
def mV(P:Program)(N:Nat)(o:Oper)(env:BZ)(H:Ap)(F:List Nat)(k:TV->Ap->Option R)(r:R):Prop:=
 ∃v H',JV P N o (Bz env) (BJ H) (DQ v.enc (BJ H'))/\k v H'=δ r/\v.ok H'/\(∀e∈H',e.ok H')/\CD H H'/\Frame F H H'
theorem xg(ok:No env H)(ho:o.op=.store a c J)(h:storeT P H a (JW env c) (JW env J) k=δ r):mV P N o env H (idT (JW env c)) k r:=by
 have V:=LN env;have a1:(JW env J).ok H:=fw ok.env J;have ao:(JW env c).ok H:=fw ok.env c;unfold storeT at h;split at h;rename_i ws b n hw ht;obtain⟨w1,Y,w3⟩:=Yv hw;split at h;cases h;rename_i hn;have f:(lvs ws).length=n:=by grind[dz,Nat.eq_of_beq_eq_true]
 have R:tI P a=δ (b,(JW env J).enc.cells.length):=q!
 split at h;rename_i id d F;split at h;rename_i cs u;split at h;rename_i L hs;obtain⟨s1,s2,s3⟩:=lX hs f;have B:(BJ H)[id]?=δ (.live 0 (lvs cs)):=by rw[EJ,u];rfl
 have j:CD H (H.set id (.live η L)):=CD.set u rfl λ_ _ _ _ _ h=>by cases h
 refine⟨VD,_,JV.store ho (id:=id) (g:=0) (off:=d) (v:=(JW env J).enc) (by rw[V,F];rfl) (V J) w1 B R (by rw[Y,f];exact s2) ⟨rfl,?_⟩,h,iD,RN j ok.heap (j.lok (s3 H (ok.heap _ (BN u)) (w3 H a1))),j,Frame.set (by rw[F];exact BA.2 rfl)⟩;rw[Kx,Y,<-s1];rfl;cases h;cases h;rename_i id w m te i d F;split at h;rename_i cs u;split at h;rename_i pre W t x p hs;split at h;rename_i hb;have T:=Ty.beq_eq _ _ hb;injection T with hm S;subst hm S;obtain⟨e,hg,h⟩:=Dj.1 h;split at h;rename_i ls Q;split at h;rename_i M A;obtain⟨ad,I⟩:=OY hs;obtain⟨s1,s2,_⟩:=lX Q f;have s:=Fq A;have q:(Ty.cast hb x:GO (W+1) t.D)=x:=rfl;rw[q]at hg h;obtain⟨h0,G,rfl,rfl⟩:=oz hg;obtain⟨y,Z,q1,q2,q3⟩:=si t.E x G;have B:(BJ H)[id]?=δ (.live 0 (lvs pre++y++(t.enc (x G)).cells++(Z++lvs p))):=by rw[EJ,u,ad];show δ (Fk.live 0 (lvs (pre++(.ar W t x::p))))=_;rw[Gs,Hn,bf,q1];simp only[A5];rfl
 have j:CD H (H.set id (.live η (pre++(.ar W t (Wi (n:=W+1) x (G.val:Int) M)::p)))):=CD.set u rfl λ_ _ _ _ _ h=>by cases h
 have al:lok H cs:=ok.heap _ (BN u);rw[ad]at al;obtain⟨o1,o2⟩:=JE.1 al;refine⟨VD,_,?_,h,iD,RN j ok.heap (j.lok (JE.2 ⟨o1,λz hz=>?_⟩)),j,Frame.set (by rw[F];exact BA.2 rfl)⟩;have C:d+(lvs ws).length<=(t.enc (x G)).cells.length:=by rw[f,<-t.lvs_enc];exact s2
 have st:=JV.store (P:=P) (N:=N) (K:=DQ .any ((BJ H).set id (.live 0 (Wa (lvs pre++y++(t.enc (x G)).cells++(Z++lvs p)) (w+(G.val:Int).toNat*t.sz+d) (JW env J).enc.cells)))) ho (id:=id) (g:=0)
  (off:=w+(G.val:Int).toNat*t.sz+d) (v:=(JW env J).enc) (by rw[V,F];rfl) (V J) w1 B R (by rw[Y,f];simp only[AY,q2,I];have:t.E.sz=t.sz:=rfl;rw[f]at C;simp only[Cz,this];omega) ⟨rfl,rfl⟩
 have ea:w+(G.val:Int).toNat*t.sz+d=(lvs pre++y).length+d:=by rw[AY,I,q2,Cz];rfl
 rw[Y,ea,zN C]at st;have O:=JV.set_less (cs':=lvs (pre++(.ar W t (Wi (n:=W+1) x (G.val:Int) M)::p))) (by rw[CW];exact G7 u) st (by rw[Gs,Hn,bf,q3 M];simp only[A5];refine(Dl.refl _).append ((Dl.refl _).append (Dl.append ?_ (Dl.refl _)));rw[<-t.lvs_enc,<-s1];exact s);rw[Kx];exact O;rcases Aw.1 hz with rfl|hz;trivial;exact o2 z (by simp[hz]);cases h;cases h;cases h;cases h;cases h;rename_i id U te nn i d F;split at h;rename_i t l X a2 u;split at h;rename_i hv;have a0:=DA hv;subst a0;split at h;rename_i hb;have T:=Ty.beq_eq _ _ hb;injection T with S;subst S;obtain⟨e,hg,h⟩:=Dj.1 h;split at h;rename_i ls Q;split at h;rename_i M A;obtain⟨s1,s2,_⟩:=lX Q f;have s:=Fq A;have q:(Ty.cast hb l:List t.D)=l:=rfl;rw[q]at hg h;obtain⟨y,Z,q1,q2,q3,q4,_,q5⟩:=tE t.E hg;have hr:Sp H id U t nn:=by rw[F]at ao;exact ao (.own id U t nn) (by simp[TV.refs])
 obtain⟨_,ax⟩:=hr.2 _ _ _ _ _ u;obtain⟨_,rfl⟩:=ax rfl;have ap:X=θ l:=ok.heap _ (BN u);have B:(BJ H)[id]?=δ (.live X (y++(t.enc e).cells++Z)):=by rw[EJ,u];show δ (Fk.live X (t.E.cl l))=_;rw[q1];rfl
 have j:CD H (H.set id (.buf η t (Eo l i M) X U)):=CD.set u rfl λ_ _ _ _ _ h=>by cases h;exact⟨_,_,_,_,rfl,.inr ⟨rfl,rfl⟩⟩
 refine⟨VD,_,?_,h,iD,RN j ok.heap ((og ap.symm).symm),j,Frame.set (by rw[F];exact BA.2 rfl)⟩;have C:d+(lvs ws).length<=(t.enc e).cells.length:=by rw[f,<-t.lvs_enc];exact s2
 have st:=JV.store (P:=P) (N:=N) (K:=DQ .any ((BJ H).set id (.live X (Wa (y++(t.enc e).cells++Z) (i.toNat*t.sz+d) (JW env J).enc.cells)))) ho (id:=id) (g:=X)
  (off:=i.toNat*t.sz+d) (v:=(JW env J).enc) (by rw[V,F];rfl) (V J) w1 B R (by rw[Y,f];simp only[AY,q2];have:t.E.sz=t.sz:=rfl;rw[f]at C;rw[this];omega) ⟨rfl,rfl⟩
 have ea:i.toNat*t.sz+d=θ y+d:=by rw[q2];rfl
 rw[Y,ea,zN C]at st;have O:=JV.set_less (cs':=t.E.cl (Eo l i M)) (by rw[CW];exact G7 u) st (by unfold Eo;rw[q5 M];refine Dl.append (Dl.append (Dl.refl _) ?_) (Dl.refl _);rw[<-t.lvs_enc,<-s1];exact s);rw[Kx];exact O;cases h;cases h;cases h;cases h;cases h;cases h;cases h
end
section
variable {R:Type}
def zj(P:Program)(H:Ap)(t:TypeId)(k:TV->Ap->Option R):Option R:=
 match um P t with
 |some z=>k (.c (.raw (.ptr (θ H) 0 0))) (H++[.live η z])
 |none=>ε
def AFf(H:Ap)(v:TV)(k:TV->Ap->Option R):Option R:=
 match v.words with
 |some ws=>k (.c (.raw (.ptr (θ H) 0 0))) (H++[.live η ws])
 |none=>ε
def mN(t:Ty):List TV->Option (List t.D)
 |[]=>δ []
 |v::r=>match t.data v,mN t r with|some x,δ xs=>δ (x::xs)|_,_=>ε
def elT(P:Program)(t:TypeId):Option Ty:=
 match eI P t with
 |some (ε,e,sz)=>
  match AAz P 1000 e with
  |some te=>if sz=te.sz/\Rz P e=ζ then δ te else ε
  |none=>ε
 |_=>ε
def gw(len:Nat)(te:Ty)(parts:Array (Nat×Operand))(vs:List TV):Bool:=
 τ (parts.toList.map (·.1)=List.range len)&&(vs.all λv=>match v.words with|some ws=>ξ (AFD ws) te.sz|none=>η)&&Nat.ble len 4096&&Nat.ble te.sz 4096
def ZZ(P:Program)(env:BZ)(H:Ap)(t:TypeId)(len:Nat)(parts:Array (Nat×Operand))(k:TV->Ap->Option R):Option R:=
 match elT P t with
 |some te=>
  match gw len te parts (parts.toList.map λp=>JW env p.2)with
  |true=>match mN te (parts.toList.map λp=>JW env p.2)with|some xs=>k (.c (.own (θ H) 0 te (θ xs))) (H++[.buf η te xs (θ xs) 0])|none=>ε
  |false=>ε
 |none=>ε
def qY(P:Program)(env:BZ)(t:TypeId)(len:Nat)(parts:Array (Nat×Operand))(k:TV->Option R):Option R:=
 match elT P t with
 |some te=>
  match gw len te parts (parts.toList.map λp=>JW env p.2)with
  |true=>match mN te (parts.toList.map λp=>JW env p.2)with|some xs=>k (.c (.ls te xs))|none=>ε
  |false=>ε
 |none=>ε
def gq(P:Program)(H:Ap)(t:TypeId)(x y:TV)(k:TV->Ap->Option R):Option R:=
 match eI P t,x,y with
 |some (ε,e,_),.c (.it _ l),.c (.it _ c)=>
  match elT P t,um P e with
  |some te,δ z=>match te.all z with|some zd=>(mk zd l c).bind λr=>k (.c (.own (θ H) 0 te (θ r))) (H++[.buf η te r (θ r) 0])|none=>ε
  |_,_=>ε
 |_,_,_=>ε
def uj(P:Program)(H:Ap)(src dst:TypeId)(x:TV)(k:TV->Ap->Option R):Option R:=
 match P.underlying src,P.underlying dst,x with
 |some _,δ (.slice e),.c (.st s)=>
  match P.underlying e with
  |some (.int .u8)=>k (.c (.own (θ H) 0 (.int .u8) (S2 s).length)) (H++[.buf η (.int .u8) (S2 s) (S2 s).length 0])
  |_=>ε
 |_,_,_=>ε
def AEm(H:Ap)(te:Ty)(v:TV):Option (List te.D):=
 match v with
 |.c (.ls te' l)=>if h:(Ty.list te').beq (Ty.list te)=ζ then δ (Ty.cast h l)else ε
 |.c (.own id ver te' _)=>if h:(Ty.list te').beq (Ty.list te)=ζ then(match X7 H id ver te' with|some l=>δ (Ty.cast (t:=.list te') (t':=.list te) h l)|none=>ε)else ε
 |.vw id ver te' _ lo m=>if h:(Ty.list te').beq (Ty.list te)=ζ then(match X7 H id ver te' with|some l=>δ (Ty.cast (t:=.list te') (t':=.list te) h ((l.drop lo).take m))|none=>ε)else ε
 |.c .nil=>δ []
 |_=>ε
def rf(P:Program)(H:Ap)(t:TypeId)(s x:TV)(k:TV->Ap->Option R):Option R:=
 match elT P t with
 |some te=>
  match AEm H te x with
  |some xs=>
   match s with
   |.c .nil=>(app [] xs).bind λr=>k (.c (.own (θ H) 0 te (θ r))) (H++[.buf η te r (θ r) 0])
   |.c (.own id ver te' _)=>
    match H[id]? with
    |some (.buf η t2 l _ ver')=>
     match ξ ver ver' with
     |true=>
      if h:(Ty.list t2).beq (Ty.list te)=ζ/\(Ty.list te').beq (Ty.list te)=ζ then
       (app (α:=te.D) (Ty.cast h.1 l) xs).bind λr=>k (.c (.own id (ver+1) te (θ r))) (H.set id (.buf η te r (θ r) (ver+1)))
      else ε
     |false=>ε
    |_=>ε
   |_=>ε
  |none=>ε
 |none=>ε
variable {P:Program}{N:Nat}{o:Oper}{env:BZ}{H:Ap}{k:TV->Ap->Option R}{r:R}
theorem uP{H:Ap}{l:List t.D}:(TV.c (.own (θ H) N t (θ l))).ok (H++[.buf A t l (θ l) N]):=by refine Ji ⟨k!,λd h f g b e=>?_⟩;grind
def sE(H:Ap)(b:Ty)(n a:Nat):(TV.c (.own (θ H) a b n)).enc=.sl (BJ H).length n b.sz 0 n:=by rw[CW];rfl
def we(ok:No env H)(b:o.op=.alloc a)(h:zj P H a k=δ r):mV P N o env H [] k r:=by
 unfold zj at h;split at h;rename_i z d;obtain⟨e,f⟩:=Yy d;refine⟨_,_,?_,h,Ji trivial,Pe ok.heap (f _),CD.push _ _,Frame.push _ _ _⟩;have t:(TV.c (.raw (.ptr (θ H) 0 0))).enc=.ptr (BJ H).length 0 0:=by rw[CW];rfl
 rw[t,RD];exact JV.alloc b e ⟨rfl,rfl⟩;cases h
def zp(ok:No env H)(b:o.op=.box a c)(h:AFf H (JW env c) k=δ r):mV P N o env H [] k r:=by
 unfold AFf at h;split at h;rename_i i d;obtain⟨e,f,g⟩:=Yv d;refine⟨_,_,?_,h,Ji trivial,Pe ok.heap ((CD.push _ _).lok (g H (fw ok.env c))),CD.push _ _,Frame.push _ _ _⟩;have t:(TV.c (.raw (.ptr (θ H) 0 0))).enc=.ptr (BJ H).length 0 0:=by rw[CW];rfl
 rw[t,RD];exact JV.box b (LN env c) e ⟨rfl,by rw[f];rfl⟩;cases h
def nD{t:Ty}:∀{b:List TV}{a:List t.D},mN t b=δ a->Dl (b.map TV.enc) (a.map t.enc)
 |[],a,h=>by simp only[mN,Ao]at h;subst h;exact Dl.refl _
 |v::r,a,h=>by simp only[mN]at h;split at h;rename_i x e c d;injection h with h;subst h;have:=nD d;exact(Dl.one (MS c)).append this;cases h
def jv{t:Ty}:∀{e:List TV}{b:List t.D},mN t e=δ b->Dl ((e.map TV.enc).flatMap Ac.cells) (t.E.cl b)
 |[],b,h=>by simp only[mN,Ao]at h;subst h;exact Dl.refl _
 |v::r,b,h=>by simp only[mN]at h;split at h;rename_i x k a g;injection h with h;subst h;have i:=jv g;refine Dl.append ?_ i;unfold Ty.data at a;split at a;rename_i y;split at a;cases a;rename_i d;simp at d;have c:=Fq a;rw[Hn,MR d.2,<-Bv.scalar_cells d.2]at c;have f:lvs ([]:List Bv)=[]:=rfl;rw[f,DN]at c;exact c;rename_i j;split at a;exact Fq a;cases a;cases a;cases h
theorem jw(h:elT P a=δ t):∃e,eI P a=δ (ε,e,t.sz)/\Rz P e=ζ:=by grind[elT]
theorem uV{a:Array (Nat×Operand)}(h:elT P G=δ t)(c:gw N t a (a.toList.map λp=>JW env p.2)=ζ):
  Sr P (Bz env) G N a=δ (t.sz,(a.toList.map λp=>JW env p.2).map TV.enc):=by
 obtain⟨e,k,l⟩:=jw h;unfold gw at c;simp only[BW,K!]at c;obtain⟨⟨⟨f,g⟩,i⟩,j⟩:=c;have d:(a.toList.map λp=>BO (Bz env) p.2)=(a.toList.map λp=>JW env p.2).map TV.enc:=by grind[List.map_congr_left,LN]
 unfold Sr;simp only[k,d];refine C! ⟨t.sz_pos,l,f,?_,Om i,Om j⟩;rw[GA];intro v n;obtain⟨u,m,rfl⟩:=Bs.1 n;have:=GA.1 g u m;split at this<;>simp_all[Yv,dz]
theorem ACL{b:List t.D}(h:mN t m=δ b):θ b=θ m:=by have:=(nD h).1;grind
theorem S3.push_less{H:Au}(n:Dl i T)(d:x.Later y):S3 x y (H++[.live N i]) (H++[.live N T]):=by
 refine⟨k!,λj o e=>?_⟩;rcases Ax j (θ H) with b|b;rw[CT b]at e;cases o with
 |live p c0=>exact .inr (.inl ⟨p,c0,c0,q!,rfl,rfl,λg m h=>⟨m,h,λc r=>r.later d⟩⟩)
 |_=>grind
 have k:=G7 e;simp at k;have l:j=θ H:=o!
 subst l;simp at e;subst e;refine .inr (.inl ⟨N,i,T,k!,rfl,n.1,λg m h=>?_⟩);obtain⟨v,q1,q2⟩:=n.2 g m h;exact⟨v,q1,λc r=>q2 _ _ (r.later d)⟩
theorem JV.push_less(h:JV P N o s p (DQ u (p++[.live n i])))(E:Dl i T):JV P N o s p (DQ u (p++[.live n T])):=by
 refine JV.after h λX f w _=>?_;have b:(cx X f (p++[.live n i]) w).Later (cx X f (p++[.live n T]) w):=by refine gl k! λj e l k=>?_;grind
 exact⟨S3.push_less E b,λc r=>r.later b⟩
def nh{t:Array (Nat×Operand)}(ok:No env H)(f:o.op=.buildSlice a n t)(h:ZZ P env H a n t k=δ r):mV P N o env H [] k r:=by unfold ZZ at h;split at h;rename_i i d;split at h;rename_i g;split at h;rename_i j c;have e:=uV d g;have b:=ACL c;refine⟨_,_,?_,h,uP,Pe ok.heap rfl,CD.push _ _,Frame.push _ _ _⟩;rw[sE,RD];have:=Tm (N:=N) (H:=BJ H) (K:=DQ _ _) f e ⟨rfl,rfl⟩;rw[BT,<-b]at this;exact JV.push_less this (jv c);cases h;cases h;cases h
theorem AGv{a:Ty}{vs:List Ac}{l:List a.D}(h:Dl vs (l.map a.enc))(I:Dl (vs.flatMap Ac.cells) (a.E.cl l))(z: ∀v∈vs,v.cells.length=a.sz):Wf (.vs a.sz vs) (.vs a.sz (l.map a.enc)):=by
 intro x c L;cases L with
 |vs f t o w C p=>
  have hn:(l.map a.enc).length=vs.length:=h.1;rw[<-hn];have key: ∀(j:Nat) (e:Ac) (i:Nat) (v:Ac),(l.map a.enc)[j]? =some e->e.cells[i]? =some v-> ∃b k,vs[j]? =some b/\b.cells[i]? =some k/\Wf k v:=by
   intro j e i v d m;obtain⟨b,q1,_⟩:=h.2 j e d;have g: ∀u∈l.map a.enc,u.cells.length=a.sz:=λu J=>by obtain⟨y,_,rfl⟩:=Bs.1 J;exact a.enc_len y
   have A:=oJ g j e i v d m;obtain⟨k,r,s⟩:=I.2 _ v A;have H:i<a.sz:=by grind
   have F:=z b (BN q1);have G:b.cells[i]? =some (b.cells[i]'(by omega)):=Ar (by omega);have M:=oJ z j b i _ q1 G;grind
  refine Bx.vs f (by grind) o (λj e d=>?_) (λn=>?_) λj e i v d m=>?_;obtain⟨y,_,rfl⟩:=Bs.1 (BN d);exact a.enc_len y;obtain⟨B,q,q1,q2,q3,q4⟩:=C (λe=>n (EZ (by grind)));refine⟨B,q,q1,q2,q3,λj e i v d m=>?_⟩;obtain⟨b,k,r,s,_⟩:=key j e i v d m;grind;obtain⟨b,k,r,s,K⟩:=key j e i v d m;exact K _ _ (p j b i k r s)
def qD(ok:No env H)(s:o.op=.makeSlice a c J)(h:gq P H a (JW env c) (JW env J) k=δ r):mV P N o env H [] k r:=by
 have i:=LN env;unfold gq at h;split at h;rename_i e sz Q l O t j v w;split at h;rename_i b z d A;split at h;rename_i L f;obtain⟨I,q,h⟩:=Dj.1 h;obtain⟨M,m,u⟩:=jw d;rw[j]at m;obtain⟨rfl,rfl⟩:=m;obtain⟨y,R⟩:=Yy A;have x:=Fq f;obtain⟨⟨C,D,F⟩,p,G⟩:=AJ1 b.E L q;refine⟨_,_,?_,h,uP,Pe ok.heap rfl,CD.push _ _,Frame.push _ _ _⟩;rw[sE,RD];have g:(lvs z).length=b.sz:=by rw[<-x.1,b.enc_len]
 have:=JV.makeSlice (N:=N) (H:=BJ H) (K:=DQ _ _) s j b.sz_pos u y g (by rw[i,v];rfl) (by rw[i,w];rfl) C D F ⟨rfl,rfl⟩;rw[p]at this;apply JV.push_less this;rw[<-G,p];induction θ I with
 |zero=>exact Dl.refl _
 |succ n B=>exact Dl.append x B
 cases h;cases h;cases h
def uk(ok:No env H)(j:o.op=.convert G a c)(h:uj P H G a (JW env c) k=δ r):mV P N o env H [] k r:=by have f:=LN env;unfold uj at h;split at h;rename_i u e s l g m;split at h;rename_i i;refine⟨_,_,?_,h,uP,Pe ok.heap rfl,CD.push _ _,Frame.push _ _ _⟩;rw[sE,RD];obtain⟨b,d⟩:=AJD s;have:=pj (N:=N) (H:=BJ H) (K:=DQ _ _) j l g i (by rw[f,m];rfl) ⟨rfl,rfl⟩;rw[d,b]at this;exact this;cases h;cases h
def ABG(a:Ty):∀(l:List a.D)(k:Nat),(a.E.cl l).drop (k*a.sz)=a.E.cl (l.drop k)
 |l,0=>by rw[X5];rfl
 |[],k+1=>by simp[R3.cl]
 |x::r,k+1=>by have e:a.E.cl (x::r)=(a.enc x).cells++a.E.cl r:=rfl;have b:=a.enc_len x;rw[e,show(k+1)*a.sz=(a.enc x).cells.length+k*a.sz by rw[b,EI,Nat.one_mul,X3],Xl,Vq o!,B4,S7];exact ABG a r k
def ABH(a:Ty):∀(l:List a.D)(k:Nat),(a.E.cl l).take (k*a.sz)=a.E.cl (l.take k)
 |l,0=>by rw[X5];rfl
 |[],k+1=>by simp[R3.cl]
 |x::r,k+1=>by have e:a.E.cl (x::r)=(a.enc x).cells++a.E.cl r:=rfl;have b:a.E.cl (List.take (k+1) (x::r))=(a.enc x).cells++a.E.cl (r.take k):=rfl;have c:=a.enc_len x;rw[e,b,show(k+1)*a.sz=(a.enc x).cells.length+k*a.sz by rw[c,EI,Nat.one_mul,X3],eK,BP o!,S7,ABH a r k]
theorem AAk{f:List t.D}(x:∀r∈H,r.ok H)(z:e.ok H)(h:AEm H t e=δ f):J6 (BJ H) t.sz e.enc=δ (θ f,t.E.cl f):=by
 unfold AEm at h;split at h;rename_i a l;split at h;rename_i j;have c:=Ty.beq_eq _ _ j;injection c with b;subst b;injection h with h;have i:=h;subst i;simp only[TV.enc,Bv.one,J6,BT];rfl;cases h;rename_i id g a n;split at h;rename_i j;have c:=Ty.beq_eq _ _ j;injection c with b;subst b;split at h;rename_i l v;injection h with h;have i:l=f:=h;obtain⟨s,p⟩:=XJ x (z (.own id g a n) (by simp[TV.refs])) v;have y:=a.E.clen l;have A:a.E.sz=a.sz:=rfl;grind[TV.enc,Bv.one,J6];cases h;cases h;rename_i id g a n d m;split at h;rename_i j;have c:=Ty.beq_eq _ _ j;injection c with b;subst b;split at h;rename_i l v;injection h with h;have i:(l.drop d).take m=f:=h;obtain⟨s,p⟩:=XJ x (z (.own id g a n) (by simp[TV.refs])) v;have o:θ f=min m (n-d):=by rw[<-i,BR,C5,p]
 have w:f=(l.drop d).take (min m (n-d)):=by rw[<-i,<-p,<-C5,List.take_eq_take_min]
 have y:(a.E.cl l).length=n*a.sz:=by rw[<-p];exact a.E.clen l
 show J6 (BJ H) a.sz (vwE id n a.sz d m)=_;unfold vwE;by_cases q:min m (n-d)=0;have u:f=[]:=sY.1 o!;rw[C! q,u];by_cases q0:d=0;rw[C! q0];simp only[J6,s];rw[C! ⟨O!,O!,k!⟩,X5];rfl;rw[D! q0];simp[J6,R3.cl];rw[D! q];simp only[J6,s];have k:(d+min m (n-d))*a.sz<=n*a.sz:=Mu _ o!;rw[EI]at k;rw[C! ⟨O!,O!,by rw[y];exact k⟩,o,ABG,ABH,<-w];cases h;cases h;injection h with h;subst h;rfl;cases h
theorem un(ok:No env H)(R:o.op=.call {callee:=.builtin .append,args:= #[c,J],argTypes:= #[a,G]})(Y:a=G)(h:rf P H a (JW env c) (JW env J) k=δ r):mV P N o env H (idT (JW env c)) k r:=by
 subst Y;have x:=LN env;unfold rf at h;split at h;rename_i te C;obtain⟨e,Q,S⟩:=jw C;split at h;rename_i w I;have L:=AAk ok.heap (fw ok.env J) I;rw[<-x]at L;split at h;rename_i b;obtain⟨l,u,X⟩:=Dj.1 h;obtain⟨W,j⟩:=ng u;rw[B4]at j;subst j;refine⟨_,_,?_,X,uP,Pe ok.heap rfl,CD.push _ _,Frame.push _ _ _⟩;rw[sE,RD];have:=dE (N:=N) (H:=BJ H) (K:=DQ _ _) R Q te.sz_pos S (by rw[x,b];rfl) L q! ⟨rfl,rfl⟩;exact this;rename_i id g al n b;split at h;rename_i d l M T t;split at h;rename_i Z;have v:=DA Z;subst v;split at h;rename_i y;have F:=Ty.beq_eq _ _ y.1;injection F with p;have s:=Ty.beq_eq _ _ y.2;injection s with q;subst q;subst p;obtain⟨l2,u,h⟩:=Dj.1 h;have f:(Ty.cast y.1 l:List d.D)=l:=rfl;rw[f]at u;obtain⟨W,rfl⟩:=ng u;have hr:Sp H id g d n:=by have:=fw ok.env c;rw[b]at this;exact this (.own id g d n) (by simp[TV.refs])
 obtain⟨_,A⟩:=hr.2 _ _ _ _ _ t;obtain⟨_,rfl⟩:=A rfl;have z:M=θ l:=ok.heap _ (BN t);have i:(BJ H)[id]?=δ (.live M (d.E.cl l)):=by rw[EJ,t];rfl
 have m:CD H (H.set id (.buf η d (l++w) (l++w).length (g+1))):=CD.set t rfl λ_ _ _ _ _ h=>by cases h;exact⟨_,_,_,_,rfl,.inl (Nat.lt_succ_self _)⟩
 refine⟨_,_,?_,h,Ji ⟨q!,λad G l' n2 U hg=>?_⟩,RN m ok.heap rfl,m,Frame.set (by rw[b];exact BA.2 rfl)⟩;have O:=d.E.clen l;have B:d.E.sz=d.sz:=rfl;rw[B]at O;have:=Rv (N:=N) (H:=BJ H) (g':=M+θ w) (K:=DQ _ _) R Q d.sz_pos S (by rw[x,b];rfl) i (by rw[O,z]) L q! (by rcases Vo (θ w) with V|V;grind;exact .inl o!) ⟨rfl,rfl⟩;grind[Kx,List.length_append,R3.cl,TV.enc,Bv.one,Dv.enc];grind;cases h;cases h;cases h;cases h;cases h;cases h
end
def NZ(id ver:Nat)(t:Ty)(l:List t.D):Bv->Bv
 |.own id' ver' t' n=>match ξ id id'&&ξ ver ver' with|true=>.ls t l|false=>.own id' ver' t' n
 |x=>x
mutual
def oO(id ver:Nat)(t:Ty)(l:List t.D):TV->TV
 |.c x=>.c (NZ id ver t l x)
 |.g cs=>.g (cs.map (NZ id ver t l))
 |.tup vs=>.tup (gB id ver t l vs)
 |.aptr a b n te i o=>.aptr a b n te i o
 |.bptr a v te n i o=>.bptr a v te n i o
 |.vw a v te n i m=>.vw a v te n i m
 |.vptr cs post=>.vptr cs post
def gB(id ver:Nat)(t:Ty)(l:List t.D):List TV->List TV
 |[]=>[]
 |v::r=>oO id ver t l v::gB id ver t l r
end
def Qe(id ver:Nat)(t:Ty)(l:List t.D):Dv->Dv
 |.live η cs=>.live η (cs.map (NZ id ver t l))
 |e=>e
def frz(id:Nat)(env:BZ)(H:Ap):Option (BZ×Ap):=
 match H[id]? with
 |some (.buf η t l _ ver)=>δ (env.map λp=>(p.1,oO id ver t l p.2),(H.map (Qe id ver t l)).set id .dead)
 |_=>ε
def TQ(x y:Cx)(a b:List Ac):Prop:=θ b=θ a/\∀(i:Nat)(v':Ac),b[i]?=δ v'->∃v,a[i]?=δ v/\Conv x y v v'
theorem TQ.append{b f:List Ac}(c:TQ x y i T)(g:TQ x y b f):TQ x y (i++b) (T++f):=by refine⟨by simp[c.1,g.1],λa j h=>?_⟩;rcases Ax a (θ T) with d|d;rw[CT d]at h;obtain⟨v,q1,q2⟩:=c.2 a j h;grind;rw[Ci d]at h;obtain⟨v,q1,q2⟩:=g.2 _ j h;exact⟨v,by rw[Ci (by rw[<-c.1];exact d),<-c.1];exact q1,q2⟩
def TQ.later{x y:Cx}(l:x.Later y)(a:List Ac):TQ x y a a:=⟨rfl,λ_ v h=>⟨v,h,λ_ r=>r.later l⟩⟩
theorem TQ.one{b:Ac}(h:Conv x y u b):TQ x y [u] [b]:=⟨rfl,λi v a=>by
 match i,a with
 |0,a=>grind
 |i+1,a=>simp at a⟩
def TQ.agg{x y:Cx}{b a:List Ac}(h:TQ x y b a):Conv x y (.agg b) (.agg a):=by
 intro c r;cases r with
 |agg i e hr=>refine .agg (by rw[i,h.1]) e λj k d g f=>?_;obtain⟨v,q1,q2⟩:=h.2 j k g;exact q2 _ (hr j v d q1 f)
def TQ.tup{x y:Cx}{b a:List Ac}(h:TQ x y b a):Conv x y (.tup b) (.tup a):=by
 intro c r;cases r with
 |tup g hr=>refine .tup (by rw[g,h.1]) λj i d f e=>?_;obtain⟨v,q1,q2⟩:=h.2 j i f;exact q2 _ (hr j v d q1 e)
section
variable {x y:Cx}{H:Ap}{id n ver:Nat}{t:Ty}{l:List t.D} (lat:x.Later y) (hid:H[id]?=δ (.buf η t l n ver)) (hc:Conv x y (.sl id n t.sz 0 n) (.vs t.sz (l.map t.enc)))
include lat hid hc
theorem oM(e:v.ok H):TQ x y v.enc (NZ id ver t l v).enc/\Conv x y v.one (NZ id ver t l v).one:=by
 have same:∀w:Bv,TQ x y w.enc w.enc/\Conv x y w.one w.one:=λw=>⟨.later lat _,λ_ r=>r.later lat⟩
 cases v with
 |own f b h g=>simp only[NZ];split;rename_i a;simp only[BW]at a;have c:=DA a.1;have d:=DA a.2;subst c d;obtain⟨_,q⟩:=e.2 _ _ _ _ _ hid;obtain⟨rfl,rfl⟩:=q rfl;exact⟨.one hc,hc⟩;grind
 |_=>exact same _
def po:∀{a:List Bv},lok H a->TQ x y (lvs a) (lvs (a.map (NZ id ver t l)))
 |[],_=>.later lat _
 |z::r,h=>by rw[Bf,Hn,Hn];exact(oM lat hid hc (h z k!)).1.append (po λw b=>h w (by simp[b]))
mutual
theorem tc:∀{v:TV},v.ok H->Conv x y v.enc (oO id ver t l v).enc
 |.c z,h=>(oM lat hid hc (h z (by simp[TV.refs]))).2
 |.g cs,h=>(po lat hid hc h).agg
 |.tup vs,h=>TQ.tup (qo (vs:=vs) h)
 |.aptr ..,_=>λ_ r=>r.later lat
 |.bptr ..,_=>λ_ r=>r.later lat
 |.vw ..,_=>λ_ r=>r.later lat
 |.vptr ..,_=>λ_ r=>r.later lat
theorem qo:∀{vs:List TV},(TV.tup vs).ok H->TQ x y (TV.encL vs) (TV.encL (gB id ver t l vs))
 |[],_=>.later lat _
 |v::r,h=>by simp only[TV.encL,gB];have a:v.ok H:=qI h k!;have b:(TV.tup r).ok H:=RM λw c=>qI h (by simp[c]);exact(TQ.one (tc a)).append (qo b)
end
end
def tZ{l:List t.D}(c:CD F b)(d:v.ok F):(NZ N n t l v).ok b:=by
 cases v with
 |own f e h g=>simp only[NZ];split;trivial;exact c.leaf d
 |_=>exact c.leaf d
def ABR{l:List t.D}(H:CD F b)(h:lok F d):lok b (d.map (NZ N n t l)):=λz f=>by obtain⟨w,e,rfl⟩:=Bs.1 f;exact tZ H (h w e)
mutual
theorem yW{H d:Ap}{id b:Nat}{t:Ty}{l:List t.D}(a:CD H d):∀{v:TV},v.ok H->(oO id b t l v).ok d
 |.c z,h=>Ji (tZ a (h z (by simp[TV.refs])))
 |.g cs,h=>ABR a h
 |.tup vs,h=>vi a h
 |.aptr ..,h=>a.lok h
 |.bptr ..,h=>a.lok h
 |.vw ..,h=>a.lok h
 |.vptr ..,h=>a.lok h
theorem vi{H c:Ap}{id b:Nat}{t:Ty}{l:List t.D}(d:CD H c):∀{e:List TV},(TV.tup e).ok H->(TV.tup (gB id b t l e)).ok c
 |[],_=>λz i=>by simp[gB,TV.refs,TV.refsL]at i
 |v::r,h=>by have f:v.ok H:=qI h k!;have g:(TV.tup r).ok H:=RM λw a=>qI h (by simp[a]);refine RM λw a=>?_;simp only[gB]at a;rcases Aw.1 a with rfl|a;exact yW d f;exact qI (vi d g) a
end
theorem AD0{l:List t.D}(f:b[N]?=δ (.buf η t l n S)):CD b ((b.map (Qe N S t l)).set N .dead):=by
 have s:=G7 f;refine⟨k!,λj y x v h=>⟨by simpa using h.1,λro K E F u c=>?_⟩,λj e c hr=>?_,λj m h x l2 v y a=>?_,λj m _ _ _ _ _ _ _ _ a=>?_⟩;by_cases d:j=N;grind;rw[DW (λe=>d e.symm),CL]at c;cases a:b[j]? with
 |none=>grind
 |some e=>
  rw[a]at c;simp only[Bt,Ao]at c;cases e with
  |live H k=>cases H<;>simp[Qe]at c
  |dead=>cases c
  |lp=>cases c
  |mp=>cases c
  |buf H q o p r=>simp only[Qe]at c;exact h.2 _ _ _ _ _ (by rw[a,c])
 have d:j≠N:=by rintro rfl;rw[f]at c;injection c with c;subst c;cases hr
 rw[DW (λe=>d e.symm),CL,c];cases e with
 |live H k=>cases H with|true=>rfl|false=>cases hr
 |dead=>cases hr
 |buf H q o p r=>rfl
 |lp=>rfl
 |mp=>rfl
 by_cases d:j=N;grind;rw[DW (λe=>d e.symm),CL]at a;cases g:b[j]? with
 |none=>rw[g]at a;cases a
 |some e=>
  rw[g]at a;simp only[Bt,Ao]at a;cases e with
  |live H k=>cases H<;>simp[Qe]at a
  |dead=>cases a
  |lp=>cases a
  |mp=>cases a
  |buf H q o p r=>grind[Qe]
 by_cases d:j=N;grind[List.getElem?_set_self];rw[DW (λe=>d e.symm),CL]at a;cases g:b[j]? with
 |none=>rw[g]at a;cases a
 |some e=>
  rw[g]at a;simp only[Bt,Ao]at a;cases e with
  |live H k=>cases H<;>simp[Qe]at a
  |dead=>cases a
  |buf H q o p r=>cases a
  |mp=>cases a
  |lp w z G C I A B J=>injection a with _ q2 q3 q4 q5 q6 q7 _;subst q2 q3 q4 q5 q6 q7;exact⟨_,_,rfl⟩
theorem AHz{id:Nat}{env env2:BZ}{H K:Ap}(ok:No env H)(h:frz id env H=some (env2,K)):No env2 K/\CD H K/\∀N,FU N (BJ H).length (Bz env) (BJ H) (Bz env2) (BJ K):=by
 unfold frz at h;split at h;rename_i t l n i d;simp only[Ao,EX]at h;obtain⟨rfl,rfl⟩:=h;have G:=G7 d;have A:=AD0 d;have hn:n=l.length:=ok.heap _ (BN d);refine⟨⟨λp M=>?_,λe R=>?_⟩,A,λN=>?_⟩;obtain⟨q,z,rfl⟩:=Bs.1 M;exact yW A (ok.env q z);rcases QV R with R|rfl;obtain⟨k,S,rfl⟩:=Bs.1 R;have F:=ok.heap k S;cases k with
 |live b D=>
  cases b with
  |true=>exact A.lok F
  |false=>exact ABR A F
 |dead=>trivial
 |buf b Q P T U=>exact F
 |lp=>exact F
 |mp=>exact F
 trivial;have u:(BJ H)[id]?=some (.live n (t.E.cl l)):=by rw[EJ,d];rfl
 refine WA (by simp[BJ]) λX g w s=>?_;have C:∀j,(BJ ((H.map (Qe id i t l)).set id .dead))[j]?=if j=id then some .dead else(H[j]?).map λe=>(Qe id i t l e).enc:=by intro j;rw[EJ];by_cases v:j=id;subst v;rw[if_pos rfl,Gy (by simpa using G)];rfl;grind
 have back:∀(j:Nat)(e:Fk),(BJ ((H.map (Qe id i t l)).set id .dead))[j]?=some e->e≠.dead->j≠id/\∃k,(BJ H)[j]?=some k/\k≠.dead:=by
  intro j e a f;rw[C]at a;split at a;injection a with a;exact(f a.symm).elim;rename_i v;refine⟨v,?_⟩;cases z:H[j]? with
  |none=>rw[z]at a;cases a
  |some k=>
   refine⟨k.enc,by rw[EJ,z];rfl,λL=>f ?_⟩;rw[z]at a;simp only[Bt,Ao]at a;cases k with
   |live b D=>simp[Dv.enc]at L
   |dead=>exact a.symm
   |buf b Q P T U=>simp[Dv.enc]at L
   |lp=>simp[Dv.enc]at L
   |mp=>simp[Dv.enc]at L
 have y:(cx X g (BJ H) w).Later (cx X g (BJ ((H.map (Qe id i t l)).set id .dead)) w):=gl (by simp[BJ]) λj e a f=>(back j e a f).2;have hO:∀B,g.io id=some B->¬(cx X g (BJ ((H.map (Qe id i t l)).set id .dead)) w).O B:=by rintro B I (hX|⟨j,e,a,f,J⟩);exact(s.out B hX).2 ⟨id,_,u,k!,I⟩;obtain⟨v,k,Y,Z⟩:=back j e a f;exact v (s.inj j id _ _ B Y u Z k! J I)
 have o:Conv (cx X g (BJ H) w) (cx X g (BJ ((H.map (Qe id i t l)).set id .dead)) w) (.sl id n t.sz 0 n) (.vs t.sz (l.map t.enc)):=λc r=>Bx.froze s u (AH9 t.E l) (by rw[hn];exact BT _) y rfl hO r;refine⟨⟨by simp[BJ],λj e' a=>?_⟩,λtt v' m=>?_⟩;rw[C]at a;split at a;injection a with a;exact .inl a.symm;cases z:H[j]? with
 |none=>rw[z]at a;cases a
 |some k=>
  rw[z]at a;simp only[Bt,Ao]at a;have x:(BJ H)[j]?=some k.enc:=by rw[EJ,z];rfl
  cases k with
  |live b D=>
   refine .inr (.inl ?_);cases b with
   |true=>simp only[Qe,Dv.enc]at a;exact⟨0,lvs D,lvs D,x,a.symm,rfl,(TQ.later y _).2⟩
   |false=>simp only[Qe,Dv.enc]at a;obtain⟨V,W⟩:=po y d o (ok.heap _ (BN z));exact⟨0,lvs D,_,x,a.symm,V,W⟩
  |dead=>exact .inl a.symm
  |buf b Q P T U=>simp only[Qe,Dv.enc]at a;exact .inr (.inl ⟨T,Q.E.cl P,Q.E.cl P,x,a.symm,rfl,(TQ.later y _).2⟩)
  |lp=>subst a;exact .inr (.inr ⟨x,λ_ _ h=>by cases h⟩)
  |mp=>subst a;exact .inr (.inr ⟨x,λ_ _ h=>by cases h⟩)
 simp only[Bz,Og,Bs]at m;obtain⟨p,M,e⟩:=m;simp only[Function.comp,EX]at e;obtain⟨rfl,rfl⟩:=e;exact⟨p.2.enc,Bs.2 ⟨p,M,rfl⟩,tc y d o (ok.env p M)⟩;cases h
@[reducible] def DL:List Ty->Type
 |[]=>Unit
 |[t]=>t.D
 |t::u::r=>t.D×DL (u::r)
def inp:(ts:List Ty)->List TV->Option (DL ts)
 |[],[]=>δ ()
 |[t],[v]=>t.data v
 |t::u::r,v::vs=>
  match t.data v,inp (u::r) vs with
  |some x,δ y=>δ (x,y)
  |_,_=>ε
 |_,_=>ε
def xj:(ts:List Ty)->DL ts->List TV
 |[],_=>[]
 |[t],x=>[t.tv x]
 |t::u::r,x=>t.tv x.1::xj (u::r) x.2
def mm:(ts:List Ty)->DL ts->List Ac
 |[],_=>[]
 |[t],x=>[t.enc x]
 |t::u::r,x=>t.enc x.1::mm (u::r) x.2
def one:List TV->TV
 |[v]=>v
 |vs=>.tup vs
def qJ:List Ac->Ac
 |[v]=>v
 |vs=>.tup vs
def LJ(bt:Ty):(rs:List Ty)->DL (rs++[bt])->DL rs×bt.D
 |[],y=>((),y)
 |[_],y=>(y.1,y.2)
 |_::u::r,y=>((y.1,(LJ bt (u::r) y.2).1),(LJ bt (u::r) y.2).2)
inductive QJ where
 |c2 (f:FuncId) (te:Ty) (ds rs:List Ty) (post:List Ac) (g:List te.D->DL ds->Option (DL (rs++[.list te])))
 |cl (f:FuncId) (t:Ty)
 |c0 (f:FuncId) (ds rs:List Ty) (g:DL ds->Option (DL rs))
 |c1 (f:FuncId) (pos:Nat) (bt:Ty) (ds rs:List Ty) (g:bt.D->DL ds->Option (DL (rs++[bt])))
def QJ.f:QJ->FuncId
 |.c0 f .. =>f
 |.c1 f .. =>f
 |.c2 f .. =>f
 |.cl f _=>f
def fnB:Ac->Ac->Bool
 |.fn (.func F) [] [],.fn (.func G) [] []=>ξ F G
 |_,_=>η
def AHx{w:Ac}(h:fnB u w=ζ):u=w:=by unfold fnB at h;split at h<;>simp_all
def wH:List TV->List Ac->Bool
 |[],[]=>ζ
 |.c (.raw v)::r,w::s=>fnB v w&&wH r s
 |_,_=>η
def zD:∀{l:List TV}{p:List Ac},wH l p=ζ->l.map TV.enc=p
 |[],[],_=>rfl
 |[],_::_,h=>by simp[wH]at h
 |v::r,[],h=>by cases v<;>simp[wH]at h
 |v::r,w::s,h=>by unfold wH at h;split at h;rename_i e;cases e;rename_i c d;injection c with a1 a2;injection d with a b;subst a1 a2 a b;simp only[BW]at h;rw[Bf,zD h.2];exact E! (· ::_) (AHx h.1);cases h
def Vh:Nat->Ac->List Ac->List Ac
 |0,v,l=>v::l
 |n+1,v,x::l=>x::Vh n v l
 |_+1,v,[]=>[v]
def QJ.Ok(P:Program):QJ->Prop
 |.c2 f te ds rs post g=>∀l x y,g l x=δ y->(LJ (.list te) rs y).2.length=θ l->∀H id,H[id]?=δ (.live (θ l) (te.E.cl l))->
  Ea P f (.sl id (θ l) te.sz 0 (θ l)::(mm ds x++post)) H (DQ (qJ (mm rs (LJ (.list te) rs y).1)) (H.set id (.live (θ l) (te.E.cl (LJ (.list te) rs y).2))))
 |.cl f t=>∀(l:List t.D)(H:Ap),(∀e∈H,e.ok H)->(l=[]->Ea P f [.vs t.sz []] (BJ H) (DQ (.vs t.sz []) (BJ (H++[.dead]))))/\
  ∀r,l≠ []->app [] l=δ r->Ea P f [.vs t.sz (l.map t.enc)] (BJ H) (DQ (.sl (θ H) (θ r) t.sz 0 (θ r)) (BJ (H++[.buf η t r (θ r) 0])))
 |.c0 f ds rs g=>∀x y,g x=δ y->∀H,Ea P f (mm ds x) H (DQ (qJ (mm rs y)) H)
 |.c1 f pos bt ds rs g=>∀b x y,g b x=δ y->∀H id,H[id]?=δ (.live 0 (bt.enc b).cells)->Ea P f (Vh pos (.ptr id 0 0) (mm ds x)) H (DQ (qJ (mm rs (LJ bt rs y).1)) (H.set id (.live 0 (bt.enc (LJ bt rs y).2).cells)))
section
variable {R:Type}
def ABD(c:QJ)(vs:List TV)(H:Ap)(k:TV->Ap->Option R):Option R:=
 match c with
 |.c0 _ ds rs g=>match inp ds vs with|some x=>(g x).bind λy=>k (one (xj rs y)) H|none=>ε
 |.c1 _ pos bt ds rs g=>
  match vs[pos]? with
  |some (.c (.raw (.ptr id 0 0)))=>
   match H[id]? with
   |some (.live η cs)=>
    match bt.all cs,inp ds (vs.take pos++vs.drop (pos+1))with
    |some b,δ x=>(g b x).bind λy=>k (one (xj rs (LJ bt rs y).1)) (H.set id (.live η (bt.lvs (LJ bt rs y).2)))
    |_,_=>ε
   |_=>ε
  |_=>ε
 |.c2 _ te ds rs post g=>
  match vs with
  |.c (.own id ver _ _)::r=>
   match H[id]? with
   |some (.buf η t l n' ver')=>
    match ξ ver ver' with
    |true=>
     if h:(Ty.list t).beq (Ty.list te)=ζ then
      match inp ds (r.take (θ ds)),wH (r.drop (θ ds)) post with
      |some x,ζ=>(g (Ty.cast h l) x).bind λy=>
       cond (ξ (LJ (.list te) rs y).2.length n') (k (one (xj rs (LJ (.list te) rs y).1)) (H.set id (.buf η te (LJ (.list te) rs y).2 n' ver'))) ε
      |_,_=>ε
     else ε
    |false=>ε
   |_=>ε
  |_=>ε
 |.cl _ t=>
  match vs with
  |[.c (.ls te l)]=>
   if h:(Ty.list te).beq (Ty.list t)=ζ then
    cond (τ (((θ l:Nat):Int)=0)) (k (.c (.ls t [])) (H++[.dead])) ((app (α:=t.D) [] (Ty.cast h l)).bind λr=>k (.c (.own (θ H) 0 t (θ r))) (H++[.buf η t r (θ r) 0]))
   else ε
  |[.c .nil]=>k (.c (.ls t [])) (H++[.dead])
  |_=>ε
def Zs:∀(a:List Ty)(x:DL a),(xj a x).map TV.enc=mm a x
 |[],_=>rfl
 |[t],x=>by simp only[xj,mm,Bf,HQ,t.tv_enc]
 |t::u::r,x=>by simp only[xj,mm,Bf,t.tv_enc,Zs (u::r)]
theorem nT{H:Ap}:∀(b:List Ty)(x:DL b),∀v∈xj b x,v.ok H
 |[],_,v,a=>by simp[xj]at a
 |[t],x,v,a=>by simp only[xj,BA]at a;subst a;exact t.tv_ok x
 |t::u::r,x,v,a=>by simp only[xj,Aw]at a;rcases a with rfl|a;exact t.tv_ok _;exact nT (u::r) x.2 v a
def sC(a:List TV):(one a).enc=qJ (a.map TV.enc):=by
 match a with
 |[]=>rfl
 |[v]=>rfl
 |v::w::r=>simp only[one,qJ,TV.enc,tO,Bf]
def xL(h:∀v∈m,v.ok b):(one m).ok b:=by
 match m,h with
 |[],h=>exact RM h
 |[v],h=>exact h v k!
 |v::w::r,h=>exact RM h
def Ym:∀{a:List Ty}{b:List TV}{x:DL a},inp a b=δ x->Dl (b.map TV.enc) (mm a x)
 |[],[],x,h=>Dl.refl _
 |[t],[v],x,h=>Dl.one (MS h)
 |t::u::r,v::b,x,h=>by simp only[inp]at h;split at h;rename_i y z c d;injection h with h;subst h;exact(Dl.one (MS c)).append (Ym d);cases h
 |[],_::_,x,h=>by simp[inp]at h
 |[t],[],x,h=>by simp[inp]at h
 |[t],_::_::_,x,h=>by simp[inp]at h
 |_::_::_,[],x,h=>by simp[inp]at h
theorem tu:∀{n:Nat}{a:List Ac}{v:Ac}{b:List Ac},a[n]?=δ v->Dl (a.take n++a.drop (n+1)) b->Dl a (Vh n v b)
 |0,u::a,v,b,h,hl=>by simp at h;subst h;exact(Dl.one (Wf.refl u)).append hl
 |n+1,u::a,v,b,h,hl=>by
  cases b with
  |nil=>have:=hl.1;simp at this
  |cons d b=>
   have c:Wf u d:=by obtain⟨w,q1,q2⟩:=hl.2 0 d rfl;grind
   have e:Dl (a.take n++a.drop (n+1)) b:=⟨by have:=hl.1;simpa using this,λi g f=>hl.2 (i+1) g f⟩
   exact(Dl.one c).append (tu h e)
def AFt(c:QJ)(vs:List TV):List Nat:=
 match c with
 |.c0 .. =>[]
 |.c1 _ pos .. =>match vs[pos]? with|some v=>idT v|none=>[]
 |.c2 .. =>match vs[0]? with|some v=>idT v|none=>[]
 |.cl .. =>[]
def AJu(c:QJ)(vs:List TV):List TV:=
 match c with
 |.c2 .. =>vs.drop 1
 |_=>vs
def yI{c:QJ}(hc:c.Ok P){k:TV→Ap→Option R}{r:R}(hv:∀v∈m,v.ok b)(K:∀e∈b,e.ok b)(h:ABD c m b k=δ r):
  ∃v O,Ea P c.f (m.map TV.enc) (BJ b) (DQ v.enc (BJ O))/\k v O=δ r/\v.ok O/\(∀e∈O,e.ok O)/\CD b O/\Frame (AFt c m) b O:=by
 unfold ABD at h;split at h;rename_i f S A g;split at h;rename_i x hx;obtain⟨y,hy,h⟩:=Dj.1 h;refine⟨_,b,?_,h,xL (nT A y),K,CD.refl b,Frame.refl _ _⟩;rw[sC,Zs];have hl:=Ym hx;refine Ea.before (args2:=mm S x) (H2:=BJ b) hl.1 (λX g0 w s=>⟨⟨rfl,λj e' p=>?_⟩,λj Z p=>?_⟩) (hc x y hy _);cases e' with
 |dead=>exact .inl rfl
 |live g1 L=>exact .inr (.inl ⟨g1,L,L,p,rfl,rfl,λi v hi=>⟨v,hi,λ_ r=>r⟩⟩)
 |_=>exact .inr (.inr ⟨p,k!⟩)
 obtain⟨v,q1,q2⟩:=hl.2 j Z p;exact⟨v,q1,λd W=>q2 _ _ W⟩;cases h;rename_i f pos J S A g;split at h;rename_i id hp;split at h;rename_i cs o;split at h;rename_i D x hb hx;obtain⟨y,hy,h⟩:=Dj.1 h;have G:CD b (b.set id (.live η (J.lvs (LJ J A y).2))):=CD.set o rfl λ_ _ _ _ _ h=>by cases h
 refine⟨_,_,?_,h,xL (nT A _),RN G K (J.lvs_ok _),G,Frame.set (by simp only[AFt,hp];exact BA.2 rfl)⟩;rw[sC,Zs,Kx];have C:id<(BJ b).length:=by rw[CW];exact G7 o
 have hl:=Ym hx;have ap:=Fq hb;have a:Dl (m.map TV.enc) (Vh pos (.ptr id 0 0) (mm S x)):=by refine tu ?_ (by rw[<-mZ,<-eF,<-J7];exact hl);rw[CL,hp];rfl
 have H:=hc D x y hy ((BJ b).set id (.live 0 (J.enc D).cells)) id (by rw[Gy C]);rw[X1]at H;have e1:(Dv.live η (J.lvs (LJ J A y).2)).enc=.live 0 (J.enc (LJ J A y).2).cells:=by simp only[Dv.enc,J.lvs_enc]
 rw[e1];refine Ea.before a.1 (λX g0 w s=>?_) H;have ad:BJ b=(BJ b).set id (.live 0 (lvs cs)):=by
  have:(BJ b)[id]?=δ (.live 0 (lvs cs)):=by rw[EJ,o];rfl
  apply I6;intro j;by_cases F:j=id;subst F;rw[Gy C,this];rw[DW (λe=>F e.symm)]
 have ao:(cx X g0 (BJ b) w).Later (cx X g0 ((BJ b).set id (.live 0 (J.enc D).cells)) w):=by refine gl k! λj e p ar=>?_;by_cases F:j=id;subst F;exact⟨.live 0 (lvs cs),by rw[EJ,o];rfl,k!⟩;rw[DW (λe=>F e.symm)]at p;exact⟨e,p,ar⟩
 refine⟨S3.set_less C ad rfl ap ao,λj Z p=>?_⟩;obtain⟨v,q1,q2⟩:=a.2 j Z p;exact⟨v,q1,λd W=>q2 _ _ (W.later ao)⟩;cases h;cases h;cases h;rename_i f Y S A N g;split at h;rename_i id B t0 n0 r0;split at h;rename_i t l V ax o;split at h;rename_i hb;have al:=DA hb;subst al;split at h;rename_i I;have n:=Ty.beq_eq _ _ I;injection n with n;subst n;split at h;rename_i x hx hp;obtain⟨y,hy,h⟩:=Dj.1 h;have z:(Ty.cast I l:List t.D)=l:=rfl;rw[z]at hy;have hn:V=θ l:=K _ (BN o);have hr:Sp b id B t0 n0:=hv _ I3 (.own id B t0 n0) (by simp[TV.refs]);obtain⟨_,q⟩:=hr.2 _ _ _ _ _ o;obtain⟨rfl,rfl⟩:=q rfl;cases T:ξ (LJ (.list t) A y).2.length V with
 |false=>rw[T]at h;cases h
 |true=>
  rw[T]at h;have M:(LJ (.list t) A y).2.length=V:=DA T;have G:CD b (b.set id (.buf η t (LJ (.list t) A y).2 V B)):=CD.set o rfl λ_ _ _ _ _ e=>by cases e;exact⟨_,_,_,_,rfl,.inr ⟨rfl,rfl⟩⟩
  refine⟨_,_,?_,h,xL (nT A _),RN G K M.symm,G,Frame.set (by simp[AFt,idT])⟩;rw[sC,Zs,Kx];have hl:=Ym hx;have U:=zD hp;have a:Dl ((TV.c (.own id B t V)::r0).map TV.enc) (.sl id (θ l) t.sz 0 (θ l)::(mm S x++N)):=by
   rw[Bf,<-Dr (θ S) r0,J7,U];have e1:(TV.c (.own id B t V)).enc=.sl id (θ l) t.sz 0 (θ l):=by rw[<-hn];rfl
   rw[e1];rw[<-se];rw[<-se (l:=mm S x++N)];exact(Dl.refl _).append (hl.append (Dl.refl _))
  have H:=hc l x y hy (by rw[M,hn]) (BJ b) id (by rw[EJ,o,<-hn];rfl);have e2:(Dv.buf η t (LJ (.list t) A y).2 V B).enc=.live (θ l) (t.E.cl (LJ (.list t) A y).2):=by rw[<-hn];rfl
  rw[e2];refine Ea.before a.1 (λX g0 w s=>⟨⟨rfl,λj e' p=>?_⟩,λj Z p=>?_⟩) H;cases e' with
  |dead=>exact .inl rfl
  |live g1 L=>exact .inr (.inl ⟨g1,L,L,p,rfl,rfl,λi v hi=>⟨v,hi,λ_ r=>r⟩⟩)
  |_=>exact .inr (.inr ⟨p,k!⟩)
  obtain⟨v,q1,q2⟩:=a.2 j Z p;exact⟨v,q1,λd W=>q2 _ _ W⟩
 cases h;cases h;cases h;cases h;cases h;rename_i f t;have same:∀{args u:List Ac}{Q:Ac->Au->Prop},Dl args u->Ea P f u (BJ b) Q->Ea P f args (BJ b) Q:=λa H=>by
  refine Ea.before a.1 (λX g0 w s=>⟨⟨rfl,λj e' p=>?_⟩,λj Z p=>?_⟩) H;cases e' with
  |dead=>exact .inl rfl
  |live g1 L=>exact .inr (.inl ⟨g1,L,L,p,rfl,rfl,λi v hi=>⟨v,hi,λ_ r=>r⟩⟩)
  |_=>exact .inr (.inr ⟨p,k!⟩)
  obtain⟨v,q1,q2⟩:=a.2 j Z p;exact⟨v,q1,λd W=>q2 _ _ W⟩
 split at h;rename_i Y l;split at h;rename_i I;have n:=Ty.beq_eq _ _ I;injection n with n;subst n;have z:(Ty.cast I l:List Y.D)=l:=rfl;rw[z]at h;cases hz:τ (((θ l:Nat):Int)=0)with
 |true=>
  rw[hz]at h;have h0:l=[]:=by
   have:((θ l:Nat):Int)=0:=by simpa using hz
   exact EZ o!
  subst h0;refine⟨TV.c (Bv.ls Y []),b++[Dv.dead],?_,h,Ji trivial,Pe K trivial,CD.push _ _,Frame.push _ _ _⟩;exact(hc [] b K).1 rfl
 |false=>
  rw[hz]at h;have h0:l≠ []:=by rintro rfl;simp at hz
  obtain⟨r,hr,h⟩:=Dj.1 h;have e:Dv.ok (b++[.buf η Y r (θ r) 0]) (.buf η Y r (θ r) 0):=rfl;have q:=(hc l b K).2 r h0 hr;refine⟨TV.c (Bv.own (θ b) 0 Y (θ r)),b++[Dv.buf η Y r (θ r) 0],?_,h,uP,Pe K e,CD.push _ _,Frame.push _ _ _⟩;exact q
 cases h;refine⟨TV.c (Bv.ls t []),b++[Dv.dead],?_,h,Ji trivial,Pe K trivial,CD.push _ _,Frame.push _ _ _⟩;exact same (Dl.one (Wf.nil t.sz_pos)) ((hc [] b K).1 rfl);cases h
end
section
variable {P:Program}{N:Nat}{o:Oper}{env:Env}{H:Au}{K:Ac->Au->Prop}
def tW{sz:Nat}{rows:List Ac}(n:o.op=.binOp .eql a c (.const (.slice ε 0 0)) G)(E:P.underlying a=δ (.slice V))(F:BO env c=.vs sz rows)
  (C:∀b,(rows≠ []->b=η)->K (.bool b) H):JV P N o env H K:=by
 apply C3 (by rw[n];rfl);intro X h I w s Q;have l:=Dk s.env c;rw[F]at l;generalize i:I.eval c=cx0 at l;cases l with
 | @vs sz rows t cap f m D p z J=>
  have k:=run_underlying E w;have g:(execOp I.eval o).run P w=.ok (.value (.bool t.isNone)) w:=by
   unfold execOp;rw[n];have r:I.eval (.const (.slice ε 0 0))=.slice ε 0 0:=rfl;have u:(eqGuard .eql a c (.const (.slice ε 0 0)) (.slice t (θ rows) cap) (.slice ε 0 0)).run P w=.ok () w:=by unfold eqGuard;simp
   have v:(Op.equal a (.slice t (θ rows) cap) (.slice ε 0 0)).run P w=.ok t.isNone w:=by
    have y:∃d,Op.maxDepth=d+1:=⟨9999,rfl⟩
    obtain⟨d,A⟩:=y;unfold Op.equal;rw[A];cases t<;>simp[Op.equalIn,k]
   simp only[i,r,Sem.run_bind,u,Result.andThen_ok,binOp,v,Sem.run_pure]
  unfold Oper.wp;rw[g,Oper.upon_value];refine⟨_,_,h,H,rfl,C t.isNone (λj=>?_),.bool _,s.sim,G8.refl _ _ _⟩;obtain⟨B,e,q,_⟩:=z j;rw[q];rfl
def JV.clear{t e:TypeId}{x:Operand}{id g l n sz:Nat}{M z:List Ac}(ho:o.op=.call {callee:=.builtin .clear,args:= #[x],argTypes:= #[t]})(hd:o.dst=ε)(he:eI P t=δ (ε,e,sz))(bN:Rz P e=ζ)(hz:Yw P e=δ z)(W:θ z=sz)
  (hx:BO env x=.sl id g sz l n) (E:H[id]?=δ (Fk.live g M)) (a4:l+n*sz<=θ M) (hk:K (.tup []) (H.set id (.live g (Wa M l (ς n z).flatten)))):JV P N o env H K:=by
 apply C3 (by rw[ho];rfl);intro X h a w s Q;obtain⟨b1,b,hi⟩:=Qd he;obtain⟨i,zv,v,b4,a',b2⟩:=UH bN;have a2:=lg hi v;obtain⟨i',y,a0,a8,a6⟩:=eC (cx X h H w) hz;have:i'=i:=by rw[v]at a0;exact(Bg a0).symm
 subst this;have:y=zv:=by rw[a']at a8;exact(Bg a8).symm
 subst this;have A:y.cells.size=sz:=by rw[b2,a2]
 have rx:=Dk s.env x;rw[hx]at rx;have R:=run_underlying b1 w;have S:(ς n z).flatten.length=n*sz:=by simp[W]
 obtain⟨ar,ao⟩:=s.sim.live id g M E;have b0:∃ad cap,a.eval x=.slice ad n cap/\(n≠0->∃B,h.io id=δ B/\ad=δ ⟨B,l,ε⟩):=by
  generalize a.eval x=c at rx;cases rx with
  |sl h1 h2 h3 hc=>rcases hc ar with⟨_,q2,_,q4⟩|⟨B,cap,q1,_,_,q4⟩;exact⟨ε,0,by rw[q4,q2],λbG=>(bG q2).elim⟩;exact⟨_,cap,q4,λ_=>⟨B,q1,rfl⟩⟩
 obtain⟨ad,cap,Z,bb⟩:=b0;have a1:id<θ H:=by rcases Ax id (θ H) with h2|h2;exact h2;rw[Cn h2]at E;cases E
 by_cases hn:n=0;subst hn;have F:(execOp a.eval o).run P w=.ok (.value (.tuple #[])) w:=by unfold execOp;rw[ho];simp only[resolve,invoke,builtin,Sem.run_bind,Sem.run_pure,Result.andThen_ok,QT,Bf,HQ,Z,Builtin.clear_];simp[R];cases ad<;>simp
 unfold Oper.wp;rw[F,Oper.upon_value];have e1:H.set id (.live g (Wa M l (ς 0 z).flatten))=H:=by
  have:Wa M l (ς 0 z).flatten=M:=by simp[Wa]
  rw[this];apply I6;intro j;by_cases a3:j=id;subst a3;rw[Gy a1,E];rw[DW λe=>a3 e.symm]
 rw[e1]at hk;exact⟨_,_,h,H,rfl,hk,.tup rfl λ_ _ _ h=>by (cases h),s.sim,G8.refl _ _ _⟩;obtain⟨B,J,rfl⟩:=bb hn;rcases ao with⟨a5,_⟩|⟨B',Y,T,fz,f,O,hb,al,b3,ap,I⟩;rw[show(cx X h H w).io id=h.io id from rfl,J]at a5;cases a5;rw[show(cx X h H w).io id=h.io id from rfl,J]at O;injection O with e0;subst e0;have V:(Builtin.zeroCells y.cells n).size=n*sz:=by rw[Yx,A]
 have G:∀j,j<n*sz->∃d u,(Builtin.zeroCells y.cells n)[j]?=δ d/\(ς n z).flatten[j]?=δ u/\d.oneCell'=ζ/\Bx (cx X h H w) u d:=by
  intro j r;have a7:0<sz:=by rcases Vo sz with q|q;subst q;simp at r;exact q
  have hm:j%sz<y.cells.size:=by rw[A];exact X4 _ a7
  have D:y.cells[j%sz]?=δ (y.cells[j%sz]'hm):=Nr hm;have ax:∀(m j:Nat),j<m*sz->(ς m z).flatten[j]?=z[j%sz]? :=by
   intro m;induction m with
   |zero=>intro j r;omega
   |succ m ih=>intro j r;rw[mb,pK];rcases Ax j sz with bt|bl;rw[CT o!,S8 bt];rw[Ci o!,W,ih (j-sz) (by rw[EI]at r;omega),<-Nat.mod_eq_sub_mod bl]
  have a9:z[j%sz]?=δ (z[j%sz]'(by rw[W];exact X4 _ a7)):=Ar _;have U:(Builtin.zeroCells y.cells n)[j]?=δ (y.cells[j%sz]'hm):=by
   unfold Builtin.zeroCells;rw[be,Array.getElem?_range,C! (by rw[A];exact r)];have bz:j%y.cells.size<y.cells.size:=by rw[A];rw[A]at hm;exact hm
   rw[Bt,getElem!_pos y.cells _ bz];simp only[A]
  cases a6 with
  |agg q1 q2 q3=>exact⟨_,_,U,by rw[ax n j r,a9],q2 _ _ D,q3 _ _ _ a9 D⟩
 obtain⟨w',L,p1,p2,p3,p4,p5,p6,p7,p8,p9⟩:=U4 (P:=P) (off:=l) (Builtin.zeroCells y.cells n).toList 0 Y w hb (by simp[V];omega) ap (λd hd=>by
  obtain⟨j,r⟩:=DU hd;have bm:j<n*sz:=by rw[<-V];have:=(EP.1 r).1;simpa using this
  obtain⟨d',u,q1,_,q3,_⟩:=G j bm;rw[Pf]at r;rw[r]at q1;injection q1 with q1;rw[q1];exact q3)
 have F:(execOp a.eval o).run P w=.ok (.value (.tuple #[])) w':=by
  unfold execOp;rw[ho];simp only[resolve,invoke,builtin,Sem.run_bind,Sem.run_pure,Result.andThen_ok,QT,Bf,HQ,Z,Builtin.clear_];have b5:∀(α:Type)(p q:α),(match n with|0=>p|_+1=>q)=q:=by
   intro α p q;cases n with
   |zero=>exact(hn rfl).elim
   |succ m=>rfl
  obtain⟨m,rfl⟩:∃m,n=m+1:=⟨n-1,o!⟩
  simp[R,zeroValue,typeInfo,v,a'];rw[p1];rfl
 have hh:Holds (cx X h H w) (Wa M l (ς n z).flatten) L fz:=by
  refine⟨λj=>if l<=j/\j<l+n*sz then(Builtin.zeroCells y.cells n).getD (j-l) undef else f j,by rw[ka (by rw[S];exact a4)];omega,by rw[p3];exact ap,λj u r=>?_⟩;rw[uc (by rw[S];exact a4),S]at r;rw[p4];simp only[Ol,Dx,V,Pf];split at r;rename_i C;rw[C! C,C! C];obtain⟨d,u',q1,q2,q3,q4⟩:=G (j-l) o!;rw[q2]at r;injection r with r;subst r;have e:(Builtin.zeroCells y.cells n).getD (j-l) undef=d:=by rw[QZ,q1];rfl
  rw[e];exact⟨q1,q3,q4⟩;rename_i C;rw[D! C,D! C];exact I j u r
 obtain⟨q1,q2⟩:=s.sim.upd (g':=g) (B:=B) (arr:=L) (T:=T) (fz:=fz) (w':=w') E (An _) (λ_=>⟨J,by rw[p3];exact al.symm⟩) (.inl J) p2 (λk _ hk=>p5 k hk) p6 p7 p8 (by rw[p9];exact An _) hh;unfold Oper.wp;rw[F,Oper.upon_value];exact⟨_,_,_,_,rfl,hk,.tup rfl λ_ _ _ h=>by (cases h),q1,q2⟩
def rV(k:o.op=.call {callee:=.builtin .clear,args:= #[c],argTypes:= #[a]})(m:P.underlying a=δ (.slice G))
  (t:BO env c=.vs n []) (l:K (.tup []) H):JV P N o env H K:=by
 apply C3 (by rw[k];rfl);intro X h x w s Q;have j:=Dk s.env c;rw[t]at j;have d:=run_underlying m w;have i:∃f cap,x.eval c=.slice f 0 cap:=by
  generalize x.eval c=e at j;cases j with
  |vs=>exact⟨_,_,rfl⟩
 obtain⟨f,cap,g⟩:=i;have b:(execOp x.eval o).run P w=.ok (.value (.tuple #[])) w:=by unfold execOp;rw[k];simp only[resolve,invoke,builtin,Sem.run_bind,Sem.run_pure,Result.andThen_ok,QT,Bf,HQ,g,Builtin.clear_];simp[d];cases f<;>simp
 unfold Oper.wp;rw[b,Oper.upon_value];exact⟨_,_,h,H,rfl,l,.tup rfl λ_ _ _ h=>by (cases h),s.sim,G8.refl _ _ _⟩
end
def Wg(P:Program)(N:Nat)(ops:Array Oper):List Oper->Env->Au->(Env->Au->Prop)->Prop
 |[],env,H,Q=>∃env1 H1,FU N (θ H) env H env1 H1/\Q env1 H1
 |o::rest,env,H,Q=>∃env1 H1,FU N (θ H) env H env1 H1/\
  Xw ops o.guard env1 (JV P N o env1 H1 λv H'=>Wg P N ops rest (env1.putO o.dst v) H' Q) (Wg P N ops rest (env1.putO o.dst (.tup [])) H1 Q)
def Wg.weak{N:Nat}{Q:Env->Au->Prop}{env1:Env}{H e:Au}(w:FU N (θ H) s H env1 e):∀{os:List Oper},Wg P N j os env1 e Q->Wg P N j os s H Q
 |[],h=>by obtain⟨c,b,d,q⟩:=h;exact⟨c,b,w.trans (d.of_le w.1),q⟩
 |o::os,h=>by obtain⟨c,b,d,q⟩:=h;exact⟨c,b,w.trans (d.of_le w.1),q⟩
theorem tX{r:Option Nat}{C:Exit→Act→World→Prop}{Q:Env→Au→Prop}:
  ∀(l:List Nat)(os:List Oper),l.map (j[·]?)=os.map δ->∀(env:Env)(H:Au)(h:Gh)(a:Act)(w:World),Oz N os=ζ->Wg P N j os env H Q->St B h N env H a w->(∀f n y u q,Q f n->St B y N f n u q->G8 h H w y n q->u.defers=a.defers->C .normal u q)->wpOpsIn (FR r) 0 P j C l a w:=by
 intro l;induction l with
 |nil=>
  intro os d env H h a w _ hr s z;have:os=[]:=t!
  subst this;obtain⟨env1,A,b,hr⟩:=hr;obtain⟨x,e,E,d⟩:=b.2 B h a w s;exact z env1 A x a w hr e (FU.ext rfl b.1 E d (G8.refl h H w)) rfl
 |cons i l L=>
  intro os d env H h a w T hr s z;match os,d with
  |o::os,d=>
   simp at d;obtain⟨O,m⟩:=d;simp only[wpOpsIn,O];have g:∀t,o.dst=δ t->t<a.tmps.size:=by intro t Y;simp only[Oz]at T;rw[s.size];grind
   have p:Oz N os=ζ:=by simp_all[Oz]
   obtain⟨env1,A,b,hr⟩:=hr;obtain⟨x,e,E,d⟩:=b.2 B h a w s;have M:=FU.ext rfl b.1 E d (G8.refl h H w);rcases ya e.env hr with⟨J,R⟩|⟨J,S⟩;rw[C! J];refine Oper.wpIn_mono ?_ (R r B x a w e C);rintro u q ⟨c,v,y,n,rfl,k,W,V,K⟩;have U:=K.later B;apply L os m _ n y _ q p k ⟨V,OZ.putO (e.env.later U) g W,(dt _ _ _).trans e.size⟩;intro env2 X m a2 G q2 F I D;exact z env2 X m a2 G q2 F (M.trans (K.trans I)) (D.trans (by cases o.dst<;>rfl));rw[D! q!];refine⟨λ_ _=>O!,L os m _ A x _ w p S ⟨e.sim,OZ.putO e.env g (.tup rfl λ_ _ _ h=>by cases h),(dt _ _ _).trans e.size⟩ ?_⟩;intro env2 X m a2 G q2 F I D;exact z env2 X m a2 G q2 F (M.trans I) (D.trans (by cases o.dst<;>rfl))
theorem Fp{N:Nat}{H:Au}{Q:Exit->Env->Au->Prop}{id:Nat}{b:Array Oper}(i:Oz N b.toList=ζ)(h:Wg P N b b.toList s H (Q .normal)):Jg P N (.region id b η) s H Q:=by intro r X g a w n _;refine wpIn_region (tX (List.range b.size) b.toList ?_ s H g a w i h n ?_);apply I6;grind;intro c d f l m q j k e;exact⟨f,c,d,q,j,k,.same e⟩
open Go.MapKept (IsKey)
def P0{α:Type}(n:Int)(v:α):List (Int×α)->List (Int×α)
 |[]=>[(n,v)]
 |p::r=>bif p.1==n then(n,v)::r else p::P0 n v r
def LD{α:Type}(n:Int):List (Int×α)->Option α
 |[]=>ε
 |p::r=>bif p.1==n then δ p.2 else LD n r
def yy{a c:Type}(f:a->c)(n:Int)(v:a):∀b:List (Int×a),(P0 n v b).map (λp=>(p.1,f p.2))=P0 n (f v) (b.map λp=>(p.1,f p.2))
 |[]=>rfl
 |p::r=>by simp only[P0,Bf];cases p.1==n<;>simp[yy f n v r]
def uN{b c:Type}(f:b->c)(n:Int):∀a:List (Int×b),LD n (a.map λp=>(p.1,f p.2))=(LD n a).map f
 |[]=>rfl
 |p::r=>by simp only[LD,Bf];cases p.1==n<;>simp[uN f n r]
section
variable {X:Nat->Prop}{h:Gh}{H:Au}{w:World}
def I1.of_extM{a:Gh}{d:World}(s:I1 X h H w)(k:G8 h H w a p d)
  (key:∀(id:Nat)(e:Fk),p[id]?=δ e->e≠.dead->(H[id]?=δ e/\a.gen id=h.gen id/\a.io id=h.io id/\a.cap id=h.cap id/\∀B,h.io id=δ B->d.heap[B]?=w.heap[B]?)\/(e.isB=ζ/\BAt a d id e))
  (inj:∀(id b:Nat)(e g:Fk)(B:Nat),p[id]?=δ e->p[b]?=δ g->e≠.dead->g≠.dead->a.io id=δ B->a.io b=δ B->id=b):I1 X a p d:=
 s.of_ext' k (λi e j f=>(key i e j f).imp id λh=>.inr (.inr h)) inj
theorem I1.push_m(s:I1 X h H w)(o:Obj)(cap:Nat)(E:Fk)(u:E.isB=ζ)
  (t:BAt (h.at_ (θ H) (δ w.heap.size) 0 cap) {w with heap:=w.heap.push o} (θ H) E):
  I1 X (h.at_ (θ H) (δ w.heap.size) 0 cap) (H++[E]) {w with heap:=w.heap.push o}:=by
 refine s.of_extM (G8.push o cap E) (λid e d g=>?_) λid q e r B m n b c k l=>?_;rcases Iz d with⟨a,d⟩|⟨rfl,rfl⟩;refine .inl ⟨d,by simp[Gh.at_,Bl a],by simp[Gh.at_,Bl a],by simp[Gh.at_,Bl a],λB f=>?_⟩;have:=s.io_at d g f;grind;grind;rcases Iz m with⟨l1,i⟩|⟨rfl,_⟩<;>rcases Iz n with⟨l2,j⟩|⟨rfl,_⟩;exact s.inj _ _ _ _ B i j b c (by simpa[Gh.at_,Bl l1]using k) (by simpa[Gh.at_,Bl l2]using l);have p:=s.io_at i b (by simpa[Gh.at_,Bl l1]using k);grind[Gh.at_];have p:=s.io_at j c (by simpa[Gh.at_,Bl l2]using l);grind[Gh.at_];rfl
def I1.setM(s:I1 X h H w){E E':Fk}{o o':Obj}{w':World}(g:H[N]?=δ E)(J:E.isB=ζ)(v:E'.isB=ζ)(m:h.io N=δ n)(K:w.heap[n]?=δ o)(A:∀r,o≠.loop r)
  (G:w'.heap=w.heap.setIfInBounds n o') (C:w'.os=w.os) (O:w'.tape=w.tape) (M:w'.output=w.output) (x:BAt h w' N E'):
  I1 X h (H.set N E') w'/\G8 h H w h (H.set N E') w':=by
 have d:N<θ H:=by rcases Ax N (θ H) with f|f;exact f;rw[Cn f]at g;cases g
 have b:E≠.dead:=by rintro rfl;cases J
 have B:∀k,k≠n->w'.heap[k]?=w.heap[k]? :=λk h=>by rw[G];simp[On h]
 have own:∀k,owned h (H.set N E') k->owned h H k:=by rintro k ⟨i,e,j,c,f⟩;rcases JU d j with⟨y,a⟩|⟨rfl,_⟩;exact⟨i,e,a,c,f⟩;exact⟨i,E,g,b,f⟩
 have I:G8 h H w h (H.set N E') w':=by refine⟨C,O,M,by rw[G];simp,λk _ hn=>B k λe=>hn ⟨N,E,g,b,by rw[e];exact m⟩,k!,λ_ _=>An _,λ_ _ _=>⟨rfl,rfl⟩,λk B=>.inl (own k B),λk r hr=>⟨r,?_⟩⟩;refine(B k λe=>?_).trans hr;subst e;rw[K]at hr;injection hr with hr;exact A r hr
 refine⟨s.of_extM I (λi e j c=>?_) (λi D e F k j f p q t u=>?_),I⟩;rcases JU d j with⟨y,a⟩|⟨rfl,rfl⟩;refine .inl ⟨a,rfl,rfl,rfl,λk z=>B k λe=>?_⟩;subst e;exact y (s.inj i N _ _ k a g c b z m);exact .inr ⟨v,x⟩;rcases JU d j with⟨y,a⟩|⟨rfl,rfl⟩<;>rcases JU d f with⟨L,l⟩|⟨rfl,rfl⟩;exact s.inj i D e F k a l p q t u;exact s.inj i D e E k a g p b t u;exact s.inj i D E F k g l b q t u;rfl
end
def nF{k:IntKind}{n:Int}:∀(l:List MapEntry)(a:List (Int×Ac))(i:Nat),θ l=θ a→(∀(j:Nat)(p:Int×Ac),a[j]?=δ p→ ∃e:MapEntry,l[j]?=δ e∧e.key=.int k p.1)→
  (Instr.findNow (.int k) (.int k n) l i=δ ε/\LD n a=ε/\∀v,P0 n v a=a++[(n,v)])\/∃j e p,Instr.findNow (.int k) (.int k n) l i=δ (δ (i+j,e.val))/\l[j]?=δ e/\a[j]?=δ p/\e.key=.int k n/\LD n a=δ p.2/\∀v,P0 n v a=a.set j (n,v)
 |[],[],_,_,_=>.inl ⟨rfl,rfl,λ_=>rfl⟩
 |[],_::_,_,hl,_=>by simp at hl
 |_::_,[],_,hl,_=>by simp at hl
 |e::l,p::a,i,hl,h=>by
  obtain⟨z,o,r⟩:=h 0 p rfl;simp only[ba,Ao]at o;subst o;have m:Instr.sameNow (.int k) (.int k n) e.key=δ (n==p.1):=by rw[r];simp[Instr.sameNow]
  by_cases hn:p.1=n;refine .inr ⟨0,e,p,?_,rfl,rfl,by rw[r,hn],?_,λv=>?_⟩;simp[Instr.findNow,m,hn];simp[LD,hn];simp[P0,hn];have c:(n==p.1)=η:=by simp;exact λe=>hn e.symm
  have b:(p.1==n)=η:=by simpa using hn
  rcases nF (k:=k) (n:=n) l a (i+1) (by simpa using hl) (λj q x=>by simpa using h (j+1) q (by simpa using x))with⟨d,f,g⟩|⟨j,s,y,d,f,g,t,u,w⟩;exact .inl ⟨by simp[Instr.findNow,m,c,d],by simp[LD,b,f],λv=>by simp[P0,b,g]⟩;exact .inr ⟨j+1,s,y,by simp[Instr.findNow,m,c,d];omega,by simpa using f,by simpa using g,t,by simp[LD,b,u],λv=>by simp[P0,b,w]⟩
section
variable {P:Program}{N:Nat}{o:Oper}{env:Env}{H:Au}{K:Ac->Au->Prop}
def JV.makeMap(k:IntKind)(c:o.op=.makeMap a ε)(e:K (.mp (θ H)) (H++[.mp k []])):JV P N o env H K:=by
 apply C3 (by rw[c];rfl);intro X h t w s Q;have b:(execOp t.eval o).run P w=.ok (.value (.map (δ w.heap.size))) {w with heap:=w.heap.push (.map #[] 0)}:=by unfold execOp;rw[c];rfl
 unfold Oper.wp;rw[b,Oper.upon_value];refine⟨_,_,_,_,rfl,e,?_,s.sim.push_m (.map #[] 0) 0 (.mp k []) rfl ⟨w.heap.size, #[],by simp[Gh.at_],by simp[Gh.at_],k!,rfl,λj p d=>by simp at d⟩,G8.push _ _ _⟩;exact .mp (by simp[cx]) rfl λ_=>⟨w.heap.size,by simp[cx,Gh.at_],rfl⟩
def AEK(s:St B h N env H L w)(u:BO env c=.mp n)(r:H[n]?=δ (.mp z I)):
  ∃(X:Nat)(b:Array MapEntry),L.eval c=.map (δ X)/\h.io n=δ X/\h.gen n=0/\w.heap[X]?=δ (.map b b.size)/\b.size=θ I/\∀(j:Nat)(p:Int×Ac),I[j]?=δ p->∃e:MapEntry,b[j]?=δ e/\e.born=j/\e.key=.int z p.1/\∀c,Bx c p.2 e.val:=by
 have g:=Dk s.env c;rw[u]at g;obtain⟨X,b,i,l,m,x,o⟩:=s.sim.bld n _ r rfl;generalize L.eval c=a at g;cases g with
 |mp t y q=>obtain⟨v,d,rfl⟩:=q l;rw[show(cx B h H w).io n=h.io n from rfl,i]at d;injection d with d;subst d;exact⟨X,b,rfl,i,l,m,x,o⟩
def AD5(s:St X h N env H L w)(d:BO env c=.int z E):L.eval c=.int z E:=by have b:=Dk s.env c;rw[d]at b;generalize L.eval c=a at b;cases b;rfl
theorem JV.mapUpdate{t U et:TypeId}{m I A:Operand}{id:Nat}{k:IntKind}{es:List (Int×Ac)}{n:Int}{v:Ac}(S:o.op=.mapUpdate t m I A)(hm:BO env m=.mp id)(G:BO env I=.int k n)
  (hp:∀(x:Cx)(c:Value),Bx x (BO env A) c->∀y,Bx y v c) (T:P.underlying t=δ (.map U et)) (l:P.underlying U=δ (.int k)) (E:H[id]?=δ (.mp k es)) (R:K .any (H.set id (.mp k (P0 n v es)))):JV P N o env H K:=by
 apply C3 (by rw[S];rfl);intro X h a w s Q;obtain⟨B,b,q1,q2,q3,q4,q5,q6⟩:=AEK s hm E;have V:=AD5 s G;have W:=hp _ _ (Dk s.env A);generalize u:a.eval A=c at W;have al:id<θ H:=q!
 have f:IsKey (.int k) (.int k n):=rfl;have q:B<w.heap.size:=(bc.1 q4).1;have z:execOp a.eval o=(do Instr.mapUpdate t (a.eval m) (a.eval I) (a.eval A);pure .skip):=by unfold execOp;rw[S]
 rcases nF (n:=n) (k:=k) b.toList es 0 q! (λj p d=>by obtain⟨e,Z,_,C,_⟩:=q6 j p d;exact⟨e,q!,C⟩)with⟨D,M,O⟩|⟨j,Y,p0,D,M,O,h4,h5,h6⟩;have g:(execOp a.eval o).run P w=.ok .skip {w with heap:=w.heap.setIfInBounds B (.map (b.push {key:=.int k n,val:=c,born:=b.size}) (b.size+1))}:=by rw[z,q1,V,u];simp[Instr.mapUpdate,run_underlying T,MapKept.run_getObj_map q4,MapKept.run_checkKey l f,MapKept.run_findKey l D,MapKept.run_setObj_map _ q4]
 unfold Oper.wp;rw[g,Oper.upon_skip];obtain⟨J,L⟩:=s.sim.setM (E':=.mp k (P0 n v es)) (o':=.map (b.push {key:=.int k n,val:=c,born:=b.size}) (b.size+1))
  (w':={w with heap:=w.heap.setIfInBounds B (.map (b.push {key:=.int k n,val:=c,born:=b.size}) (b.size+1))}) E rfl rfl q2 q4 (λr e=>by cases e) rfl rfl rfl rfl (by refine⟨B,b.push {key:=.int k n,val:=c,born:=b.size},q2,q3,by simp[q],q!,λj p d=>?_⟩;rw[O]at d;rcases QX j (θ es) with ar|rfl|ad;grind;rw[Ci (An _),Gp]at d;simp only[ba,Ao]at d;subst d;exact⟨{key:=.int k n,val:=c,born:=b.size},q!,q5,rfl,W⟩;rw[Cn w!]at d;cases d)
 exact⟨_,_,_,_,rfl,R,.any _,J,L⟩;have d:b[j]?=δ Y:=by simpa using M
 have ap:j<b.size:=(bc.1 d).1;have g:(execOp a.eval o).run P w=.ok .skip {w with heap:=w.heap.setIfInBounds B (.map (b.modify j λe=>{e with key:=.int k n,val:=c}) b.size)}:=by rw[z,q1,V,u];simp[Instr.mapUpdate,run_underlying T,MapKept.run_getObj_map q4,MapKept.run_checkKey l f,MapKept.run_findKey l D,d,h4,MapKept.run_keyThatStays f,MapKept.run_setObj_map _ q4]
 unfold Oper.wp;rw[g,Oper.upon_skip];obtain⟨J,L⟩:=s.sim.setM (E':=.mp k (P0 n v es)) (o':=.map (b.modify j λe=>{e with key:=.int k n,val:=c}) b.size)
  (w':={w with heap:=w.heap.setIfInBounds B (.map (b.modify j λe=>{e with key:=.int k n,val:=c}) b.size)}) E rfl rfl q2 q4 (λr e=>by cases e) rfl rfl rfl rfl (by refine⟨B,b.modify j λe=>{e with key:=.int k n,val:=c},q2,q3,by simp[q],q!,λi p F=>?_⟩;rw[h6,TY]at F;split at F;grind;rename_i ao;obtain⟨e,Z,C⟩:=q6 i p F;exact⟨e,q!,C⟩)
 exact⟨_,_,_,_,rfl,R,.any _,J,L⟩
def ABu(P:Program)(t:TypeId):Option Ac:=
 match (P.info? t).bind (·.zero)with
 |some (.agg cs)=>if cs.toList.all (·.oneCell')then δ (.agg (cs.toList.map qh))else ε
 |some (.bool b)=>δ (.bool b)
 |_=>ε
theorem AC1(h:ABu P a=δ u)(w:World):∃v,(zeroValue a).run P w=.ok v w/\∀x,Bx x u v:=by unfold ABu at h;split at h;rename_i d t;split at h;rename_i e;obtain⟨i,c,t⟩:=Dj.1 t;refine⟨.agg d,by simp[zeroValue,typeInfo,c,t],λx=>?_⟩;have:=yO x (.agg d);grind[ACK];cases h;rename_i b t;obtain⟨i,c,t⟩:=Dj.1 t;injection h with h;subst h;exact⟨.bool b,by simp[zeroValue,typeInfo,c,t],λx=>.bool b⟩;cases h
theorem JV.lookup{id:Nat}{k:IntKind}{es:List (Int×Ac)}{n:Int}{z:Ac}{g:Bool}(T:o.op=.lookup a c J g)(hm:BO env c=.mp id)(t:BO env J=.int k n)
  (U:P.underlying a=δ (.map V G)) (f:P.underlying V=δ (.int k)) (hz:ABu P G=δ z) (he:H[id]?=δ (.mp k es))
  (hk:K (bif g then .tup [(LD n es).getD z,.bool (LD n es).isSome]else(LD n es).getD z) H):JV P N o env H K:=by
 apply C3 (by rw[T];cases g<;>rfl);intro X h m w s Q;obtain⟨B,q,q1,q2,q3,q4,q5,q6⟩:=AEK s hm he;have Y:=AD5 s t;have i:IsKey (.int k) (.int k n):=rfl;have y:execOp m.eval o=(do pure (.value (<-Instr.lookup a (m.eval c) (m.eval J) g))):=by unfold execOp;rw[T]
 have x:∀(O:Value)(v:Ac)(b:Bool),(execOp m.eval o).run P w=.ok (.value (bif g then .tuple #[O,.bool b]else O)) w→Bx (cx X h H w) v O→K (bif g then .tup [v,.bool b]else v) H→
   Oper.wp P o m w (λZ L=>∃O v E C,Z=m.put o.dst O/\K v C/\Bx (cx X E C L) v O/\I1 X E C L/\G8 h H w E C L) Q:=by
  intro O v b A I hK;unfold Oper.wp;rw[A,Oper.upon_value];refine⟨_,_,h,H,rfl,hK,?_,s.sim,G8.refl _ _ _⟩;cases g;exact I;refine .tup k! λj u d l S=>?_;rcases j with _|_|j;grind;simp at l S;subst l S;exact .bool b;grind
 rcases nF (n:=n) (k:=k) q.toList es 0 q! (λj p l=>by obtain⟨e,r,_,D,_⟩:=q6 j p l;exact⟨e,q!,D⟩)with⟨F,h2,R⟩|⟨j,M,W,F,h2,R,h4,h5,h6⟩;obtain⟨v,I,hr⟩:=AC1 hz w;refine x v z η ?_ (hr _) q!;rw[y,q1,Y];cases g<;>simp[Instr.lookup,run_underlying U,MapKept.run_getObj_map q4,MapKept.run_checkKey f i,MapKept.run_findKey f F,I];obtain⟨e',r,_,_,D⟩:=q6 j W R;have l:q[j]?=δ M:=q!
 rw[l]at r;injection r with r;subst r;refine x M.val W.2 ζ ?_ (D _) q!;rw[y,q1,Y];cases g<;>simp[Instr.lookup,run_underlying U,MapKept.run_getObj_map q4,MapKept.run_checkKey f i,MapKept.run_findKey f F]
theorem JV.range{id:Nat}{k:IntKind}{es:List (Int×Ac)}(d:o.op=.range a c)(j:BO env c=.mp id)(l:P.underlying a=δ (.map G V))(g:H[id]?=δ (.mp k es))
  (i:K (.itp (θ H) id) (H++[.it (θ es) []])):JV P N o env H K:=by
 apply C3 (by rw[d];rfl);intro X h n w s Q;obtain⟨B,e,q1,q2,q3,q4,q5,q6⟩:=AEK s j g;have t:id<θ H:=q!
 have b:(execOp n.eval o).run P w=.ok (.value (.pointer (δ ⟨w.heap.size,0,ε⟩))) {w with heap:=w.heap.push (.mapIter (δ B) (θ es) #[] (θ es))}:=by unfold execOp;rw[d];simp only[q1];simp[Instr.range,run_underlying l,MapKept.run_getObj_map q4,newObj,q5];rfl
 unfold Oper.wp;rw[b,Oper.upon_value];refine⟨_,_,_,_,rfl,i,?_,s.sim.push_m (.mapIter (δ B) (θ es) #[] (θ es)) B (.it (θ es) []) rfl ⟨w.heap.size,by simp[Gh.at_],by simp[Gh.at_],by simp[Gh.at_]⟩,G8.push _ _ _⟩;exact .itp (by simp[cx]) (by simp[cx];omega) rfl λ_=>⟨w.heap.size,by simp[cx,Gh.at_],rfl,λ_=>by simp[cx,Gh.at_,Bl t,q2]⟩
def AHA{m:Nat}(s:St B h N env H L w)(F:BO env c=.itp S m)(D:H[S]?=δ (.it n M))(C:H[m]?=δ (.mp z I)):
  ∃(x f:Nat)(b:Array MapEntry),L.eval c=.pointer (δ ⟨x,0,ε⟩)/\h.io S=δ x/\h.gen S=0/\w.heap[x]?=δ (.mapIter (δ f) n M.toArray n)/\h.cap S=f/\w.heap[f]?=δ (.map b b.size)/\b.size=θ I/\∀(j:Nat)(p:Int×Ac),I[j]?=δ p->∃e:MapEntry,b[j]?=δ e/\e.born=j/\e.key=.int z p.1/\∀c,Bx c p.2 e.val:=by
 have l:=Dk s.env c;rw[F]at l;obtain⟨x,o,q,r⟩:=s.sim.bld S _ D rfl;obtain⟨f,b,t,u,v,y,X⟩:=s.sim.bld m _ C rfl;generalize L.eval c=k at l;cases l with
 |itp E J a A=>obtain⟨G,g,rfl,d⟩:=A q;rw[show(cx B h H w).io S=h.io S from rfl,o]at g;injection g with g;subst g;have d:=d u;rw[show(cx B h H w).io m=h.io m from rfl,t]at d;injection d with d;have d:f=h.cap S:=d;subst d;exact⟨x,_,b,rfl,o,q,r,rfl,v,y,X⟩
theorem JV.next{x:Operand}{id m:Nat}{k:IntKind}{es:List (Int×Ac)}{seen:List Nat}(ho:o.op= .next x false)(hx:BO env x= .itp id m)(f:H[id]? =some (.it es.length seen))(he:H[m]? =some (.mp k es))
  (z:(∀j,j<es.length->j∈seen)->K (.tup [.bool false]) H)
  (C: ∀(j:Nat) (p:Int×Ac),es[j]? =some p->j∉seen->K (.tup [.bool true,.int k p.1,p.2]) (H.set id (.it es.length (seen++[j])))):JV P N o env H K:=by
 apply C3 (by rw[ho];rfl);intro X h a w s Q;obtain⟨B,v,c,q1,q2,q3,q4,qc,q5,q6,q7⟩:=AHA s hx f he;have ap:execOp a.eval o=(do pure (.value (<-Instr.next (a.eval x) false o.type))):=by unfold execOp;rw[ho]
 have y: ∀(j:Nat) (e:MapEntry),c[j]? =some e->e.born=j/\j<es.length:=by
  intro j e q;have I:j<es.length:=by grind[Array.getElem?_eq_some_iff]
  obtain⟨e',E,T,_⟩:=q7 j _ (Ar I);rw[q]at E;injection E with E;subst E;exact⟨T,I⟩
 have t: ∀e∈c.toList,e.born<es.length:=λe A=>by grind[List.getElem?_of_mem]
 have M:w.heap[B]? =some (.mapIter (some v) es.length seen.toArray es.length):=q4;generalize V:Array.filter (λe:MapEntry=>!seen.toArray.contains e.born) c=L;have G: ∀e∈L.toList,e∈c.toList/\e.born∉seen:=λe A=>by rw[<-V]at A;simpa using A
 have E:L.filter (λx=>decide (x.born<es.length))=L:=Array.filter_eq_self.2 (λx hx=>by simpa using t x (G x (by simpa using hx)).1);have T:L.filter (λx=>decide (x.born>=es.length))= #[]:=by grind[Array.filter_eq_empty_iff]
 have D:(Instr.next (.pointer (some ⟨B,0,none⟩)) false o.type).run P w=((do
   let b:=(if L.isEmpty then #[none]else #[])++L.map some;match b[<-choose (.mapNext b.size)]? with
   |some (some e)=>
    setObj B (.mapIter (some v) es.length (seen.toArray.push e.born) c.size)
    pure (.tuple #[.bool true,e.key,e.val])
   |some none=>pure (.tuple #[.bool false])
   |none=>stuck "Next: no such candidate"):Sem Value).run P w:=by
  simp only[Instr.next,getObj,Sem.run_bind,Sem.run,M,q5,Result.andThen,next_test_false seen.toArray c es.length es.length t (An _),Pg,if_false,V,E,T,Array.append_empty];rfl
 by_cases h0:L.size=0;have W:L= #[]:=sX h0;subst W;have g:(execOp a.eval o).run P w= .ok (.value (.tuple #[.bool false])) w:=by simp_all[Sem.run_bind,Sem.run,Question.forced]
 unfold Oper.wp;rw[g,Oper.upon_value];refine⟨_,_,h,H,rfl,z λj q=>?_,.tup k! λi u d f n=>?_,s.sim,G8.refl _ _ _⟩;obtain⟨e,O,R,_⟩:=q7 j _ (Ar q);rcases Classical.em (j∈seen)with U|U;exact U;have:e∈(Array.filter (λe:MapEntry=>!seen.toArray.contains e.born) c).toList:=by have A:e∈c:=vH O;simp[A,R,U]
 rw[V]at this;simp at this;rcases i with _|i;simp at f n;subst f n;exact .bool false;simp at f;have ax:L.isEmpty=false:=by simp[Array.isEmpty,h0]
 obtain⟨i,l,ar,Y,Z,ad,al,ao⟩: ∃(i:Nat) (l:World),i<L.size/\l.heap=w.heap/\l.os=w.os/\l.output=w.output/\l.tape=w.tape/\(choose (Question.mapNext L.size)).run P w= .ok i l:=by by_cases hf:L.size<=1;exact⟨0,w,o!,rfl,rfl,rfl,rfl,by simp[choose,Sem.run,Question.forced,hf]⟩;exact⟨_,w.drew,X4 _ o!,rfl,rfl,rfl,rfl,by simp only[choose,Sem.run,Question.forced,decide_eq_true_eq,hf,if_false,Question.cut];rfl⟩
 have A:L[i]∈L.toList:=k!
 obtain⟨m1,m2⟩:=G _ A;obtain⟨j,q⟩:=DU m1;have q:c[j]? =some L[i]:=by simpa using q
 obtain⟨O,R⟩:=y j _ q;obtain⟨e,S,c2,c3,c4⟩:=q7 j _ (Ar R);rw[q]at S;injection S with S;subst S;have F:B<w.heap.size:=(bc.1 q4).1;have g:(execOp a.eval o).run P w= .ok (.value (.tuple #[.bool true,.int k es[j].1,L[i].val])) {l with heap:=w.heap.setIfInBounds B (.mapIter (some v) es.length (seen++[j]).toArray es.length)}:=by
  rw[ap,q1,Sem.run_bind,D];simp only[ax,Pg,if_false,Array.empty_append,Array.size_map,Sem.run_bind,ao,Result.andThen_ok,be,Nr ar,Bt];have J:(setObj B (.mapIter (some v) es.length (seen.toArray.push L[i].born) c.size)).run P l= .ok () {l with heap:=w.heap.setIfInBounds B (.mapIter (some v) es.length (seen++[j]).toArray es.length)}:=by simp[setObj,Sem.run,Y,M,O,q6]
  simp only[J,Result.andThen_ok,Sem.run_pure,c3]
 unfold Oper.wp;rw[g,Oper.upon_value];obtain⟨s1,s2⟩:=s.sim.setM (E':=.it es.length (seen++[j])) (o':=.mapIter (some v) es.length (seen++[j]).toArray es.length) (w':={l with heap:=w.heap.setIfInBounds B (.mapIter (some v) es.length (seen++[j]).toArray es.length)}) f rfl rfl q2 q4 (λr e=>by cases e) rfl Z al ad
  ⟨B,q2,q3,by simp[F,qc]⟩
 refine⟨_,_,_,_,rfl,C j _ (Ar R) (by rw[<-O];exact m2),.tup k! λi u d f n=>?_,s1,s2⟩;rcases i with _|_|_|i;simp at f n;subst f n;exact .bool true;simp at f n;subst f n;exact .int _ _;simp at f n;subst f n;exact c4 _;simp at f
theorem JV.entry{x:Operand}{id m j:Nat}{k:IntKind}{es:List (Int×Ac)}{seen:List Nat}{p:Int×Ac}(l:o.op=.entry x)(A:BO env x=.itp id m)(f:H[id]?=δ (.it (θ es) (seen++[j])))(r:H[m]?=δ (.mp k es))
  (v:es[j]?=δ p) (y:K (.tup [.int k p.1,p.2]) H):JV P N o env H K:=by
 apply C3 (by rw[l];rfl);intro X h a w s Q;obtain⟨B,C,b,q1,q2,q3,q4,J,q5,q6,q7⟩:=AHA s A f r;obtain⟨e,D,n,q,E⟩:=q7 j p v;have t:b.find? (λx=>x.born==j)=δ e:=by
  rw[<-Array.find?_toList,<-n];refine find_born e b.toList ?_ q!;have I:b.toList.map (·.born)=List.range b.size:=by refine I6 λi=>?_;rw[CL,Pf];rcases Ax i b.size with z|z;obtain⟨e,F,G,_⟩:=q7 i _ (Ar (by omega:i<θ es));grind;grind
  grind
 have c:(execOp a.eval o).run P w=.ok (.value (.tuple #[.int k p.1,e.val])) w:=by unfold execOp;rw[l];simp only[q1];simp[Instr.entry,getObj,Sem.run,q4,q5,q6,t,q]
 unfold Oper.wp;rw[c,Oper.upon_value];refine⟨_,_,h,H,rfl,y,.tup k! λi u d f g=>?_,s.sim,G8.refl _ _ _⟩;rcases i with _|_|i;simp at f g;subst f g;exact .int _ _;grind;grind
end
mutual
def Ty.flat:Ty->Bool
 |.list _=>η
 |.arr _ t=>t.flat
 |.prod ts=>ts.flat
 |_=>ζ
def R1.flat:R1->Bool
 |.one t=>t.flat
 |.cons t ts=>t.flat&&ts.flat
end
def Plain(v:Ac):Prop:=∀(x:Cx)(c:Value),Bx x v c->∀y,Bx y v c
theorem Plain.agg{a:List Ac}(h:∀v∈a,Plain v):Plain (.agg a):=λx c r y=>by
 cases r with
 |agg e f i=>exact .agg e f λj v d b g=>h v (BN b) x d (i j v d b g) y
mutual
theorem Ty.plain_cells:∀(t:Ty),t.flat=ζ->∀x:t.D,∀v∈(t.enc x).cells,Plain v
 |.bool,_,b,v,d=>by simp only[Ty.enc,Ac.cells,BA]at d;subst d;exact λ_ c r y=>by cases r;exact .bool _
 |.int k,_,n,v,d=>by simp only[Ty.enc,Ac.cells,BA]at d;subst d;exact λ_ c r y=>by cases r;exact .int _ _
 |.str,_,s,v,d=>by
  simp only[Ty.enc,Ac.cells,BA]at d;subst d;exact λ_ c r y=>by
   cases r with
   |str t e=>exact .str t e
 |.list t,h,_,_,_=>by cases h
 |.arr n t,h,a,v,d=>by simp only[Ty.enc,Ac.cells,Gl]at d;obtain⟨i,_,d⟩:=d;exact t.plain_cells h _ v d
 |.prod ts,h,x,v,d=>ts.plain_cells h x v d
theorem R1.plain_cells:∀(b:R1),b.flat=ζ->∀x:b.D,∀v∈b.cells x,Plain v
 |.one t,h,x,v,a=>t.plain_cells h x v a
 |.cons t b,h,x,v,a=>by simp only[R1.flat,BW]at h;simp only[R1.cells,Ak]at a;rcases a with a|a;exact t.plain_cells h.1 _ v a;exact b.plain_cells h.2 _ v a
end
theorem Ty.plain(t:Ty)(h:t.flat=ζ)(x:t.D):Plain (t.enc x):=by have a:=t.plain_cells h x;cases t<;>grind[Plain.agg,Ty.enc,Ac.cells]
section
variable {R:Type}
def uK(P:Program)(H:Ap)(t:TypeId)(k:TV->Ap->Option R):Option R:=
 match P.underlying t with
 |some (.map kt et)=>
  match P.underlying kt,AAz P 1000 et with
  |some (.int kk),δ ty=>k (.c (.raw (.mp (θ H)))) (H++[.mp η kk ty []])
  |_,_=>ε
 |_=>ε
def nM(P:Program)(H:Ap)(t:TypeId)(m kx v:TV)(k:TV->Ap->Option R):Option R:=
 match P.underlying t with
 |some (.map kt _)=>
  match m,kx with
  |.c (.raw (.mp id)),.c (.it kk n)=>
   match P.underlying kt,H[id]? with
   |some (.int k1),δ (.mp η k2 ty es)=>
    if k1=kk/\k2=kk then
     match ty.flat with
     |true=>match ty.data v with|some x=>k VD (H.set id (.mp η k2 ty (P0 n x es)))|none=>ε
     |false=>ε
    else ε
   |_,_=>ε
  |_,_=>ε
 |_=>ε
def xG(P:Program)(H:Ap)(t:TypeId)(g:Bool)(m kx:TV)(k:TV->Ap->Option R):Option R:=
 match P.underlying t with
 |some (.map kt et)=>
  match m,kx with
  |.c (.raw (.mp id)),.c (.it kk n)=>
   match P.underlying kt,H[id]?,ABu P et with
   |some (.int k1),δ (.mp _ k2 ty es),δ z=>
    if k1=kk/\k2=kk then
     match Ac.beq z (ty.enc ty.zero)with
     |true=>k (bif g then .tup [ty.tv ((LD n es).getD ty.zero),.c (.bl (LD n es).isSome)]else ty.tv ((LD n es).getD ty.zero)) H
     |false=>ε
    else ε
   |_,_,_=>ε
  |_,_=>ε
 |_=>ε
variable {P:Program}{N:Nat}{o:Oper}{env:BZ}{H:Ap}{k:TV->Ap->Option R}{r:R}
theorem uL(ok:No env H)(b:o.op=.makeMap a ε)(h:uK P H a k=δ r):∀F,mV P N o env H F k r:=by intro F;unfold uK at h;split at h;split at h;rename_i t c _ _;have st:CD H (H++[.mp η t c []]):=CD.push H _;refine⟨_,_,JV.makeMap t b ⟨?_,?_⟩,h,Ji trivial,Pe ok.heap trivial,st,Frame.push F H _⟩;show Ac.mp (BJ H).length=Ac.mp (θ H);rw[CW];rw[RD];rfl;cases h;cases h
def qE{u:Operand}(ok:No env H)(E:o.op=.mapUpdate a c J u)(h:nM P H a (JW env c) (JW env J) (JW env u) k=δ r):mV P N o env H (List.range (θ H)) k r:=by
 have b:=LN env;unfold nM at h;split at h;rename_i K I F;split at h;rename_i id s n D C;split at h;rename_i k1 q m d g i;split at h;rename_i f;obtain⟨w,A⟩:=f;subst w A;split at h;rename_i e;split at h;rename_i x G;have st:CD H (H.set id (.mp η q m (P0 n x d))):=CD.set i rfl λ_ _ _ _ _ h=>by cases h
 refine⟨VD,_,JV.mapUpdate (id:=id) (k:=q) (n:=n) (v:=m.enc x) (es:=d.map λp=>(p.1,m.enc p.2)) E (by rw[b,D];rfl) (by rw[b,C];rfl) (λy t l z=>?_) F g (by rw[EJ,i];rfl) ⟨rfl,?_⟩,h,iD,RN st ok.heap trivial,st,λj B hn=>(hn (Hw.2 B)).elim⟩;rw[b]at l;exact m.plain e x y t (MS G y t l) z;rw[Kx,<-yy];rfl;cases h;cases h;cases h;cases h;cases h;cases h
theorem vB(ok:No env H)(y:o.op=.lookup a c J A)(h:xG P H a A (JW env c) (JW env J) k=δ r):∀F,mV P N o env H F k r:=by
 intro F;have i:=LN env;unfold xG at h;split at h;rename_i G D t;split at h;rename_i id E n x w;split at h;rename_i k1 ro C m j z f u B;split at h;rename_i d;obtain⟨l,q⟩:=d;subst l q;split at h;rename_i s;have e:(LD n (j.map λp=>(p.1,m.enc p.2))).getD z=(m.tv ((LD n j).getD m.zero)).enc:=by rw[uN,beq_eq _ _ s,Ty.tv_enc];cases LD n j<;>rfl
 refine⟨_,H,JV.lookup (id:=id) (k:=C) (n:=n) (z:=z) (g:=A) (es:=j.map λp=>(p.1,m.enc p.2)) y (by rw[i,x];rfl) (by rw[i,w];rfl) t f B (by rw[EJ,u];rfl) ⟨?_,rfl⟩,h,?_,ok.heap,CD.refl H,Frame.refl F H⟩;rw[e,uN];cases A<;>cases LD n j<;>rfl;cases A;exact Ty.tv_ok _ _;refine RM λv b=>?_;rcases Aw.1 b with rfl|b;exact Ty.tv_ok _ _;simp at b;subst b;exact Ji trivial;cases h;cases h;cases h;cases h;cases h
end
inductive Tgt where
 |fn (F:FuncId)
 |yd (id:Nat)
abbrev R2:=∀{R:Type},Tgt->List TV->Ap->(TV->Ap->Option R)->Option R
def gh(ops:Array Oper)(g:Option (Nat×Bool))(env:BZ):Option Bool:=
 match g with
 |none=>δ ζ
 |some (j,want)=>
  match (ops[j]?).bind (·.dst)with
  |some d=>match env.get d with|.c (.bl b)=>δ (b==want)|.tup []=>δ η|_=>ε
  |none=>ε
def LF:List Bv->List Nat
 |[]=>[]
 |.own id _ _ _::r=>id::LF r
 |_::r=>LF r
def behind(H:Ap)(v:TV):List Nat:=
 match v with
 |.c (.raw (.ptr id 0 0))=>match H[id]? with|some (.live η cs)=>LF cs|_=>[]
 |v=>LF v.refs
def IT:List Nat->BZ->Ap->BZ×Ap
 |[],env,H=>(env,H)
 |id::r,env,H=>match frz id env H with|some (e,h)=>IT r e h|none=>IT r env H
def ve:List QJ->FuncId->Option QJ
 |[],_=>ε
 |c::r,F=>match ξ c.f F with|true=>δ c|false=>ve r F
def AGQ:List Ac->List TV->Bool
 |[.fn (.func C) _ _],vs=>match vs.getLast? with|some (.c (.raw (.fn (.func D) _ _)))=>ξ C D|_=>ζ
 |_,_=>ζ
def AI4:QJ->List TV->Bool
 |.c2 _ _ _ _ post _,.c (.own _ _ _ _)::r=>AGQ post r
 |.c2 _ _ _ _ _ _,_=>η
 |_,_=>ζ
def oG:List QJ->FuncId->List TV->Option QJ
 |[],_,_=>ε
 |c::r,F,vs=>match ξ c.f F&&AI4 c vs with|true=>δ c|false=>oG r F vs
def Ze(env:BZ)(op:Op):Option (FuncId×List TV):=
 match op with
 |.call c=>
  match c.callee with
  |.value f=>match JW env f with|.c (.raw (.fn (.func F) first caps))=>δ (F,first.map tvA++c.args.toList.map (JW env)++caps.map tvA)|_=>ε
  |_=>ε
 |_=>ε
def ul(env:BZ)(c:Call):Option (Nat×List TV):=
 match c.callee with
 |.value f=>match JW env f with|.c (.raw (.yf id))=>δ (id,c.args.toList.map (JW env))|_=>ε
 |_=>ε
def AJa:FuncId:=1152921504606846976
def AE8:FuncId:=1152921504606846977
def AJb:QJ:=.c0 AE8 [] [] λ_=>ε
def AE9:AJb.Ok P:=λ_ _ h=>by cases h
def mS(cs:List QJ)(env:BZ)(H:Ap)(op:Op):List Nat:=
 match op with
 |.call c=>
  match Ze env (.call c)with
  |some (F,vs)=>match oG cs F vs with|some ct=>(AJu ct vs).flatMap (behind H)|none=>[]
  |none=>[]
 |.buildSlice _ _ parts=>parts.toList.flatMap λp=>LF (JW env p.2).refs
 |.store _ a v=>match JW env a with|.aptr .. =>LF (JW env v).refs|.bptr .. =>LF (JW env v).refs|_=>[]
 |.slice _ x lo _ _=>match ve cs AJa with|some _=>[]|none=>match lo,ve cs AE8 with|some _,δ _=>[]|_,_=>LF (JW env x).refs
 |_=>[]
def XA(H H':Ap):Ap:=H++H'.drop (θ H)
def isNil:List R->Bool
 |[]=>ζ
 |_=>η
section
variable {R:Type}
def tM(cs:List QJ)(env:BZ)(H:Ap)(op:Op):List Nat:=
 match op with
 |.store _ a _=>idT (JW env a)
 |.mapUpdate .. =>List.range (θ H)
 |.call c=>
  match Ze env (.call c)with
  |some (F,vs)=>match oG cs F vs with|some ct=>AFt ct vs|none=>(match isNil vs with|true=>[]|false=>List.range (θ H))
  |none=>
   match ul env c with
   |some _=>List.range (θ H)
   |none=>match c with|{callee:=.builtin .append,args:=⟨[s,_]⟩,.. }=>idT (JW env s)|_=>[]
 |_=>[]
def qj(P:Program)(cs:List QJ)(call:R2)(env:BZ)(H:Ap)(op:Op)(k:TV->Ap->Option R):Option R:=
 match op with
 |.alloc t=>zj P H t k
 |.box _ x=>AFf H (JW env x) k
 |.store t a v=>storeT P H t (JW env a) (JW env v) k
 |.buildSlice t len parts=>ZZ P env H t len parts k
 |.makeSlice t x y=>gq P H t (JW env x) (JW env y) k
 |.makeMap t ε=>uK P H t k
 |.mapUpdate t m x y=>nM P H t (JW env m) (JW env x) (JW env y) k
 |.lookup t m x g=>xG P H t g (JW env m) (JW env x) k
 |.convert s d x=>
  match kd P d with
  |.bytes=>uj P H s d (JW env x) k
  |_=>quT P env H (.convert s d x) λv=>k v H
 |.call c=>
  match Ze env (.call c)with
  |some (F,vs)=>
   match Enters P F with
   |true=>
    match oG cs F vs with
    |some ct=>ABD ct vs H k
    |none=>match isNil vs with|true=>call (.fn F) [] (H.map Dv.lock) λv H'=>k v (XA H H')|false=>call (.fn F) vs H k
   |false=>ε
  |none=>
   match ul env c with
   |some (id,vs)=>call (.yd id) vs H k
   |none=>
    match c with
    |{callee:=.builtin .append,args:=⟨[s,x]⟩,argTypes:=⟨[t,t']⟩}=>match ξ t t' with|true=>rf P H t (JW env s) (JW env x) k|false=>ε
    |c=>quT P env H (.call c) λv=>k v H
 |op=>quT P env H op λv=>k v H
def force(f:Bool)(v:TV)(k:TV->Option R):Option R:=
 match f with
 |true=>match v with|.c (.bl b)=>cond b (k (.c (.bl ζ))) (k (.c (.bl η)))|v=>k v
 |false=>k v
def guards(ops:Array Oper):List Nat:=ops.toList.filterMap λo=>o.guard.map (·.1)
def JF(j:Nat):List Nat->Bool
 |[]=>η
 |i::r=>match ξ i j with|true=>ζ|false=>JF j r
def ACV{α:Type}(l:List α)(i:Int)(z:α):Option (List α):=if 0<=i/\i<=(θ l:Int)then δ (l.take i.toNat++ς (θ l-i.toNat) z)else ε
def ABI(o1 o2:Oper):Option (Nat×TypeId×Operand×Operand):=
 match o1.dst,o1.op,o1.guard,o2.dst,o2.op,o2.guard with
 |some d,.slice t x (δ lo) ε ε,ε,ε,.call {callee:=.builtin .clear,args:=⟨[.tmp d']⟩,argTypes:=⟨[t']⟩},ε=>match ξ d d'&&ξ t t' with|true=>δ (d,t,x,lo)|false=>ε
 |_,_,_,_,_,_=>ε
def AHr(P:Program)(H:Ap)(t:TypeId)(x lo:TV)(k:Ap->Option R):Option R:=
 match x,lo with
 |.c (.own id ver _ _),.c (.it _ i)=>
  match H[id]? with
  |some (.buf η t2 l n2 ver2)=>
   match ξ ver ver2,elT P t,eI P t with
   |true,δ te,δ (ε,e,_)=>
    if h:(Ty.list t2).beq (Ty.list te)=ζ then
     match um P e with
     |some z=>match te.all z with|some zd=>(ACV (α:=te.D) (Ty.cast h l) i zd).bind λl'=>k (H.set id (.buf η te l' n2 ver2))|none=>ε
     |none=>ε
    else ε
   |_,_,_=>ε
  |_=>ε
 |_,_=>ε
def AFo(o:Oper):List Oper->Option (Nat×TypeId×Operand×Operand)
 |o2::_=>ABI o o2
 |[]=>ε
def zJ(P:Program)(cs:List QJ)(call:R2)(ops:Array Oper)(gs:List Nat)(sk:Bool):List Oper->Nat->BZ->Ap->(BZ->Ap->Option R)->Option R
 |[],_,env,H,k=>k env H
 |o::r,j,env,H,k=>
  match sk with
  |true=>zJ P cs call ops gs η r (j+1) env H k
  |false=>
   match AFo o r with
   |some (d,t,x,lo)=>AHr P H t (JW env x) (JW env lo) λH'=>zJ P cs call ops gs ζ r (j+1) (env.put d VD) H' k
   |none=>
    match gh ops o.guard env with
    |some ζ=>
     match IT (mS cs env H o.op) env H with
     |(env1,H1)=>qj P cs call env1 H1 o.op λv H'=>force (JF j gs) v λv'=>zJ P cs call ops gs η r (j+1) (env1.putO o.dst v') H' k
    |some η=>zJ P cs call ops gs η r (j+1) (env.putO o.dst (.tup [])) H k
    |none=>ε
end
def oY(H:Ap)(v:TV):Prop:=∀id ver t n,Bv.own id ver t n∈v.refs->∀t' l n' ver',H[id]? ≠δ (.buf η t' l n' ver')
structure EH(A:List Nat)(env:BZ)(H:Ap)(env':BZ)(H':Ap):Prop where
 step:CD H H'
 same:∀t,t∉A->oY H (env.get t)->env'.get t=env.get t
def oY.step(h:CD F b)(d:e.ok F)(k:oY F e):oY b e:=by intro id a t n c;have hr:=d (.own id a t n) c;exact h.nb id hr.1 (k id a t n c)
theorem EH.refl(A:List Nat)(env:BZ)(H:Ap):EH A env H env H:=⟨CD.refl H,λ_ _ _=>rfl⟩
def EH.trans{A B:List Nat}{d g i:BZ}{c e f:Ap}(ok:∀p∈d,p.2.ok c)(a:EH A d c g e)(b:EH B g e i f):EH (A++B) d c i f:=by refine⟨a.step.trans b.step,λt l k=>?_⟩;have j:=a.same t (λh=>l (HS _ h)) k;rw[b.same t (λh=>l (Oh _ h)) (by rw[j];exact k.step a.step (kN ok t)),j]
def EH.mono{B:List Nat}(a:EH M g b W F)(h:∀t,t∈M->t∈B):EH B g b W F:=⟨a.step,λt A f=>a.same t (λq=>A (h t q)) f⟩
def rp{t u:Nat}(h:u≠t):∀env:BZ,(BZ.del t env).get u=env.get u
 |[]=>rfl
 |(k,v)::r=>by simp only[BZ.del];by_cases a:k=t;subst a;rw[Hy];simp only[BZ.get,beq_false (On h)];exact rp h r;rw[beq_false a];simp only[BZ.get];rw[rp h r]
def ov(h:n≠N):(g.put N e).get n=g.get n:=by simp_all[BZ.put,BZ.get,beq_false,On,rp]
theorem xH{p:Nat×TV}{t:Nat}:∀{env:BZ},p∈BZ.del t env->p∈env
 |(k,v)::r,h=>by simp only[BZ.del]at h;split at h;exact Ce _ (xH h);rcases Aw.1 h with rfl|h;simp;exact Ce _ (xH h)
theorem bK{d:Option Nat}(h:∀p∈g,p.2.ok b)(H:e.ok b):∀p∈g.putO d e,p.2.ok b:=by
 cases d with
 |none=>exact h
 |some t=>intro p a;rcases Aw.1 a with rfl|a;exact H;grind[xH]
def oN{l:List t.D}(g:b[N]?=δ (.buf η t l n S))(j:∀a f e d,v=.own a f e d->∀i l2 h c,b[a]? ≠δ (.buf η i l2 h c)):NZ N S t l v=v:=by
 cases v with
 |own a f e d=>simp only[NZ];split<;>simp_all
 |_=>rfl
mutual
theorem td{H:Ap}{id n k:Nat}{t:Ty}{l:List t.D}(d:H[id]?=δ (.buf η t l n k)):∀{v:TV},oY H v->oO id k t l v=v
 |.c z,h=>by simp only[oO];rw[oN d λa j i f e=>h a j i f (by simp[TV.refs,e])]
 |.g b,h=>by
  simp only[oO,TV.g.injEq];have:∀b:List Bv,(∀a j i f,Bv.own a j i f∈b->∀s l2 q m,H[a]? ≠δ (.buf η s l2 q m))->b.map (NZ id k t l)=b:=by
   intro b;induction b with
   |nil=>intro _;rfl
   |cons z r p=>intro h;rw[Bf,p λa j i f o=>h a j i f (by simp[o]),oN d λa j i f e=>h a j i f (by simp[e])]
  exact this b h
 |.tup vs,h=>by simp only[oO];rw[qp d (vs:=vs) h]
 |.aptr ..,_=>rfl
 |.bptr ..,_=>rfl
 |.vw ..,_=>rfl
 |.vptr ..,_=>rfl
theorem qp{H:Ap}{id n c:Nat}{t:Ty}{l:List t.D}(b:H[id]?=δ (.buf η t l n c)):∀{vs:List TV},oY H (.tup vs)->gB id c t l vs=vs
 |[],_=>rfl
 |v::r,h=>by simp only[gB];rw[td b (v:=v) λa g f e d=>h a g f e (by simp only[TV.refs,TV.refsL,Ak];exact .inl d),qp b (vs:=r) λa g f e d=>h a g f e (by simp only[TV.refs,TV.refsL,Ak]at d⊢;exact .inr d)]
end
def ABT{f:TV->TV}(a:f VD=VD)(t:Nat):∀env:BZ,BZ.get (env.map λp=>(p.1,f p.2)) t=f (env.get t)
 |[]=>a.symm
 |(k,v)::r=>by simp only[Bf,BZ.get];split;rfl;exact ABT a t r
def ADz(h:frz N g b=δ (W,F))(t:Nat)(d:oY b (g.get t)):W.get t=g.get t:=by unfold frz at h;split at h;rename_i e l n H a;obtain⟨rfl,rfl⟩:=h;rw[ABT (f:=oO N H e l) rfl];exact td a d;cases h
def RF:∀(a:List Nat){env:BZ}{H:Ap},No env H→No (IT a env H).1 (IT a env H).2∧EH [] env H (IT a env H).1 (IT a env H).2∧
  ∀N,FU N (BJ H).length (Bz env) (BJ H) (Bz (IT a env H).1) (BJ (IT a env H).2)
 |[],env,H,ok=>⟨ok,EH.refl _ _ _,λN=>FU.refl N _ _⟩
 |id::r,env,H,ok=>by simp only[IT];split;rename_i e h b;obtain⟨f,c,j⟩:=AHz ok b;obtain⟨g,i,k⟩:=RF r f;refine⟨g,(EH.trans (A:=[]) (B:=[]) ok.env ⟨c,λt _ d=>ADz b t d⟩ i),λN=>(j N).trans ((k N).of_le (by rw[CW,CW];exact c.len))⟩;exact RF r ok
section
variable {P:Program}{N:Nat}{R:Type}
def xv(P:Program)(args:List Ac)(H:Au)(v:Ac)(H':Au):Tgt->Prop
 |.fn F=>Ea P F args H (DQ v H')
 |.yd id=>∀(N:Nat)(o:Oper)(c:Call)(f:Operand)(env:Env),o.op=.call c->c.callee=.value f->BO env f=.yf id->c.args.toList.map (BO env)=args->JV P N o env H (DQ v H')
def V8(P:Program)(call:R2):Prop:=∀{R:Type} tg vs H (k:TV->Ap->Option R) r,(∀v∈vs,v.ok H)->(∀e∈H,e.ok H)->call tg vs H k=δ r->
 ∃v H',xv P (vs.map TV.enc) (BJ H) v.enc (BJ H') tg/\k v H'=δ r/\v.ok H'/\(∀e∈H',e.ok H')/\CD H H'
theorem kO(h:gh j q g=δ ζ){B:Prop}(a:U):Xw j q (Bz g) U B:=by unfold gh at h;grind[Xw,WU,UZ,TV.enc,Bv.one]
theorem oW(h:gh j q g=δ η){B:Prop}(b:B):Xw j q (Bz g) U B:=by unfold gh at h;unfold Xw;split at h;cases h;rename_i a want;unfold WU;split at h;rename_i d e;simp only[e,UZ];split at h;grind[TV.enc,Bv.one];rename_i c;simp[c];exact b;cases h;cases h
theorem xA(e:∀d b,g.get d=.c (.bl b)->W.get d=.c (.bl b))(h:gh j q g=δ ζ):gh j q W=δ ζ:=by cases q<;>grind[gh]
theorem tU:∀{a:List QJ}{F:FuncId}{c:QJ},ve a F=δ c->c∈a/\c.f=F
 |d::r,F,c,h=>by simp only[ve]at h;split at h;simp_all;obtain⟨b,e⟩:=tU h;grind
theorem tV:∀{a:List QJ}{F:FuncId}{b:List TV}{c:QJ},oG a F b=δ c->c∈a/\c.f=F
 |d::r,F,b,c,h=>by simp only[oG]at h;split at h;simp_all;obtain⟨e,g⟩:=tV h;grind
theorem nw{e:Op}(h:Ze g e=δ (O,m)):Go.Ab.callT (BO (Bz g)) e=δ (.inl (O,m.map TV.enc))/\∀H,(∀p∈g,p.2.ok H)->∀v∈m,v.ok H:=by
 unfold Ze at h;split at h;rename_i c;split at h;rename_i f d;split at h;rename_i G first a b
 simp at h;obtain⟨rfl,rfl⟩:=h;have j:BO (Bz g) f=.fn (.func G) first a:=by rw[LN,b];rfl
 have k:∀l:List Ac,(l.map tvA).map TV.enc=l:=by
  intro l;conv=>rhs;rw[<-eG l]
  grind[List.map_congr_left,iE]
 refine⟨?_,λH F v i=>?_⟩;simp_all[Go.Ab.callT,LN];simp at i;grind[kf,fw];cases h;cases h;cases h
theorem zV{c:Call}(h:ul g c=δ (N,m)):(∃f,c.callee=.value f/\BO (Bz g) f=.yf N/\c.args.toList.map (BO (Bz g))=m.map TV.enc)/\∀H,(∀p∈g,p.2.ok H)->∀v∈m,v.ok H:=by unfold ul at h;split at h;rename_i f a;split at h;rename_i i b;injection h with h;injection h with d e;subst d e;refine⟨⟨f,a,by rw[LN,b];rfl,?_⟩,λH j v k=>?_⟩;grind[List.map_congr_left,LN];grind[fw];cases h;cases h
def AIR{k:TV->Ap->Option R}{r:R}(ok:No g b)(h:quT P g b o.op (λv=>k v b)=δ r):∀F,mV P N o g b F k r:=by intro F;obtain⟨v,a,H,c⟩:=wJ ok h;exact⟨v,b,Ds a ⟨rfl,rfl⟩,H,c,ok.heap,CD.refl b,Frame.refl F b⟩
theorem uw(H:Ap):BJ (H.map Dv.lock)=BJ H:=by grind[BJ,List.map_congr_left,oe]
theorem yv(h:∀e∈b,e.ok b):∀e∈b.map Dv.lock,e.ok (b.map Dv.lock):=by
 have f:∀id a t n,Sp b id a t n->Sp (b.map Dv.lock) id a t n:=λid a t n q=>by
  refine⟨by simpa using q.1,λro y l w k c=>?_⟩;rw[CL]at c;cases j:b[id]? with
  |none=>grind
  |some e=>
   rw[j]at c;simp at c;cases e<;>simp only[Dv.lock]at c<;>first|(cases c;done)|skip
   injection c with _ m v o p;subst m o p;exact q.2 _ _ _ _ _ j
 have d:∀x:Bv,x.ok b->x.ok (b.map Dv.lock):=λx i=>by
  cases x with
  |own id a t n=>exact f _ _ _ _ i
  |_=>trivial
 intro e c;obtain⟨u,r,rfl⟩:=Bs.1 c;have g:=h u r;cases u with
 |dead=>trivial
 |live H s=>exact λx i=>d x (g x i)
 |buf=>exact g
 |lp=>exact g
 |mp=>exact g
theorem ADW(L:∀e∈b,e.ok b)(st:CD (b.map Dv.lock) F)(H:∀e∈F,e.ok F):
  (∀v:TV,v.ok F->v.ok (XA b F))/\(∀e∈XA b F,e.ok (XA b F))/\CD b (XA b F)/\∀x:Cx,S3 x x (BJ F) (BJ (XA b F)):=by
 have K:b.length<=F.length:=by simpa using st.len
 have c:(XA b F).length=F.length:=by grind[XA,List.length_append,List.length_drop]
 have o:∀j,j<b.length->(XA b F)[j]?=b[j]? :=λj p=>CT p;have I:∀j,b.length<=j->(XA b F)[j]?=F[j]? :=λj p=>by grind[XA]
 have keep:∀(j:Nat)(e:Dv),b[j]?=some e->e≠.dead->F[j]?=some e.lock:=λj e p G=>by apply st.ro j e.lock (by rw[CL,p];rfl);cases e<;>first|rfl|exact(G rfl).elim
 have A:∀id f t n,Sp F id f t n->Sp (XA b F) id f t n:=λid f t n q=>by refine⟨by rw[c];exact q.1,λro P l O D d=>?_⟩;rcases Ax id b.length with h|h;rw[o id h]at d;exact q.2 _ _ _ _ _ (keep id _ d k!);rw[I id h]at d;exact q.2 _ _ _ _ _ d
 have k:∀x:Bv,x.ok F->x.ok (XA b F):=λx C=>by
  cases x with
  |own id f t n=>exact A _ _ _ _ C
  |_=>trivial
 have B:CD b (XA b F):=by refine⟨by rw[c];exact K,λid f t n q=>⟨by rw[c];exact DB q.1 K,λro P l O D d=>?_⟩,λid e d _=>?_,λid w h=>by rw[o id w];exact h,λid w _ _ _ _ _ _ _ _ h=>by rw[o id w]at h;exact⟨_,_,h⟩⟩;rw[o id q.1]at d;exact q.2 _ _ _ _ _ d;grind
 refine⟨λv N x C=>k x (N x C),λe d=>?_,B,λx=>⟨by rw[CW,CW,c],λj Q p=>?_⟩⟩;rcases Ak.1 d with d|d;exact B.ent (L e d);have E:=H e (QU d);cases e with
 |dead=>trivial
 |live a s=>exact λx C=>k x (E x C)
 |buf=>exact E
 |lp=>exact E
 |mp=>exact E
 rw[EJ]at p;cases J:(XA b F)[j]? with
 |none=>grind
 |some y=>
  rw[J]at p;simp at p;subst p;have same:(BJ F)[j]?=some y.enc->y.enc=.dead\/(∃g s u,(BJ F)[j]?=some (.live g s)/\y.enc=.live g u/\u.length=s.length/\∀(i:Nat)(z:Ac),u[i]?=some z->∃v,s[i]?=some v/\Conv x x v z)\/((BJ F)[j]?=some y.enc/\∀g s,y.enc≠.live g s):=λh=>by
   cases y with
   |dead=>exact .inl rfl
   |live a s=>exact .inr (.inl ⟨_,_,_,h,rfl,rfl,λi z h=>⟨z,h,λ_ r=>r⟩⟩)
   |buf a t l m f=>exact .inr (.inl ⟨_,_,_,h,rfl,rfl,λi z h=>⟨z,h,λ_ r=>r⟩⟩)
   |lp=>exact .inr (.inr ⟨h,λ_ _ h=>by cases h⟩)
   |mp=>exact .inr (.inr ⟨h,λ_ _ h=>by cases h⟩)
  rcases Ax j b.length with h|h;rw[o j h]at J;by_cases M:y=.dead;subst M;exact .inl rfl;grind[EJ,oe];grind[EJ]
theorem ql{u:List QJ}(y:∀c∈u,c.Ok P){i:R2}(l:V8 P i){k:TV->Ap->Option R}{r:R}(ok:No g b)(h:qj P u i g b o.op k=δ r):mV P N o g b (tM u g b o.op) k r:=by
 have s:∀t,o.op=t->quT P g b t (λv=>k v b)=δ r->∀F,mV P N o g b F k r:=λt e h=>AIR ok q!;generalize a:o.op=t at h;unfold qj at h;split at h;exact we ok a h;exact zp ok a h;exact xg ok a h;exact nh ok a h;exact qD ok a h;grind[uL];exact qE ok a h;grind[vB];split at h;exact uk ok a h;grind;rename_i c;split at h;rename_i F q m;obtain⟨K,C⟩:=nw m;split at h;rename_i x;split at h;rename_i L n;obtain⟨M,O⟩:=tV n;obtain⟨v,d,q1,q2,q3,q4,q5,q6⟩:=yI (y L M) (C b ok.env) ok.heap h;rw[O]at q1;exact⟨v,d,kV q! x q1,q2,q3,q4,q5,by simp only[tM,m,n];exact q6⟩;rename_i n;split at h;rename_i H;have A:q=[]:=by cases q<;>first|rfl|cases H
 subst A;obtain⟨v,d,q1,q2,q3,q4,q5⟩:=l (.fn F) [] (b.map Dv.lock) _ r (λv Q=>by cases Q) (yv ok.heap) h;obtain⟨E,G,I,J⟩:=ADW ok.heap q5 q4;have B:Ea P F [] (BJ b) (DQ v.enc (BJ d)):=by grind[xv,uw]
 refine⟨v,XA b d,JV.after (kV q! x B) λX W w _=>?_,q2,E v q3,G,I,?_⟩;have hr:=(J (cx X W (BJ d) w)).onto;exact⟨hr,λc r=>r.later hr.later⟩;simp only[tM,m,n];exact λj p _=>CT p;rename_i H;obtain⟨v,d,q1,q2,q3,q4,q5⟩:=l (.fn F) q b k r (C b ok.env) ok.heap h;have z:=H;exact⟨v,d,kV (by rw[a];exact K) x q1,q2,q3,q4,q5,by simp only[tM,m,n,z];exact λj p hn=>(hn (Hw.2 p)).elim⟩;cases h;rename_i m;split at h;rename_i id q D;obtain⟨⟨f,S,T,U⟩,V⟩:=zV D;obtain⟨v,d,q1,q2,q3,q4,q5⟩:=l (.yd id) q b k r (V b ok.env) ok.heap h;exact⟨v,d,q1 N o c f (Bz g) a S T U,q2,q3,q4,q5,by simp only[tM,m,D];exact λj p hn=>(hn (Hw.2 p)).elim⟩;grind[un,Nat.eq_of_beq_eq_true,tM];grind
theorem nG{k:TV->Option R}{r:R}(h:force A e k=δ r):k e=δ r:=by unfold force at h;grind
def oD(ops:List Oper):List Nat:=ops.filterMap (·.dst)
def tF{b:Oper}{d:Nat}(h:ABI o b=δ (d,a,J,c)):o.dst=δ d/\o.op=.slice a J (δ c) ε ε/\o.guard=ε/\b.dst=ε/\b.op=.call {callee:=.builtin .clear,args:= #[.tmp d],argTypes:= #[a]}/\b.guard=ε:=by unfold ABI at h;split at h;rename_i e f g i j k;split at h<;>simp_all;cases h
def vf{a:Ty}{z:List Ac}{b:a.D}(h:Dl z (a.enc b).cells):∀n:Nat,Dl (ς n z).flatten (a.E.cl (ς n b))
 |0=>Dl.refl _
 |n+1=>by exact Dl.append h (vf h n)
theorem zu{o1 o2:Oper}{d:Nat}{t:TypeId}{x lo:Operand}{env:BZ}{H:Ap}{k:Ap→Option R}{r:R}(ok:No env H)(hc:ABI o1 o2=δ (d,t,x,lo))(h:AHr P H t (JW env x) (JW env lo) k=δ r):
  ∃v G,JV P N o1 (Bz env) (BJ H) (DQ v (BJ H))/\JV P N o2 ((Bz env).put d v) (BJ H) (DQ (.tup []) (BJ G))/\k G=δ r/\(∀e∈G,e.ok G)/\CD H G:=by
 obtain⟨_,c2,_,c4,U,_⟩:=tF hc;unfold AHr at h;split at h;rename_i id c t0 n0 kk i hx Z;split at h;rename_i a l b ap y;split at h;rename_i te e ax hb al F;split at h;rename_i S;split at h;rename_i z hz;split at h;rename_i zd ao;obtain⟨w,o,h⟩:=Dj.1 h;have T:=DA hb;subst T;have u:=Ty.beq_eq _ _ S;injection u with u;subst u;have B:(Ty.cast S l:List a.D)=l:=rfl;rw[B]at o;have hr:Sp H id c t0 n0:=by have:=fw ok.env x;rw[hx]at this;exact this (.own id c t0 n0) (by simp[TV.refs])
 obtain⟨_,q⟩:=hr.2 _ _ _ _ _ y;obtain⟨rfl,rfl⟩:=q rfl;have hn:b=θ l:=ok.heap _ (BN y);obtain⟨e',I,M⟩:=jw al;rw[I]at F;injection F with F;injection F with _ F;injection F with X Y;subst X Y;obtain⟨z1,z2⟩:=Yy hz;have p:=Fq ao;have C:(lvs z).length=a.sz:=by rw[<-p.1,a.enc_len]
 unfold ACV at o;split at o;rename_i hi;injection o with o;have O:CD H (H.set id (.buf η a w b c)):=CD.set y rfl λ_ _ _ _ _ e=>q!
 have J:Dv.ok (H.set id (.buf η a w b c)) (.buf η a w b c):=by show b=θ w;grind
 have m:(BJ H)[id]?=δ (.live b (a.E.cl l)):=by rw[EJ,y];rfl
 have A:id<(BJ H).length:=q!
 have ex:BO (Bz env) x=.sl id b a.sz 0 b:=by rw[LN,hx];rfl
 have el:BO (Bz env) lo=.int kk i:=by rw[LN,Z];rfl
 have W:TO (BJ H) id b=ζ:=by simp[TO,m]
 have s:∀v,BO ((Bz env).put d v) (.tmp d)=v:=λv=>by simp[BO,Env.put,Env.get]
 have j:=a.E.clen l;have Q:a.E.sz=a.sz:=rfl;rw[Q]at j;have ad:Cd P (Bz env) (BJ H) o1.op=δ (if i.toNat=0 then .sl id b a.sz 0 b else if i.toNat=b then .vs a.sz []else .sl id b a.sz (0+i.toNat*a.sz) (b-i.toNat)):=by
  rw[c2];have b1:Wj 0 (δ (Ac.int kk i))=δ i.toNat:=by grind[Wj,uO]
  have b2:∀n,Wj n ε=δ n:=λ_=>rfl;simp only[Cd,ex,el,Bt,mh,hZ,b1,b2,I];rw[C! ⟨O!,a.sz_pos,o!,An _,An _,W,k!⟩];grind
 have g:∀V,a.E.cl l=V->(BJ H).set id (.live b V)=BJ H:=λV ar=>by apply I6;grind
 have f:Dl (Wa (a.E.cl l) (i.toNat*a.sz) (ς (b-i.toNat) (lvs z)).flatten) (a.E.cl w):=by
  have e1:a.E.cl w=a.E.cl (l.take i.toNat)++a.E.cl (ς (b-i.toNat) zd):=by grind[R3.cl]
  have e2:(a.E.cl l).take (i.toNat*a.sz)=a.E.cl (l.take i.toNat):=by
   have e3:a.E.cl l=a.E.cl (l.take i.toNat)++a.E.cl (l.drop i.toNat):=by grind[List.take_append_drop,R3.cl]
   have e4:(a.E.cl (l.take i.toNat)).length=i.toNat*a.sz:=by rw[a.E.clen,BR,Q];grind
   grind
  have e5:(a.E.cl l).drop (i.toNat*a.sz+(ς (b-i.toNat) (lvs z)).flatten.length)=[]:=by apply kw;simp[C];rw[<-EI];grind
  unfold Wa;rw[e1,e2,e5,DN];exact(Dl.refl _).append (vf p _)
 have L:JV P N o2 ((Bz env).put d (if i.toNat=0 then .sl id b a.sz 0 b else if i.toNat=b then .vs a.sz []else .sl id b a.sz (0+i.toNat*a.sz) (b-i.toNat))) (BJ H) (DQ (.tup []) (BJ (H.set id (.buf η a w b c)))):=by
  have e6:BJ (H.set id (.buf η a w b c))=(BJ H).set id (.live b (a.E.cl w)):=by rw[Kx];rfl
  rw[e6];by_cases h0:i.toNat=0;rw[C! h0];refine JV.set_less A ?_ f;have:=JV.clear (N:=N) (K:=DQ (.tup []) _) U c4 I M z1 C (s (.sl id b a.sz 0 b)) m (by rw[j,hn];omega) ⟨rfl,rfl⟩;grind;rw[D! h0];by_cases h1:i.toNat=b;rw[C! h1];have e7:w=l:=t!
  rw[e7,g _ rfl];exact rV U (Qd I).1 (s _) ⟨rfl,rfl⟩;rw[D! h1];refine JV.set_less A ?_ f;have:=JV.clear (N:=N) (K:=DQ (.tup []) _) U c4 I M z1 C (s (.sl id b a.sz (0+i.toNat*a.sz) (b-i.toNat))) m (by rw[j,<-hn,DT,<-EI];apply Mu;omega) ⟨rfl,rfl⟩;grind
 exact⟨_,_,Ds ad ⟨rfl,rfl⟩,L,h,RN O ok.heap J,O⟩;grind;cases h;cases h;cases h;cases h;cases h;cases h
def AFB:FU N (BJ b).length ((Bz g).put n u) (BJ b) (Bz (g.put n VD)) (BJ b):=by
 refine WA rfl λX H w s=>⟨S3.refl _ _,λt f m=>?_⟩
 rw[jy]at m;rcases Aw.1 m with e|m;injection e with a d;subst a d;exact⟨u,I3,λc _=>.any c⟩;exact⟨f,Ce _ m,λ_ r=>r⟩
theorem gy{J:List QJ}(m:∀c∈J,c.Ok P){p:R2}(l:V8 P p){D:Array Oper}{gs:List Nat}:∀(os:List Oper)(j:Nat)(env:BZ)(H:Ap)(k:BZ→Ap→Option R)(r:R),No env H→zJ P J p D gs η os j env H k=δ r→
  ∃f i,Wg P N D os (Bz env) (BJ H) (λe h=>e=Bz f/\h=BJ i)/\k f i=δ r/\No f i/\EH (oD os) env H f i
 |[],j,env,H,k,r,ok,h=>⟨env,H,⟨_,_,FU.refl _ _ _,rfl,rfl⟩,h,ok,EH.refl _ _ _⟩
 |o::os,j,env,H,k,r,ok,h=>by
  simp only[zJ]at h;have B:∀{e:BZ}{h:Ap}{v:TV},EH (oD [o]) e h (e.putO o.dst v) h:=by
   intro e h v;refine⟨CD.refl h,λt U _=>?_⟩;cases hd:o.dst with
   |none=>rfl
   |some d=>refine ov λe=>U ?_;simp[oD,hd,e]
  have z:∀t,t∈oD [o]++oD os->t∈oD (o::os):=by grind[oD]
  split at h;rename_i d t x lo y;cases os with
  |nil=>cases y
  |cons o2 E=>
   have hc:=y;obtain⟨c1,c2,c3,c4,c5,c6⟩:=tF hc;obtain⟨v,C,M,w2,T,W,st⟩:=zu (N:=N) ok hc h;have g:No (env.put d VD) C:=⟨bK (d:=δ d) (st.env ok.env) iD,W⟩
   obtain⟨f,i,L,Y,F,G⟩:=gy m l E (j+1+1) _ C k r g T;refine⟨f,i,⟨Bz env,BJ H,FU.refl N _ _,?_⟩,Y,F,?_⟩;rw[c3];apply JV.mono M;rintro u _ ⟨rfl,rfl⟩;rw[c1];refine⟨(Bz env).put d u,BJ H,FU.refl N _ _,?_⟩;rw[c6];apply JV.mono w2;rintro _ _ ⟨rfl,rfl⟩;rw[c4];exact Wg.weak AFB L;have Z:EH (oD [o]) env H (env.put d VD) C:=by exact⟨st,λu hu _=>ov λe=>hu (by simp[oD,c1,e])⟩
   refine(EH.trans ok.env Z G).mono λu hu=>?_;grind[oD,List.mem_cons_of_mem]
  split at h;rename_i S;obtain⟨K,t1,M⟩:=RF (mS J env H o.op) ok;generalize IT (mS J env H o.op) env H=q at h K t1 M;obtain⟨env1,C⟩:=q;obtain⟨v,I,e1,e2,e3,e4,e5,_⟩:=ql (N:=N) m l K h;have O:=nG e2;have g:No (env1.putO o.dst v) I:=⟨bK (e5.env K.env) e3,e4⟩
  obtain⟨f,i,L,E,F,G⟩:=gy m l os (j+1) _ I k r g O;refine⟨f,i,?_,E,F,?_⟩;refine⟨Bz env1,BJ C,M N,kO ?_ ?_⟩;exact xA (λd b hb=>by rw[t1.same d (λh=>by cases h) (by rw[hb];intro id al t n hm;simp[TV.refs]at hm),hb]) S;exact λrr X h0 a w s Q=>V6 (e1 rr X h0 a w s Q) (by rintro a' w' ⟨c,u,h',ad,ha,⟨rfl,rfl⟩,V,hs,hx⟩;exact⟨c,_,h',_,ha,by show Wg P N D os ((Bz env1).putO o.dst v.enc) (BJ I) _;rw[<-Xo];exact L,V,hs,hx⟩);have Z:EH (oD [o]) env1 C (env1.putO o.dst v) I:=by exact⟨e5,λt U T=>(B (h:=C)).same t U T⟩
  have:=(EH.trans (A:=[]) ok.env t1 (EH.trans K.env Z G))
  exact this.mono z;rename_i S;have g:No (env.putO o.dst (.tup [])) H:=⟨bK ok.env (RM λv V=>by cases V),ok.heap⟩
  obtain⟨f,i,L,E,F,G⟩:=gy m l os (j+1) _ H k r g h;refine⟨f,i,⟨Bz env,BJ H,FU.refl N _ _,oW S ?_⟩,E,F,(EH.trans ok.env B G).mono z⟩;have:(Bz env).putO o.dst (.tup [])=Bz (env.putO o.dst (.tup [])):=by rw[Xo];rfl
  grind;cases h
end
end Go.Ab
