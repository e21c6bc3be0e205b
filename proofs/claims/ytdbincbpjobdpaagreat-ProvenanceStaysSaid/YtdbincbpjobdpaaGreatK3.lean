/- Texts of wip, joined and shortened by wip/tools/pack.py; nothing is assumed. -/
import Derived.Test.YtdbincbpjobdpaaGreatK2
import Derived.Laws.IdiomRangeMap
noncomputable section
set_option linter.all false
open Option renaming some->Z
open Option renaming some->δ,none->ε
open Bool renaming true->ζ,false->η
open List renaming length->θ,replicate->ς
open Nat renaming beq->ξ
open Decidable renaming decide->τ
namespace Go.Ab
def S9(H:Ar)(id ver:Nat)(t:Ty)(n:Nat):Prop:=
 id<θ H/\∀ro t' l n' ver',H[id]?=Z (.buf ro t' l n' ver')->ver<=ver'/\(ver=ver'->t'=t/\n'=n)
def Bu.ok(H:Ar):Bu->Prop
 |.own id ver t n=>S9 H id ver t n
 |_=>True
def lok(H:Ar)(cs:Ψ Bu):Prop:=∀x∈cs,x.ok H
mutual
def TV.refs:TV->Ψ Bu
 |.c x=>[x]
 |.g cs=>cs
 |.aptr .. =>[]
 |.bptr id ver t n _ _=>[.own id ver t n]
 |.vw id ver t n _ _=>[.own id ver t n]
 |.vptr cs _=>cs
 |.tup vs=>TV.refsL vs
def TV.refsL:Ψ TV->Ψ Bu
 |[]=>[]
 |v::r=>v.refs++TV.refsL r
end
def TV.ok(H:Ar)(v:TV):Prop:=lok H v.refs
def D0.ok(H:Ar):D0->Prop
 |.live _ cs=>lok H cs
 |.buf _ _ l n _=>n=θ l
 |.dead=>True
 |.lp _ _ _ env _ _ _ _=>∀p∈env,∀id ver t n,Bu.own id ver t n∉p.2.refs
 |.mp .. =>True
structure N3(env:Bf)(H:Ar):Prop where
 env:∀p∈env,p.2.ok H
 heap:∀e∈H,e.ok H
variable {a G V:TypeId}{N n T:Nat}{b F:Ar}{c J:Operand}{d:Ψ Bu}{e S:TV}{P:Program}{t:Ty}{g W:Bf}{i O:Ψ Ad}{w:World}{j:Array Oper}{m:Ψ TV}{p Y:Au}{o:Oper}{q:Ω (Nat×Bool)}{s:Env}{u:Ad}{X:Nat->Prop}{h:Gh}{v:Bu}{z:IntKind}{A:Bool}{x y:Cx}{B:Nat→Prop}{C:Ω TV}{D:D0}{E:Int}{I:Ψ (Int×Ad)}{R:Type}{L:Act}{M:Ψ Nat}{Q:FuncId}{U:Prop}
theorem JZ{H:Ψ Bu}:lok b (d++H)↔lok b d/\lok b H:=by grind[lok]
theorem AG8:lok b []:=λ_ h=>by cases h
def xD{v:TV}:∀{l:Ψ TV},v∈l->∀x∈v.refs,x∈TV.refsL l
 |w::r,a,x,hx=>by simp only[TV.refsL,Am];rcases Aw.1 a with rfl|a;exact .inl hx;exact .inr (xD a x hx)
def qo(h:(TV.tup m).ok b)(H:e∈m):e.ok b:=λx c=>h x (by simp only[TV.refs];exact xD H x c)
def Rf{H}:∀{vs:Ψ TV},(∀v∈vs,v.ok H)->(TV.tup vs).ok H
 |[],_=>λx a=>by simp[TV.refs,TV.refsL]at a
 |v::r,h=>by have:=Rf (vs:=r) λw b=>h w (by simp[b]);intro x a;simp only[TV.refs,TV.refsL,Am]at a;rcases a with a|a;exact h v q! x a;exact this x a
theorem ka(h:∀p∈g,p.2.ok b)(t:Nat):(g.get t).ok b:=by
 induction g with
 |nil=>intro x a;simp only[Bf.get,VZ,TV.refs,A9]at a;subst a;trivial
 |cons p r H=>grind[Bf.get]
theorem AB2(v:Value):(AEY v).ok b:=by
 cases v with
 |pointer p=>cases p<;>trivial
 |slice a l c=>
  cases a with
  |some _=>trivial
  |none=>
   match l,c with
   |0,0=>trivial
   |0,_+1=>trivial
   |_+1,_=>trivial
 |_=>trivial
def iY:VZ.ok b:=λx a=>by simp only[VZ,TV.refs,A9]at a;subst a;trivial
theorem J3{H}(h:v.ok H):(TV.c v).ok H:=λy a=>by grind[TV.refs]
theorem AIy(v:Value):(cvT v).ok b:=by
 cases v with
 |agg a=>
  simp only[cvT];cases h:a.toList.all (·.oneCell')with
  |false=>exact iY
  |true=>intro x H;grind[TV.refs,AB2]
 |_=>exact J3 (AB2 _)
theorem gW{H:Ar}(h:∀p∈g,p.2.ok H)(x:Operand):(Jr g x).ok H:=by
 cases x with
 |tmp t=>exact ka h t
 |const v=>exact AIy v
 |global _=>exact iY
 |func f=>exact J3 trivial
theorem G8(a b:Ψ Bu):lvs (a++b)=lvs a++lvs b:=YM
theorem IA(x:Bu)(b:Ψ Bu):lvs (x::b)=x.enc++lvs b:=JS
theorem fD:∀a:Ψ Bu,(lvs a).length=AFy a
 |[]=>rfl
 |x::r=>by rw[IA,Ac,x.enc_len,fD r];rfl
def On:∀{c:Ψ Bu}{n:Nat}{a b:Ψ Bu},Xg c n=Z (a,b)->c=a++b/\(lvs a).length=n
 |c,0,a,b,h=>by cases c<;>simp only[Xg]at h<;>obtain⟨rfl,rfl⟩:=h<;>exact⟨rfl,rfl⟩
 |x::r,n+1,a,b,h=>by simp only[Xg]at h;split at h;rename_i e;split at h;rename_i g i f;obtain⟨rfl,rfl⟩:=h;obtain⟨j,d⟩:=On f;rw[IA,Ac,d,x.enc_len];simp_all;cases h;cases h
mutual
theorem Ty.lvs_enc:∀(t:Ty)(x:t.D),lvs (t.lvs x)=(t.enc x).cells
 |.bool,_=>rfl
 |.int _,_=>rfl
 |.str,_=>rfl
 |.list _,_=>rfl
 |.arr n t,a=>by simp only[Ty.lvs,lvs,JS,pu,Do,Bu.enc]
 |.prod ts,x=>by simp only[Ty.lvs,Ty.enc,Ad.cells];exact ts.lvs_cells x
theorem SM.lvs_cells:∀(a:SM)(x:a.D),Go.Ab.lvs (a.lvs x)=a.cells x
 |.one t,x=>by simp only[SM.lvs,SM.cells];exact t.lvs_enc x
 |.cons t a,x=>by simp only[SM.lvs,SM.cells];rw[G8,t.lvs_enc,a.lvs_cells]
end
mutual
theorem Ty.lvs_ok{H:Ar}:∀(t:Ty)(x:t.D),lok H (t.lvs x)
 |.bool,_=>λy b=>by simp only[Ty.lvs,A9]at b;subst b;trivial
 |.int _,_=>λy b=>by simp only[Ty.lvs,A9]at b;subst b;trivial
 |.str,_=>λy b=>by simp only[Ty.lvs,A9]at b;subst b;trivial
 |.list _,_=>λy b=>by simp only[Ty.lvs,A9]at b;subst b;trivial
 |.arr n t,a=>λy b=>by simp only[Ty.lvs,A9]at b;subst b;trivial
 |.prod ts,x=>by simp only[Ty.lvs];exact ts.lvs_ok x
theorem SM.lvs_ok{H:Ar}:∀(a:SM)(x:a.D),lok H (a.lvs x)
 |.one t,x=>by simp only[SM.lvs];exact t.lvs_ok x
 |.cons t a,x=>by simp only[SM.lvs];exact JZ.2 ⟨t.lvs_ok _,a.lvs_ok _⟩
end
def Mh(h:v.scalar=ζ):v.enc=[v.one]:=by
 cases v with
 |ar n t a=>cases h
 |_=>rfl
def Bu.scalar_cells(h:v.scalar=ζ):v.one.cells=[v.one]:=by
 cases v with
 |ar n t a=>cases h
 |raw x=>cases x<;>first|rfl|cases h
 |_=>rfl
theorem Rh(h:part P a d N=Z e):
  (∃n,tI P a=Z (ζ,n)/\N+n<=(lvs d).length/\e.enc=.agg (((lvs d).drop N).take n)\/tI P a=Z (η,n)/\(lvs d)[N]?=Z e.enc)/\∀H,lok H d->e.ok H:=by
 unfold part at h;split at h;rename_i t r l;obtain⟨rfl,j⟩:=On l;split at h;rename_i n i;split at h;rename_i b c g;obtain⟨rfl,k⟩:=On g;injection h with h;subst h;refine⟨⟨n,.inl ⟨i,?_,?_⟩⟩,λH f=>?_⟩;simp only[G8,Ac];omega;simp only[TV.enc,G8,Ad.agg.injEq];rw[<-j,RS,<-k,Ya];exact(JZ.1 (JZ.1 f).2).1;cases h;rename_i n i;split at h;rename_i x r;split at h;rename_i m;injection h with h;subst h;refine⟨⟨n,.inr ⟨i,?_⟩⟩,λH f=>J3 ((JZ.1 f).2 x q!)⟩;rw[G8,IA,Mh m,Cl o!];simp[j,TV.enc];cases h;cases h;cases h;cases h
def lw(h:part P a d N=Z e)
  (hr:∀n,N+n<=(lvs d).length->QK p u n=Z (((lvs d).drop N).take n)):iu P a p u=Z e.enc:=by
 obtain⟨⟨n,t|t⟩,_⟩:=Rh h;obtain⟨i,g,c⟩:=t;simp only[iu,i,hr n g,Bs,c];obtain⟨i,c⟩:=t;have k:N<(lvs d).length:=by rcases Ay N (lvs d).length with f|f;exact f;rw[Cq f]at c;cases c
 simp only[iu,i,hr 1 o!,AD];rw[List.head?_take,List.head?_drop,c];rfl
theorem rZ(h:Xe b N=Z d):∃ro,b[N]?=Z (.live ro d):=by grind[Xe]
theorem EO(H:Ar)(id:Nat):(BK H)[id]?=(H[id]?).map D0.enc:=CR
theorem un(h:Xe b N=Z d):(BK b)[N]?=Z (.live 0 (lvs d)):=by obtain⟨ro,H⟩:=rZ h;rw[EO,H];rfl
def AG6(H:∀e∈b,e.ok b)(h:Xe b N=Z d):lok b d:=by obtain⟨ro,c⟩:=rZ h;exact H _ (BN c)
def AAl{l:Ψ t.D}(h:Yf b N n t=Z l):∃ro H,b[N]?=Z (.buf ro t l H n):=by unfold Yf at h;split at h;rename_i ro i j H d e;split at h;rename_i g;have c:=DD g;subst c;split at h;rename_i f;have a:=f;have:=Ty.beq_eq i t a;subst this;injection h with h;refine⟨ro,H,?_⟩;rw[e,<-h];rfl;cases h;cases h;cases h
def Xq{l:Ψ t.D}(d:∀e∈b,e.ok b)(hr:S9 b N T t n)(h:Yf b N T t=Z l):(BK b)[N]?=Z (.live n (t.E.cl l))/\θ l=n:=by obtain⟨ro,f,H⟩:=AAl h;obtain⟨_,c⟩:=hr.2 _ _ _ _ _ H;obtain⟨_,rfl⟩:=c rfl;have:f=θ l:=d _ (BN H);refine⟨?_,this.symm⟩;rw[EO,H];rfl
def AAg{a:Gd (n+1) t.D}(h:AEC d N n t=Z a):∃pre b,d=pre++(.ar n t a::b)/\(lvs pre).length=N:=by unfold AEC at h;split at h;rename_i pre k l j b g;split at h;rename_i i;have:=Ty.beq_eq _ _ i;injection this with f e;subst f e;injection h with h;obtain⟨f,e⟩:=On g;refine⟨pre,b,?_,e⟩;rw[f,<-h];rfl;cases h;cases h
theorem cQ(n:Nat)(t:Ty)(a:Gd (n+1) t.D):(Bu.ar n t a).enc=fS (n+1) t.E a:=rfl
section
variable {P:Program}{R:Type}{H:Ar}{k:TV->Ω R}{r:R}
theorem W9(h:okT C k=Z r):∃v,C=Z v/\k v=Z r:=by unfold okT at h;grind
theorem iZ(v:Ad):(tvA v).enc=v:=by cases v<;>rfl
theorem lD(v:Ad):(tvA v).ok H:=by cases v<;>exact J3 trivial
theorem kp{o}(h:okA o k=Z r):∃v,o=Z v/\k (tvA v)=Z r:=by unfold okA at h;grind
theorem lY{o}(h:cond A ε o=Z r):A=η/\o=Z r:=k!
theorem re(B:∀v∈H,v.ok H)(C:e.ok H)(h:loadT P H a e k=Z r):∃u,iu P a (BK H) e.enc=Z u.enc/\k u=Z r/\u.ok H:=by
 unfold loadT at h;split at h;rename_i id g;split at h;rename_i A p;obtain⟨u,f,j⟩:=W9 h;refine⟨u,lw f λn c=>?_,j,(Rh f).2 H (AG6 B p)⟩;grind[TV.enc,Bu.one,QK,un];cases h;rename_i A d;obtain⟨u,f,j⟩:=W9 h;refine⟨u,lw f λn c=>?_,j,(Rh f).2 H C⟩;simp only[TV.enc,QK];grind;rename_i id o n b i g;split at h;rename_i A p;split at h;rename_i t F;obtain⟨v,y,h⟩:=Dn.1 h;obtain⟨u,f,j⟩:=W9 h;obtain⟨pre,d,rfl,q⟩:=AAg F;refine⟨u,lw f λm c=>?_,j,(Rh f).2 H (b.lvs_ok v)⟩;rw[b.lvs_enc,b.enc_len]at c;obtain⟨s,w⟩:=AD9 b.E (lvs pre) (lvs d) y c;have D:lvs (pre++(.ar n b t::d))=lvs pre++fS (n+1) b.E t++lvs d:=by rw[G8,IA,cQ,A6]
 simp only[TV.enc,QK,un p,D];have x:o+i.toNat*b.sz+g=(lvs pre).length+i.toNat*b.E.sz+g:=by rw[q];rfl
 rw[x,C! ⟨O!,s⟩,w,b.lvs_enc];rfl;cases h;cases h;rename_i id z b n i g;split at h;rename_i l p;obtain⟨v,y,h⟩:=Dn.1 h;obtain⟨u,f,j⟩:=W9 h;obtain⟨x,_⟩:=Xq B (C (.own id z b n) (by simp[TV.refs])) p;refine⟨u,lw f λm c=>?_,j,(Rh f).2 H (b.lvs_ok v)⟩;rw[b.lvs_enc,b.enc_len]at c;obtain⟨s,w⟩:=AIm b.E y c;simp only[TV.enc,QK,x];rw[C! ⟨O!,s⟩];show Z (List.take m (List.drop (i.toNat*b.E.sz+g) (b.E.cl l)))=_;rw[w,b.lvs_enc];rfl;cases h;cases h
theorem AAi{i}(h:AIn P i a e S k=Z r):∃u,y8 P i a e.enc S.enc=Z u.enc/\k u=Z r/\u.ok H:=by
 unfold AIn at h;split at h;rename_i n t o b;simp only[TV.enc,Bu.one,y8];split at h;obtain⟨c,h⟩:=lY h;have d:¬b<0:=by simpa using c
 refine⟨_,?_,h,J3 trivial⟩;grind[lC,TV.enc,Bu.one];obtain⟨c,h⟩:=lY h;have d:¬b<0:=by simpa using c
 refine⟨_,?_,h,J3 trivial⟩;grind[lC,TV.enc,Bu.one];split at h;rename_i x;obtain⟨c,h⟩:=lY h;have d:¬b=0:=by simpa using c
 refine⟨_,?_,h,J3 trivial⟩;grind[py,TV.enc,Bu.one];cases h;split at h;rename_i x;obtain⟨c,h⟩:=lY h;have d:¬b=0:=by simpa using c
 refine⟨_,?_,h,J3 trivial⟩;grind[py,TV.enc,Bu.one];cases h;grind[kp,lD,iZ];rename_i t b;simp only[TV.enc,Bu.one,y8];split at h;split at h;rename_i x;exact⟨_,by simp only[C! x,TV.enc,Bu.one],h,J3 trivial⟩;cases h;split at h;rename_i x;exact⟨_,by simp only[C! x,TV.enc,Bu.one],h,J3 trivial⟩;cases h;cases h;rename_i t b;simp only[TV.enc,Bu.one,y8];split at h;obtain⟨s,j,h⟩:=Dn.1 h;exact⟨_,by simp only[xa,TV.enc,Bu.one];exact AJF j,h,J3 trivial⟩;grind[kp,iZ,lD];rename_i l bs;split at h;rename_i m f;split at h;rename_i g;simp only[TV.enc,y8,f,C! g];split at h;exact⟨_,by simp only[TV.enc,Bu.one,eqT],h,J3 trivial⟩;exact⟨_,by simp only[TV.enc,Bu.one,eqT],h,J3 trivial⟩;cases h;cases h;cases h;cases h
def ADf{a}(h:unT a e k=Z r):∃u,unV a e.enc=Z u.enc/\k u=Z r/\u.ok H:=by unfold unT at h;split at h;obtain⟨e,b,h⟩:=kp h;exact⟨_,by rw[iZ];exact b,h,lD e⟩;cases h
def AJ2(l:Ψ Int):(Ty.int .u8).E.cl l=l.map (xm .u8).f:=by
 unfold SO.cl;induction l with
 |nil=>rfl
 |cons n l a=>simp only[CQ,JS,a];rfl
def ACz:Xl P p G a (.int z E)=Xl P [] G a (.int z E):=by unfold Xl;cases kd P a<;>rfl
def AC0{s:Ψ UInt8}:Xl P p G a (.str s)=Xl P [] G a (.str s):=by unfold Xl;cases kd P a<;>rfl
def zE(g:∀d∈H,d.ok H)(c:e.ok H)(h:AEV P H G a e k=Z r):∃u,Xl P (BK H) G a e.enc=Z u.enc/\k u=Z r/\u.ok H:=by
 unfold AEV at h;split at h;rename_i l;split at h;rename_i b;exact⟨_,AFA l b.1 b.2,h,J3 trivial⟩;cases h;rename_i id f n;split at h;rename_i b;split at h;rename_i l j;obtain⟨i,hn⟩:=Xq g (c (.own id f (.int .u8) n) (by simp[TV.refs])) j;refine⟨_,?_,h,J3 trivial⟩;simp only[TV.enc,Bu.one,Xl,b.1,b.2,if_true,rowsOf,i];rw[C! ⟨O!,rfl,by rw[(Ty.int .u8).E.clen,hn];show 0+n<=n*1;omega⟩];have:((Ty.int .u8).E.cl l).length=n:=by rw[(Ty.int .u8).E.clen,hn];exact Nat.mul_one n
 rw[WJ,<-this,Hj,AJ2];exact E! (Option.map Ad.str) (yi l);cases h;cases h;obtain⟨e,c,h⟩:=kp h;exact⟨_,by rw[iZ];exact ACz.trans c,h,lD e⟩;obtain⟨e,c,h⟩:=kp h;exact⟨_,by rw[iZ];exact AC0.trans c,h,lD e⟩;cases h
end
section
variable {P:Program}{R:Type}{H:Ar}{k:TV->Ω R}{r:R}
theorem kF(h:Xe H N=Z d):Tl (BK H) N 0=ζ:=by simp[Tl,un h]
def od{l:Ψ t.D}(b:∀e∈H,e.ok H)(hr:S9 H N T t n)(h:Yf H N T t=Z l):Tl (BK H) N n=ζ:=by simp[Tl,(Xq b hr h).1]
theorem qO(x:∀f∈H,f.ok H)(g:e.ok H)(h:nX P H N n e k=Z r):∃u,WS P (BK H) N n e.enc=Z u.enc/\k u=Z r/\u.ok H:=by
 unfold nX at h;split at h;rename_i B t s z;split at h;cases h;rename_i hn;have d:s≠0:=λf=>t!
 unfold WS;simp only[z,D! d];split at h;rename_i id o;split at h;rename_i p c;exact⟨_,by simp only[TV.enc,Bu.one,shift,kF c,if_true],h,J3 trivial⟩;cases h;rename_i p q;split at h;rename_i a b A;obtain⟨rfl,y⟩:=On A;refine⟨_,?_,h,(JZ.1 g).2⟩;simp only[TV.enc,shift];rw[C! (by simp only[Ac,G8];omega),G8,A6,<-y,RS];cases h;rename_i id m s w i o;split at h;rename_i p c;refine⟨_,?_,h,λ_ h=>by cases h⟩;grind[TV.enc,shift,kF];cases h;rename_i id j w s i o;split at h;rename_i l c;refine⟨_,?_,h,g⟩;simp only[TV.enc,shift,od x (g (.own id j w s) (by simp[TV.refs])) c,if_true,WE];cases h;cases h;cases h
theorem yM(h:part P a d N=Z e)(c:∀t,N+t<=(lvs d).length->n+t<=θ i/\(i.drop n).take t=((lvs d).drop N).take t):vB P a i n=Z e.enc:=by grind[Rh,vB,List.head?_take,List.head?_drop]
theorem xn(d:e.ok H)(h:AAs P N n e k=Z r):∃u,uK P N n e.enc=Z u.enc/\k u=Z r/\u.ok H:=by unfold AAs at h;split at h;rename_i f t s g a;obtain⟨u,c,b⟩:=W9 h;refine⟨u,?_,b,(Rh c).2 H d⟩;simp only[uK,a,TV.enc];grind[yM];cases h
theorem tP{a:Gd n R}{x:R}(h:G1 a E=some x):0<=E/\E<n:=by obtain⟨c,j,rfl,_⟩:=pU h;grind
theorem qa(q: ∀v∈H,v.ok H)(C:e.ok H)(h:ng P H a e S k=some r): ∃u,WX P (BK H) a e.enc S.enc=some u.enc/\k u=some r/\u.ok H:=by
 unfold ng at h;split at h;rename_i N S;simp only[TV.enc,Bu.one,WX];split at h;rename_i len F sz y;simp only[y];split at h;rename_i id J;split at h;rename_i K j;split at h;rename_i pre n b t p M;split at h;rename_i g;obtain⟨rfl,rfl⟩:=g;obtain⟨v,c,h⟩:=Dn.1 h;refine⟨_,?_,h,λ_ h=>by cases h⟩;rw[if_pos (tP c)];simp only[TV.enc,Bu.one,shift,kF j,if_true,O1];cases h;cases h;cases h;rename_i n b t O p;split at h;rename_i g;obtain⟨rfl,rfl⟩:=g;obtain⟨v,c,h⟩:=Dn.1 h;refine⟨_,?_,h,b.lvs_ok v⟩;rw[if_pos (tP c)];obtain⟨_,w,B,_⟩:=AEE b.E c [] [];simp only[CG,Do,Bj,DZ]at w B;have G:S.toNat*b.sz+b.sz<=(fS (n+1) b.E t).length:=w;simp only[TV.enc,shift,IA,cQ];rw[if_pos k!];rw[b.lvs_enc,A6,lM o!];have D:(fS (n+1) b.E t).drop (S.toNat*b.sz)=(b.enc v).cells++(fS (n+1) b.E t).drop (S.toNat*b.sz+b.sz):=by rw[<-J5];have L:((fS (n+1) b.E t).drop (S.toNat*b.sz)).take b.sz=(b.enc v).cells:=B;grind[List.take_append_drop]
 rw[D,A6];rfl;cases h;cases h;rename_i F sz y;simp only[y];split at h;rename_i b l;split at h;rename_i g;subst g;obtain⟨v,c,h⟩:=Dn.1 h;obtain⟨q1,q2⟩:=AK8 (f:=b.enc) c;refine⟨_,?_,h,b.lvs_ok v⟩;simp only[TV.enc,Bu.one];rw[if_pos ⟨q1,trivial⟩,q2,b.lvs_enc,Do];rfl;cases h;rename_i id d b n;split at h;rename_i l j;split at h;rename_i g;subst g;obtain⟨v,c,h⟩:=Dn.1 h;have hr:=C (.own id d b n) (by simp[TV.refs]);obtain⟨I,hn⟩:=Xq q hr j;refine⟨.bptr id d b n S 0,?_,h,λx o=>by simp only[TV.refs,A9]at o;subst o;exact hr⟩;obtain⟨_,_,_,_,s,w,_,_⟩:=tu b.E c;simp only[TV.enc,Bu.one];rw[if_pos ⟨s,o!,trivial,od q hr j⟩,DZ,O1];cases h;cases h;rename_i id d b n A m;split at h;rename_i l j;split at h;rename_i g;subst g;obtain⟨v,c,h⟩:=Dn.1 h;have hr:=C (.own id d b n) (by simp[TV.refs]);obtain⟨I,hn⟩:=Xq q hr j;refine⟨.bptr id d b n ((A:Int)+S) 0,?_,h,λx o=>by simp only[TV.refs,A9]at o;subst o;exact hr⟩;unfold ix at c;split at c;rename_i s;have z:=(EU.1 c).1;rw[BQ,DB]at z;simp only[TV.enc,vwE];rw[if_neg o!];dsimp only;rw[if_pos ⟨s,o!,rfl,od q hr j⟩,O1,show((A:Int)+S).toNat=A+S.toNat by omega,EB];cases c;cases h;cases h;cases h;cases h;cases h
theorem oX{e:TypeId}{sz}{cs}{i}(b:lok H cs):∀{m j:Nat},xf P e sz cs i k m j=Z r->∃u,(0<=i/\i<((j+m:Nat):Int))/\vB P e (lvs cs) (i.toNat*sz)=Z u.enc/\k u=Z r/\u.ok H
 |m+1,j,h=>by
  simp only[xf]at h;cases a:τ (i=Int.ofNat j)with
  |true=>
   rw[a]at h;have f:i=(j:Int):=k!
   obtain⟨u,d,c⟩:=W9 h;refine⟨u,o!,?_,c,(Rh d).2 H b⟩;grind[yM]
  |false=>rw[a]at h;obtain⟨u,q1,q2⟩:=oX b (m:=m) (j:=j+1) h;grind
theorem xw(A:e.ok H)(h:AAx P a e S k=some r): ∃u,kg P a e.enc S.enc=some u.enc/\k u=some r/\u.ok H:=by
 unfold AAx at h;split at h;rename_i B S;split at h;rename_i n c t;split at h;rename_i len x sz o;split at h;rename_i z;obtain⟨rfl,rfl⟩:=z;obtain⟨v,p,h⟩:=Dn.1 h;obtain⟨u,q,f⟩:=W9 h;refine⟨u,?_,f,(Rh q).2 H (c.lvs_ok v)⟩;simp only[TV.enc,Bu.one,kg,o];rw[if_pos (tP p)];refine yM q λm d=>?_;rw[c.lvs_enc,c.enc_len,DZ]at d;obtain⟨j,l⟩:=AD9 c.E (off:=0) [] [] p (m:=m) (by rw[DZ];exact d);simp at j l;have w:lvs [Bu.ar n c t]=fS (n+1) c.E t:=by grind[cQ,lvs]
 rw[w,c.lvs_enc,WJ];exact⟨j,l⟩;cases h;cases h;rename_i g _;split at h;rename_i len x sz o;split at h;obtain⟨u,q1,q2,q3⟩:=oX (cs:=g) (H:=H) A h;grind[TV.enc,Bu.one,kg];cases h;cases h;rename_i s;split at h;rename_i f;obtain⟨b,y,h⟩:=Dn.1 h;exact⟨_,by simp only[TV.enc];exact AKJ y f,h,J3 trivial⟩;cases h;cases h;cases h
theorem cT{d:Nat}(h:y9 d C=some E)(a:0<=E):XL d (C.map TV.enc)=some E.toNat:=by unfold y9 at h;grind[XL,TV.enc,Bu.one,uw]
theorem yZ{G K:Option TV}(E: ∀J∈H,J.ok H)(N:e.ok H)(h:ABa P H a e C G K k=some r): ∃u,iU P (BK H) a e.enc (C.map TV.enc) (G.map TV.enc) (K.map TV.enc)=some u.enc/\k u=some r/\u.ok H:=by
 unfold ABa at h;split at h;cases h;split at h;rename_i s;split at h;rename_i l f i b;split at h;rename_i t;obtain⟨x,c,h⟩:=Dn.1 h;refine⟨_,?_,h,J3 trivial⟩;unfold SL at c;split at c;rename_i v;simp only[TV.enc,Bu.one,iU,cT (d:=0) i v.1,cT b (YK v.1 v.2.1)];grind;cases c;cases h;cases h;rename_i w o;split at h;rename_i l f M sz i b B;split at h;rename_i t;obtain⟨x,c,h⟩:=Dn.1 h;refine⟨_,?_,h,J3 trivial⟩;unfold Xf at c;split at c;rename_i v;have j:(o.map w.enc).length=o.length:=BW _;have y:=cT (d:=0) i v.1;have p:=cT b (YK v.1 v.2.1);have A:XL o.length none=some o.length:=rfl;simp only[TV.enc,Bu.one,iU,j,y,p,A,B];grind[List.map_take,List.map_drop];cases c;cases h;cases h;rename_i id D w n;split at h;rename_i o F;split at h;rename_i l f M sz i b B;split at h;rename_i t;obtain⟨x,c,h⟩:=Dn.1 h;have hr:=N (.own id D w n) (by simp[TV.refs]);obtain⟨O,L⟩:=Xq E hr F;have g:=od E hr F;refine⟨_,?_,h,λz I=>by simp only[TV.refs,A9]at I;subst I;exact hr⟩;unfold Xf at c;split at c;rename_i v;have y:=cT (d:=0) i v.1;have p:=cT b (YK v.1 v.2.1);rw[L]at p;have A:XL n none=some n:=rfl;simp only[TV.enc,Bu.one,iU,nG,y,p,A,B];rw[if_pos ⟨t.symm,w.sz_pos,o!,o!,Al _,g,λq=>by cases q⟩];have m:min (f.toNat-l.toNat) (n-l.toNat)=f.toNat-l.toNat:=o!
 unfold vwE;rw[m];by_cases q0:l.toNat=0;rw[if_pos q0,q0];by_cases q1:f.toNat=0;rw[q1];rfl;rw[if_neg o!,Yd,WG];rw[if_neg q0];by_cases q1:l.toNat=f.toNat
 rw[if_pos q1,if_pos o!,if_neg q0];rw[if_neg q1,if_neg o!,DZ];cases c;cases h;cases h;cases h;cases h
def AA2(f:∀v∈H,v.ok H)(g:e.ok H)(h:AI8 P H a e k=Z r):∃u,qb P (BK H) a e.enc=Z u.enc/\k u=Z r/\u.ok H:=by unfold AI8 at h;split at h;rename_i s t;exact⟨_,by simp only[qb,t,TV.enc,Bu.one],h,J3 trivial⟩;rename_i n v t;exact⟨_,by simp only[qb,t,TV.enc,Bu.one],h,J3 trivial⟩;rename_i c l v t;exact⟨_,by simp only[qb,t,TV.enc,Bu.one,BW],h,J3 trivial⟩;rename_i v id b c n t;split at h;rename_i l d;refine⟨_,?_,h,J3 trivial⟩;simp only[qb,t,TV.enc,Bu.one];cases h;rename_i v t;exact⟨_,by simp only[qb,t,TV.enc,Bu.one],h,J3 trivial⟩;rename_i v id b c n i m t;split at h;rename_i l d;obtain⟨_,hn⟩:=Xq f (g (.own id b c n) (by simp[TV.refs])) d;refine⟨_,?_,h,J3 trivial⟩;simp only[TV.enc,vwE,Bu.one,BQ,DB,hn];split;rename_i q;rw[q];split<;>simp only[qb,t]<;>rfl;simp only[qb,t];cases h;cases h
end
def ZT(h:e.words=Z d):e.enc.solid=ζ/\e.enc.cells=lvs d/\∀H,e.ok H->lok H d:=by unfold TV.words at h;split at h;rename_i x;split at h;rename_i a;simp at a;injection h with h;subst h;refine⟨a.2,?_,λH b=>b⟩;rw[IA,Mh a.1];exact Bu.scalar_cells a.1;cases h;injection h with h;subst h;exact⟨rfl,rfl,λH b=>b⟩;cases h
theorem mA{f c:Ψ Bu}{e n}(h:ADa d e f n=Z c)(hn:(lvs f).length=n):lvs c=XC (lvs d) e (lvs f)/\e+n<=(lvs d).length/\∀H,lok H d->lok H f->lok H c:=by unfold ADa at h;split at h;rename_i a r i;obtain⟨rfl,l⟩:=On i;split at h;rename_i m b g;obtain⟨rfl,o⟩:=On g;refine⟨?_,by simp only[G8,Ac];omega,λH j k=>?_⟩;grind[XC,G8];grind[JZ];cases h;cases h
mutual
theorem Ty.zlvs_ok{H:Ar}:∀t:Ty,lok H t.zlvs
 |.bool=>λy a=>by simp only[Ty.zlvs,A9]at a;subst a;trivial
 |.int _=>λy a=>by simp only[Ty.zlvs,A9]at a;subst a;trivial
 |.str=>λy a=>by simp only[Ty.zlvs,A9]at a;subst a;trivial
 |.list _=>λy a=>by simp only[Ty.zlvs,A9]at a;subst a;trivial
 |.arr n t=>λy a=>by simp only[Ty.zlvs,A9]at a;subst a;trivial
 |.prod b=>by simp only[Ty.zlvs];exact b.zlvs_ok
theorem SM.zlvs_ok{H:Ar}:∀a:SM,lok H a.zlvs
 |.one t=>by simp only[SM.zlvs];exact t.zlvs_ok
 |.cons t a=>by simp only[SM.zlvs];exact JZ.2 ⟨t.zlvs_ok,a.zlvs_ok⟩
end
def ADE(v:Ad):(wh v).enc=[v]:=by cases v<;>rfl
theorem AEu(v:Ad):(wh v).ok b:=by cases v<;>trivial
theorem qf:∀z:Ψ Ad,lvs (z.map wh)=z
 |[]=>rfl
 |v::r=>by rw[CQ,IA,qf r,ADE];rfl
theorem ACO(z:Ψ Ad):lok b (z.map wh):=λx a=>by grind[AEu]
theorem ZW(h:vS P a=Z d):ZU P a=Z (lvs d)/\∀H,lok H d:=by unfold vS at h;split at h;rename_i t b;split at h;rename_i e z;split at h;rename_i c;injection h with h;subst h;exact⟨by rw[b,lS _ _ c],λH=>e.zlvs_ok⟩;grind[qf,ACO];grind[qf,ACO];cases h
theorem uL{p}:∀{a:Ψ (Nat×TV)}{c b:Ψ Bu},zO p c a=Z b->rT p (lvs c) (a.map λq=>(q.1,q.2.enc))=Z (lvs b)/\∀H,lok H c->(∀q∈a,q.2.ok H)->lok H b
 |[],c,b,h=>by simp only[zO,Ao]at h;subst h;exact⟨rfl,λH h _=>h⟩
 |(i,v)::r,c,b,h=>by simp only[zO]at h;split at h;rename_i m size z t l;split at h;rename_i k;have e:=DD k;split at h;rename_i s d;obtain⟨x,y,o⟩:=ZT l;obtain⟨u,w,n⟩:=mA d (by rw[fD,e]);obtain⟨q1,q2⟩:=uL h;refine⟨?_,λH g f=>q2 H (n H g (o H (f (i,v) q!))) λq j=>f q (by simp[j])⟩;grind[rT,fD];cases h;cases h;cases h
section
variable {P:Program}{R:Type}{env:Bf}{H:Ar}{k:TV->Ω R}{r:R}
theorem zA{t}(h:AAm P a t=Z e):tY P a (t.map λq=>(q.1,q.2.enc))=Z e.enc/\((∀q∈t,q.2.ok H)->e.ok H):=by unfold AAm at h;split at h;rename_i z p v j;obtain⟨k,f⟩:=ZW v;rw[TU]at h;obtain⟨g,c,rfl⟩:=h;obtain⟨i,b⟩:=uL c;refine⟨?_,λd=>b H (f H) d⟩;grind[tY,TV.enc];cases h
def qu:∀{l:Ψ TV}{m:Ψ Ad},sU l=Z m->m=l.map TV.enc
 |[],m,h=>by simp only[sU,Ao]at h;subst h;rfl
 |.c x::r,m,h=>by simp only[sU]at h;split at h;rename_i b _ a;injection h with h;subst h;rw[CQ,<-qu a];rfl;cases h
 |.g _::_,m,h=>by simp[sU]at h
 |.aptr .. ::_,m,h=>by simp[sU]at h
 |.bptr .. ::_,m,h=>by simp[sU]at h
 |.vw .. ::_,m,h=>by simp[sU]at h
 |.vptr .. ::_,m,h=>by simp[sU]at h
 |.tup _::_,m,h=>by simp[sU]at h
def wu(h:mmT A e S k=Z r):∃u,mmV A [e.enc,S.enc]=Z u.enc/\k u=Z r/\u.ok H:=by unfold mmT at h;split at h;exact⟨_,by simp only[TV.enc,Bu.one,mmV],h,J3 trivial⟩;cases h
def AA9{z}(h:AI9 e S z k=Z r):∃u,mm3 e.enc S.enc z.enc=Z u.enc/\k u=Z r/\u.ok H:=by unfold AI9 at h;split at h;exact⟨_,by simp only[TV.enc,Bu.one,mm3],h,J3 trivial⟩;cases h
theorem xC{F}(ok:N3 env H)(h:quT P env H F k=Z r):∃v,Cg P (By env) (BK H) F=Z v.enc/\k v=Z r/\v.ok H:=by
 have j:∀x,(Jr env x).ok H:=gW ok.env;have g:=Lg env;unfold quT at h;split at h;grind[Cg];grind[Cg];rename_i c a b;split at h;rename_i t K;have w:BP (By env) c=.bool t:=by rw[g,K];rfl
 grind[Cg,Bool.false_eq_true];cases h;obtain⟨u,d,e⟩:=re ok.heap (j _) h;grind[Cg];rename_i x;split at h;grind[BP,By,Cg,kF,TV.enc,Bu.one,J3];grind[BP,By,Cg,TV.enc,Bu.one,J3];grind[BP,By,lvs,Cg,TV.enc];grind[BP,By,Cg,kF,TV.enc];rename_i id D G n i B s;split at h;rename_i l A;have w:BP (By env) x=.ptr id n (i.toNat*G.sz+B):=by rw[g,s];rfl
 have:=j x;rw[s]at this;exact⟨_,by simp only[Cg,w,od ok.heap (this (.own id D G n) (by simp[TV.refs])) A,if_true,TV.enc],h,this⟩;cases h;cases h;simp_all[AAi,Cg];obtain⟨u,d,e⟩:=ADf (H:=H) h;exact⟨u,by simp only[Cg,g,d],e⟩;obtain⟨u,d,e⟩:=zE ok.heap (j _) h;exact⟨u,by simp only[Cg,g,d],e⟩;obtain⟨u,d,e⟩:=qO ok.heap (j _) h;exact⟨u,by simp only[Cg,g,d],e⟩;obtain⟨u,d,e⟩:=xn (j _) h;exact⟨u,by simp only[Cg,g,d],e⟩;obtain⟨u,d,e⟩:=qa ok.heap (j _) h;exact⟨u,by simp only[Cg,g,d],e⟩;obtain⟨u,d,e⟩:=xw (H:=H) (j _) h;exact⟨u,by simp only[Cg,g,d],e⟩;rename_i t x Q O R;obtain⟨u,d,e⟩:=yZ ok.heap (j _) h;have q:∀o:Ω Operand,o.map (BP (By env))=(o.map (Jr env)).map TV.enc:=by
  intro o;cases o with
  |none=>rfl
  |some y=>simp only[Bs,g]
 exact⟨u,by simp only[Cg,g,q,d],e⟩;rename_i x i;split at h;rename_i N s;split at h;rename_i v z;have w:BP (By env) x=.tup (N.map TV.enc):=by rw[g,s];simp only[TV.enc,uH]
 have E:=j x;rw[s]at E;exact⟨v,by simp only[Cg,w,CR,z,Bs],h,qo E (BN z)⟩;cases h;cases h;rename_i f a b;split at h;rename_i l m A L;refine⟨_,?_,h,J3 trivial⟩;have q:∀o:Ψ Operand,o.map (BP (By env))=(o.map (Jr env)).map TV.enc:=by intro o;rw[Oz];exact M9 λy _=>g y
 simp only[Cg,q,<-qu A,<-qu L,TV.enc,Bu.one];cases h;rename_i t C;obtain⟨v,z,h⟩:=W9 h;obtain⟨I,J⟩:=zA (H:=H) z;refine⟨v,?_,h,J λq M=>?_⟩;simp only[Cg];rw[<-I,Oz];congr 1;exact M9 λp _=>by simp only[Function.comp,g]
 obtain⟨p,_,rfl⟩:=Bn.1 M;exact j _;obtain⟨u,d,e⟩:=AA2 ok.heap (j _) h;exact⟨u,by simp only[Cg,g,d],e⟩;obtain⟨u,d,e⟩:=wu (H:=H) h;exact⟨u,by simp only[Cg,g,d],e⟩;obtain⟨u,d,e⟩:=wu (H:=H) h;exact⟨u,by simp only[Cg,g,d],e⟩;obtain⟨u,d,e⟩:=AA9 (H:=H) h;exact⟨u,by simp only[Cg,g,d],e⟩;cases h
end
def Conv(x y:Cx)(v v':Ad):Prop:=∀c,Bw x v c->Bw y v' c
def TM(x y:Cx)(H H2:Au):Prop:=
 θ H2=θ H/\∀(j:Nat)(e':Fx),H2[j]?=Z e'->e'=.dead\/
  (∃g cs cs',H[j]?=Z (.live g cs)/\e'=.live g cs'/\θ cs'=θ cs/\∀(i:Nat)(v':Ad),cs'[i]?=Z v'->∃v,cs[i]?=Z v/\Conv x y v v')\/
  (H[j]?=Z e'/\∀g cs,e'≠.live g cs)
theorem TM.refl(x:Cx)(H:Au):TM x x H H:=by
 refine⟨rfl,λj a d=>?_⟩;cases a with
 |live g c=>exact .inr (.inl ⟨g,c,c,d,rfl,rfl,λi v b=>⟨v,b,λ_ r=>r⟩⟩)
 |_=>grind
theorem TM.own{H d}{h}(hr:TM x y H d):∀B,owned h d B->owned h H B:=by rintro B ⟨j,f,i,c,a⟩;rcases hr.2 j f i with b|⟨g,k,e,b,_⟩|⟨b,_⟩;grind;exact⟨j,_,b,q!,a⟩;exact⟨j,_,b,c,a⟩
def TM.later{h}{H a}{w}{x y}(hr:TM x y H a):(cx X h H w).Later (cx X h a w):={size:=Al _,keep:=λ_ _ _ _=>rfl,own:=λB _ b=>b.imp _root_.id (hr.own B),n:=by simp[cx,hr.1],gen:=λ_ _=>Al _,same:=λ_ _ _=>⟨rfl,rfl⟩}
theorem JP.rel{X:Nat->Prop}{h}(s:JP X h p w)(hr:TM (cx X h p w) (cx X h Y w) p Y):JP X h Y w:=by
 have y:=hr.own (h:=h);have M:(cx X h p w).Later (cx X h Y w):=hr.later;have back:∀{j:Nat}{e:Fx},Y[j]?=δ e->e≠.dead->∃N,p[j]?=δ N/\N≠.dead:=by intro j e l ad;rcases hr.2 j e l with a|⟨g,z,C,a,_⟩|⟨a,_⟩;grind;grind;grind
 refine⟨λB n=>⟨(s.out B n).1,λho=>(s.out B n).2 (y B ho)⟩,λj Q C l=>?_,λj L l=>?_,λi j e e' B a c J K O D=>?_,s.bldKeep λj e l n=>?_⟩;rcases hr.2 j _ l with a|⟨g,z,o,a,c,O,D⟩|⟨_,a⟩;cases a;injection c with R S;subst R S;obtain⟨I,W⟩:=s.live j Q z a;refine⟨I,?_⟩;rcases W with⟨k,h0⟩|⟨B,A,T,P,f,k,V,q,Z,G,b⟩;refine .inl ⟨k,?_⟩;grind;refine .inr ⟨B,A,T,P,f,k,V,q,o!,G,λi v' H=>?_⟩;obtain⟨v,hv,U⟩:=D i v' H;obtain⟨p1,p2,p3⟩:=b i v hv;exact⟨p1,p2,U _ p3⟩;grind;rcases hr.2 j _ l with a|⟨g,z,o,_,c,_⟩|⟨a,_⟩;cases a;cases c;obtain⟨I,B,r,q1,q2,q3,q4,q5,q6,q7,q8,q9⟩:=s.lp j L a;exact⟨I,B,r,q1,q2,q3,q4,q5,q6,q7,q8,λt v m=>⟨(q9 t v m).1,(q9 t v m).2.later M⟩⟩;obtain⟨d,E,F⟩:=back a J;obtain⟨d',u,x⟩:=back c K;exact s.inj i j _ _ B E u F x O D;refine⟨?_,rfl,rfl,rfl,λ_ _ _ _ _=>rfl⟩;rcases hr.2 j _ l with a|⟨g,z,o,_,c,_⟩|⟨a,_⟩;subst a;cases n;subst c;cases n;exact a
theorem TM.onto(hr:TM (cx X h p w) (cx X h p w) p Y):TM (cx X h p w) (cx X h Y w) p Y:=by have e:(cx X h p w).Later (cx X h Y w):=hr.later;refine⟨hr.1,λj k H=>?_⟩;rcases hr.2 j k H with d|⟨g,f,b,d,l,m,n⟩|d;grind;refine .inr (.inl ⟨g,f,b,d,l,m,λi q o=>?_⟩);obtain⟨v,q1,q2⟩:=n i q o;exact⟨v,q1,λc r=>(q2 c r).later e⟩;grind
def Wg{env2:Env}(f:θ Y=θ p)(hr:∀X h w,JP X h p w→TM (cx X h p w) (cx X h Y w) p Y∧ ∀t c,(t,c)∈env2→ ∃v,(t,v)∈s∧Conv (cx X h p w) (cx X h Y w) v c):
  Fb N (θ p) s p env2 Y:=by
 refine⟨o!,λX h a w H=>?_⟩;obtain⟨q1,q2⟩:=hr X h w H.sim;refine⟨h,⟨H.sim.rel q1,λt c m=>?_,H.size⟩,λ_ _=>⟨rfl,rfl,rfl⟩,q1.own⟩;obtain⟨v,d,e⟩:=q2 t c m;exact⟨(H.env t v d).1,e _ (H.env t v d).2⟩
def TM.ext{X:Nat->Prop}{c}{H a b}{d}(hr:TM x y H b)(e:HN c a d h H w):HN c a d h b w where
 os:=e.os
 tape:=e.tape
 output:=e.output
 size:=e.size
 keep:=e.keep
 n:=by rw[hr.1];exact e.n
 gen:=e.gen
 same:=e.same
 fresh B hB:=e.fresh B (hr.own B hB)
 loops:=e.loops
def Jq.after{N:Nat}{H:Au}{v f:Ad}{H1 b:Au}(h:Jq P N o s H (DT v H1))
  (hr:∀X h w,JP X h H1 w->TM (cx X h H1 w) (cx X h b w) H1 b/\Conv (cx X h H1 w) (cx X h b w) v f):Jq P N o s H (DT f b):=by
 intro r X g a w p Q;apply Wc (h r X g a w p Q);rintro n l ⟨c,u,d,m,i,⟨rfl,rfl⟩,j,e,k⟩;obtain⟨q1,q2⟩:=hr X d l e;exact⟨c,_,d,_,i,⟨rfl,rfl⟩,q2 _ j,e.rel q1,TM.ext (X:=X) q1 k⟩
def Jq.before{N}{env2}{H H2:Au}{K:Ad->Au->Prop}(b:Fb N (θ H) s H env2 H2)(h:Jq P N o env2 H2 K):Jq P N o s H K:=by intro r X g a w x Q;obtain⟨f,q,j,l⟩:=b.2 X g a w x;apply Wc (h r X f a w q Q);rintro t u ⟨c,v,e,d,i,k,n,m,p⟩;exact⟨c,v,e,d,i,k,n,m,(Fb.ext rfl b.1 j l (HN.refl g H w)).trans p⟩
def Ei.before{args args2:Ψ Ad}{H H2:Au}{K:Ad→Au→Prop}(hn:θ args2=θ args)
  (hr:∀X h w,JP X h H w->TM (cx X h H w) (cx X h H2 w) H H2/\∀(j:Nat)(b:Ad),args2[j]?=Z b->∃v,args[j]?=Z v/\Conv (cx X h H w) (cx X h H2 w) v b)
  (h:Ei P Q args2 H2 K):Ei P Q args H K:=by
 intro X g w a s n k;obtain⟨q1,q2⟩:=hr X g w s;refine(h X g w a (s.rel q1) o! λj b c m l=>?_).mono ?_;obtain⟨v,o,d⟩:=q2 j b m;exact d _ (k j v c o l);rintro e t ⟨c,v,i,f,rfl,q,r,p,x⟩;exact⟨c,v,i,f,rfl,q,r,p,(TM.ext (X:=X) q1 (HN.refl g H w)).trans x⟩
def XI(v v':Ad):Prop:=∀(x:Cx)(c:Value),Bw x v c->Bw x v' c
def XI.refl(v:Ad):XI v v:=λ_ _ h=>h
def XI.nil{sz:Nat}(h:0<sz):XI .nils (.vs sz []):=λ_ _ r=>r.nil_vs h
def Dq(cs cs':Ψ Ad):Prop:=θ cs'=θ cs/\∀(i:Nat)(v':Ad),cs'[i]?=Z v'->∃v,cs[i]?=Z v/\XI v v'
theorem Dq.refl(a:Ψ Ad):Dq a a:=⟨rfl,λ_ v h=>⟨v,h,.refl v⟩⟩
theorem Dq.append{b f}(c:Dq i O)(g:Dq b f):Dq (i++b) (O++f):=by refine⟨by simp[c.1,g.1],λa j h=>?_⟩;rcases Ay a (θ O) with d|d;rw[CW d]at h;obtain⟨v,q1,q2⟩:=c.2 a j h;grind;rw[Cl d]at h;obtain⟨v,q1,q2⟩:=g.2 _ j h;exact⟨v,by rw[Cl (by rw[<-c.1];exact d),<-c.1];exact q1,q2⟩
theorem Dq.one{b}(h:XI u b):Dq [u] [b]:=⟨rfl,λi v a=>by
 match i,a with
 |0,a=>grind
 |i+1,a=>simp at a⟩
def Dq.agg{b a}(h:Dq b a):XI (.agg b) (.agg a):=by
 intro x c r;cases r with
 |agg i e hr=>refine .agg (by rw[i,h.1]) e λj k d g f=>?_;obtain⟨v,q1,q2⟩:=h.2 j k g;exact q2 _ _ (hr j v d q1 f)
mutual
def Ty.mk:(t:Ty)->Ψ Bu->Ω (t.D×Ψ Bu)
 |.bool,.bl b::r=>Z (b,r)
 |.int k,.it k' n::r=>if k=k' then Z (n,r)else ε
 |.str,.st s::r=>Z (s,r)
 |.list t,.ls t' l::r=>if h:(Ty.list t').beq (Ty.list t)=ζ then Z (Ty.cast h l,r)else ε
 |.list _,.nil::r=>Z ([],r)
 |.arr n t,.ar n' t' a::r=>if h:(Ty.arr n' t').beq (Ty.arr n t)=ζ then Z (Ty.cast h a,r)else ε
 |.prod ts,ls=>ts.mk ls
 |_,_=>ε
def SM.mk:(ts:SM)->Ψ Bu->Ω (ts.D×Ψ Bu)
 |.one t,ls=>t.mk ls
 |.cons t ts,ls=>
  match t.mk ls with
  |some (x,r)=>match ts.mk r with|some (y,r')=>Z ((x,y),r')|none=>ε
  |none=>ε
end
mutual
theorem Ty.mk_spec:∀(t:Ty)(b:Ψ Bu)(x:t.D)(r:Ψ Bu),t.mk b=Z (x,r)->∃a,b=a++r/\Dq (lvs a) (t.enc x).cells
 |.bool,b,x,r,h=>by
  cases b with
  |nil=>simp[Ty.mk]at h
  |cons y b=>
   cases y<;>simp only[Ty.mk]at h<;>try (cases h;done)
   simp only[Ao,Ee]at h;obtain⟨rfl,rfl⟩:=h;exact⟨[_],rfl,Dq.refl _⟩
 |.int k,b,x,r,h=>by
  cases b with
  |nil=>simp[Ty.mk]at h
  |cons y b=>
   cases y<;>simp only[Ty.mk]at h<;>try (cases h;done)
   split at h;rename_i f;subst f;simp only[Ao,Ee]at h;obtain⟨rfl,rfl⟩:=h;exact⟨[_],rfl,Dq.refl _⟩;cases h
 |.str,b,x,r,h=>by
  cases b with
  |nil=>simp[Ty.mk]at h
  |cons y b=>
   cases y<;>simp only[Ty.mk]at h<;>try (cases h;done)
   simp only[Ao,Ee]at h;obtain⟨rfl,rfl⟩:=h;exact⟨[_],rfl,Dq.refl _⟩
 |.list t,b,x,r,h=>by
  cases b with
  |nil=>simp[Ty.mk]at h
  |cons y b=>
   cases y<;>simp only[Ty.mk]at h<;>try (cases h;done)
   split at h;rename_i c;simp only[Ao,Ee]at h;obtain⟨rfl,rfl⟩:=h;refine⟨[_],rfl,?_⟩;have d:((Ty.list t).enc (Ty.cast c ‹_›))=_:=dm c _;rw[d];exact Dq.refl _;cases h;simp only[Ao,Ee]at h;obtain⟨rfl,rfl⟩:=h;exact⟨[_],rfl,Dq.one (XI.nil t.sz_pos)⟩
 |.arr n t,b,x,r,h=>by
  cases b with
  |nil=>simp[Ty.mk]at h
  |cons y b=>
   cases y<;>simp only[Ty.mk]at h<;>try (cases h;done)
   split at h;rename_i c;simp only[Ao,Ee]at h;obtain⟨rfl,rfl⟩:=h;refine⟨[_],rfl,?_⟩;have d:((Ty.arr n t).enc (Ty.cast c ‹_›))=_:=dm c _;rw[d];have e:∀y:Bu,lvs [y]=y.enc:=λy=>by rw[IA];simp[lvs]
   rw[e];exact Dq.refl _;cases h
 |.prod ts,b,x,r,h=>ts.mk_spec b x r (by simpa only[Ty.mk]using h)
theorem SM.mk_spec:∀(d:SM)(c:Ψ Bu)(x:d.D)(r:Ψ Bu),d.mk c=Z (x,r)->∃a,c=a++r/\Dq (lvs a) (d.cells x)
 |.one t,c,x,r,h=>t.mk_spec c x r (by simpa only[SM.mk]using h)
 |.cons t d,c,x,r,h=>by simp only[SM.mk]at h;split at h;rename_i y e f;split at h;rename_i z k g;simp only[Ao,Ee]at h;obtain⟨rfl,rfl⟩:=h;obtain⟨a,rfl,i⟩:=t.mk_spec c y e f;obtain⟨b,rfl,j⟩:=d.mk_spec e z k g;exact⟨a++b,by rw[A6],by rw[G8];exact i.append j⟩;cases h;cases h
end
def Ty.isAgg:Ty->Bool
 |.arr .. =>ζ
 |.prod _=>ζ
 |_=>η
def Ty.all(t:Ty)(ls:Ψ Bu):Ω t.D:=
 match t.mk ls with
 |some (x,[])=>Z x
 |_=>ε
theorem F5{x:t.D}(h:t.all d=Z x):Dq (Go.Ab.lvs d) (t.enc x).cells:=by unfold Ty.all at h;split at h;rename_i y c;obtain⟨a,rfl,b⟩:=t.mk_spec d y [] c;grind;cases h
def Ty.data(t:Ty)(v:TV):Ω t.D:=
 match v with
 |.c x=>match t.isAgg|| !x.scalar with|true=>ε|false=>t.all [x]
 |.g cs=>match t.isAgg with|true=>t.all cs|false=>ε
 |_=>ε
def Ty.scalar_cells(h:t.isAgg=η)(x:t.D):(t.enc x).cells=[t.enc x]:=by cases t<;>first|rfl|cases h
def Ty.agg_enc(h:t.isAgg=ζ)(x:t.D):t.enc x=.agg (t.enc x).cells:=by cases t<;>first|rfl|cases h
def Mi{v}{x:t.D}(h:t.data v=Z x):XI v.enc (t.enc x):=by unfold Ty.data at h;split at h;rename_i y;split at h;cases h;rename_i a;simp at a;have:=F5 h;rw[t.scalar_cells a.1,IA,Mh a.2]at this;obtain⟨u,b,c⟩:=this.2 0 _ rfl;simp at b;subst b;exact c;rename_i d;split at h;rename_i a;have:=(F5 h).agg;rw[<-t.agg_enc a]at this;exact this;cases h;cases h
def Ty.tv(t:Ty)(x:t.D):TV:=
 match t,x with
 |.bool,b=>.c (.bl b)
 |.int k,n=>.c (.it k n)
 |.str,s=>.c (.st s)
 |.list t,l=>.c (.ls t l)
 |.arr n t,a=>.g [.ar n t a]
 |.prod ts,x=>.g (ts.lvs x)
def Ty.tv_enc(t:Ty)(x:t.D):(t.tv x).enc=t.enc x:=by
 cases t with
 |arr n t=>
  have a:∀y:Bu,Go.Ab.lvs [y]=y.enc:=λy=>by rw[IA];simp[Go.Ab.lvs]
  simp only[Ty.tv,TV.enc,a];rfl
 |prod b=>simp only[Ty.tv,TV.enc,b.lvs_cells];rfl
 |_=>rfl
def Ty.tv_ok(t:Ty)(x:t.D):(t.tv x).ok b:=by
 cases t with
 |prod a=>exact a.lvs_ok x
 |_=>exact J3 trivial
def D0.ro:D0->Bool
 |.dead=>η
 |.live b _=>b
 |.buf b _ _ _ _=>b
 |.lp b _ _ _ _ _ _ _=>b
 |.mp b _ _ _=>b
def D0.isLp:D0->Bool
 |.lp .. =>ζ
 |_=>η
def LpS(H H':Ar):Prop:=∀(id:Nat),id<θ H->∀ro F n env ps a b s,H'[id]?=Z (.lp ro F n env ps a b s)->∃ro0 s0,H[id]?=Z (.lp ro0 F n env ps a b s0)
def LpS.refl(H:Ar):LpS H H:=λ_ _ _ _ _ _ _ _ _ _ h=>⟨_,_,h⟩
def D0.lock:D0->D0
 |.dead=>.dead
 |.live _ cs=>.live ζ cs
 |.buf _ t l n ver=>.buf ζ t l n ver
 |.lp _ F n env ps a b s=>.lp ζ F n env ps a b s
 |.mp _ k t es=>.mp ζ k t es
theorem pH(e:D0):e.lock.enc=e.enc:=by cases e<;>rfl
structure CE(H H':Ar):Prop where
 len:θ H<=θ H'
 refs:∀id ver t n,S9 H id ver t n->S9 H' id ver t n
 ro:∀(id:Nat)(e:D0),H[id]?=Z e->e.ro=ζ->H'[id]?=Z e
 nb:∀id,id<θ H->(∀t l n ver,H[id]? ≠Z (.buf η t l n ver))->∀t l n ver,H'[id]? ≠Z (.buf η t l n ver)
 lp:LpS H H'
theorem CE.refl(H:Ar):CE H H:=⟨Al _,λ_ _ _ _ h=>h,λ_ _ h _=>h,λ_ _ h=>h,.refl H⟩
def CE.trans{a b c}(h:CE a b)(k:CE b c):CE a c:=⟨CK h.len k.len,λid d t n q=>k.refs id d t n (h.refs id d t n q),λid e q r=>k.ro id e (h.ro id e q r) r,λid q r=>k.nb id (DE q h.len) (h.nb id q r),λid q _ _ _ _ _ _ _ _ r=>by obtain⟨g,i,f⟩:=k.lp id (DE q h.len) _ _ _ _ _ _ _ _ r;exact h.lp id q _ _ _ _ _ _ _ _ f⟩
def CE.leaf(h:CE F b)(k:v.ok F):v.ok b:=by
 cases v with
 |own id a t n=>exact h.refs id a t n k
 |_=>trivial
def CE.lok(h:CE b F)(k:lok b d):lok F d:=λx c=>h.leaf (k x c)
def CE.tv(h:CE b F)(k:e.ok b):e.ok F:=h.lok k
def CE.ent(h:CE b F)(k:D.ok b):D.ok F:=by
 cases D with
 |live H d=>exact h.lok k
 |buf H t l n c=>exact k
 |dead=>trivial
 |lp=>exact k
 |mp=>exact k
def CE.env{H a}(h:CE H a){env:Bf}(k:∀p∈env,p.2.ok H):∀p∈env,p.2.ok a:=λp b=>h.tv (k p b)
theorem CE.push(H:Ar)(e:D0):CE H (H++[e]):=by refine⟨q!,λid g t n h=>⟨by have:=h.1;simp;omega,λro f l d a b=>?_⟩,λid i b hr=>?_,λid c h=>k!,λid c _ _ _ _ _ _ _ _ h=>k!⟩;rw[CW h.1]at b;exact h.2 ro f l d a b;grind
def CE.set{H:Ar}{id:Nat}{r:D0}(o:H[id]?=Z D)(hr:D.ro=η)
  (y:∀ro t l n k,r=.buf ro t l n k->∃d v p f,D=.buf d t v p f/\(f<k\/(f=k/\p=n)))
  (B:∀ro F n env z a b s,r=.lp ro F n env z a b s->∃d w,D=.lp d F n env z a b w:=by intro _ _ _ _ _ _ _ _ h;cases h):CE H (H.set id r):=by
 have m:id<θ H:=by rcases Ay id (θ H) with u|u;exact u;rw[Cq u]at o;cases o
 refine⟨q!,λj k t n h=>⟨by simpa using h.1,λro I l G A g=>?_⟩,λj E g x=>?_,λj g h t l n k i=>?_,λj g _ _ _ _ _ _ _ _ i=>?_⟩;by_cases c:j=id;subst c;rw[Hq m]at g;injection g with g;obtain⟨d,v,p,f,q1,q2⟩:=y _ _ _ _ _ g;subst q1;obtain⟨C,e⟩:=h.2 _ _ _ _ _ o;rcases q2 with q2|⟨rfl,rfl⟩;exact⟨o!,λD=>o!⟩;exact⟨C,e⟩;rw[Db (c ·.symm)]at g;exact h.2 _ _ _ _ _ g;have c:j≠id:=by rintro rfl;rw[o]at g;injection g with g;subst g;rw[hr]at x;cases x
 rw[Db (c ·.symm)];exact g;by_cases c:j=id;subst c;rw[Hq m]at i;injection i with i;obtain⟨d,v,p,f,q1,_⟩:=y _ _ _ _ _ i;subst q1;have:d=η:=hr;subst this;exact h _ _ _ _ o;rw[Db (c ·.symm)]at i;exact h _ _ _ _ i;by_cases c:j=id;subst c;rw[Hq m]at i;injection i with i;obtain⟨d,w,q⟩:=B _ _ _ _ _ _ _ _ i;exact⟨d,w,by rw[o,q]⟩;rw[Db (c ·.symm)]at i;exact⟨_,_,i⟩
theorem Py{H:Ar}(h:∀x∈H,x.ok H)(b:D.ok (H++[D])):∀x∈H++[D],x.ok (H++[D]):=by intro x a;rcases Am.1 a with a|a;exact(CE.push H D).ent (h x a);grind
def Rg{H}{id}(d:CE H (H.set id D))(h:∀x∈H,x.ok H)(c:D.ok (H.set id D)):∀x∈H.set id D,x.ok (H.set id D):=by intro x b;rcases Qo b with b|rfl;exact d.ent (h x b);exact c
def Frame(F:Ψ Nat)(H H':Ar):Prop:=∀j,j<θ H->j∉F->H'[j]?=H[j]?
def Frame.refl(F:Ψ Nat)(H:Ar):Frame F H H:=λ_ _ _=>rfl
def Frame.push(F:Ψ Nat)(H:Ar)(e:D0):Frame F H (H++[e]):=λ_ a _=>CW a
theorem Frame.set{F:Ψ Nat}{H}{id:Nat}(h:id∈F):Frame F H (H.set id D):=λj _ hn=>Db λq:id=j=>hn k!
def idT:TV->Ψ Nat
 |.c (.raw a)=>qY a
 |.c (.own id _ _ _)=>[id]
 |.aptr id .. =>[id]
 |.bptr id .. =>[id]
 |.vw id .. =>[id]
 |_=>[]
def AG1(v:TV):∀id∈qY v.enc,id∈idT v:=by
 cases v with
 |c x=>
  cases x with
  |_=>exact λ_ h=>h
 |vw id a t n b m=>intro i h;simp only[TV.enc,vwE]at h;split at h;split at h;exact h;cases h;exact h
 |_=>exact λ_ h=>h
def RX(H:Ar)(e:D0):BK (H++[e])=BK H++[e.enc]:=by simp[BK]
theorem LJ(H:Ar)(id:Nat)(e:D0):BK (H.set id e)=(BK H).set id e.enc:=by simp[BK]
theorem CZ(H:Ar):(BK H).length=θ H:=BW _
section
variable {R:Type}
def storeT(P:Program)(H:Ar)(t:TypeId)(p v:TV)(k:TV->Ar->Ω R):Ω R:=
 match v.words,tI P t with
 |some ws,Z (_,n)=>
  match ξ (AFy ws) n with
  |false=>ε
  |true=>
   match p with
   |.c (.raw (.ptr id 0 off))=>
    match H[id]? with
    |some (.live η cs)=>match ADa cs off ws n with|some cs'=>k VZ (H.set id (.live η cs'))|none=>ε
    |_=>ε
   |.aptr id base m te i off=>
    match H[id]? with
    |some (.live η cs)=>
     match Xg cs base with
     |some (pre,.ar m' te' a::post)=>
      if h:(Ty.arr m' te').beq (Ty.arr m te)=ζ then
       (G1 (n:=m+1) (Ty.cast h a) i).bind λe=>
        match ADa (te.lvs e) off ws n with
        |some ls=>match te.all ls with|some e'=>k VZ (H.set id (.live η (pre++(.ar m te (XK (n:=m+1) (Ty.cast h a) i e')::post))))|none=>ε
        |none=>ε
      else ε
     |_=>ε
    |_=>ε
   |.bptr id ver te _ i off=>
    match H[id]? with
    |some (.buf η te' l n' ver')=>
     match ξ ver ver' with
     |true=>
      if h:(Ty.list te').beq (Ty.list te)=ζ then
       (ix (α:=te.D) (Ty.cast h l) i).bind λe=>
        match ADa (te.lvs e) off ws n with
        |some ls=>match te.all ls with|some e'=>k VZ (H.set id (.buf η te (ER (α:=te.D) (Ty.cast h l) i e') n' ver'))|none=>ε
        |none=>ε
      else ε
     |false=>ε
    |_=>ε
   |_=>ε
 |_,_=>ε
theorem AAG{b d:Ψ Ad}(h:N+θ d<=θ O):XC (i++O++b) (θ i+N) d=i++XC O N d++b:=by
 unfold XC;have e:(i++O++b).take (θ i+N)=i++O.take N:=by rw[A6,fL,BO o!,TS,WD o!]
 have f:(i++O++b).drop (θ i+N+θ d)=O.drop (N+θ d)++b:=by grind[List.drop_drop,List.drop_left]
 grind
theorem TM.set_less{H m n:Au}{f cs':Ψ Ad}(k:N<θ H)(s:m=H.set N (.live T f))(t:n=H.set N (.live T cs'))(o:Dq f cs')(d:x.Later y):TM x y m n:=by
 subst s t;refine⟨q!,λj p a=>?_⟩;by_cases b:j=N;subst b;rw[Hq k]at a;injection a with a;subst a;refine .inr (.inl ⟨T,f,cs',k!,rfl,o.1,λi l h=>?_⟩);obtain⟨v,q1,q2⟩:=o.2 i l h;exact⟨v,q1,λc r=>q2 _ _ (r.later d)⟩;rw[Db (b ·.symm)]at a;cases p with
 |live q c0=>exact .inr (.inl ⟨q,c0,c0,k!,rfl,rfl,λi l h=>⟨l,h,λc r=>r.later d⟩⟩)
 |_=>grind
theorem iK(l:θ Y=θ p)(i:∀(j:Nat)(e:Fx),Y[j]?=Z e->e≠.dead->∃a,p[j]?=Z a/\a≠.dead):(cx X h p w).Later (cx X h Y w):={size:=Al _,keep:=λ_ _ _ _=>rfl,gen:=λ_ _=>Al _,same:=λ_ _ _=>⟨rfl,rfl⟩,n:=by simp[cx,l],own:=λB _ m=>m.imp _root_.id (λ⟨j,e,k,d,c⟩=>by obtain⟨a,f,g⟩:=i j e k d;exact⟨j,a,f,g,c⟩)}
theorem Jq.set_less{N}{b cs':Ψ Ad}(d:n<θ p)(h:Jq P N o s p (DT u (p.set n (.live T b))))(f:Dq b cs'):Jq P N o s p (DT u (p.set n (.live T cs'))):=by
 refine Jq.after h λX e w _=>?_;have a:(cx X e (p.set n (.live T b)) w).Later (cx X e (p.set n (.live T cs')) w):=by grind[iK]
 exact⟨TM.set_less d rfl rfl f a,λc r=>r.later a⟩
theorem HM{l:Ψ R}{x:R}(h:l[N]?=Z x):N<θ l:=k!
variable {P:Program}{N:Nat}{o:Oper}{env:Bf}{H:Ar}{k:TV->Ar->Ω R}{r:R}
def ml(P:Program)(N:Nat)(o:Oper)(env:Bf)(H:Ar)(F:Ψ Nat)(k:TV->Ar->Ω R)(r:R):Prop:=
 ∃v H',Jq P N o (By env) (BK H) (DT v.enc (BK H'))/\k v H'=Z r/\v.ok H'/\(∀e∈H',e.ok H')/\CE H H'/\Frame F H H'
theorem ya(ok:N3 env H)(ho:o.op=.store a c J)(h:storeT P H a (Jr env c) (Jr env J) k=δ r):ml P N o env H (idT (Jr env c)) k r:=by
 have V:=Lg env;have a1:(Jr env J).ok H:=gW ok.env J;have ao:(Jr env c).ok H:=gW ok.env c;unfold storeT at h;split at h;rename_i ws b n hw ht;obtain⟨w1,Y,w3⟩:=ZT hw;split at h;cases h;rename_i hn;have f:(lvs ws).length=n:=by grind[fD,Nat.eq_of_beq_eq_true]
 have R:tI P a=δ (b,(Jr env J).enc.cells.length):=k!
 split at h;rename_i id d F;split at h;rename_i cs u;split at h;rename_i L hs;obtain⟨s1,s2,s3⟩:=mA hs f;have B:(BK H)[id]?=δ (.live 0 (lvs cs)):=by rw[EO,u];rfl
 have j:CE H (H.set id (.live η L)):=CE.set u rfl λ_ _ _ _ _ h=>by cases h
 refine⟨VZ,_,Jq.store ho (id:=id) (g:=0) (off:=d) (v:=(Jr env J).enc) (by rw[V,F];rfl) (V J) w1 B R (by rw[Y,f];exact s2) ⟨rfl,?_⟩,h,iY,Rg j ok.heap (j.lok (s3 H (ok.heap _ (BN u)) (w3 H a1))),j,Frame.set (by rw[F];exact A9.2 rfl)⟩;rw[LJ,Y,<-s1];rfl;cases h;cases h;rename_i id w m te i d F;split at h;rename_i cs u;split at h;rename_i pre W y x p hs;split at h;rename_i hb;have T:=Ty.beq_eq _ _ hb;injection T with hm S;subst hm S;obtain⟨e,hg,h⟩:=Dn.1 h;split at h;rename_i ls Q;split at h;rename_i M A;obtain⟨ad,I⟩:=On hs;obtain⟨s1,s2,_⟩:=mA Q f;have s:=F5 A;have q:(Ty.cast hb x:Gd (W+1) y.D)=x:=rfl;rw[q]at hg h;obtain⟨h0,G,rfl,rfl⟩:=pU hg;obtain⟨t,Z,q1,q2,q3⟩:=tX y.E x G;have B:(BK H)[id]?=δ (.live 0 (lvs pre++t++(y.enc (x G)).cells++(Z++lvs p))):=by rw[EO,u,ad];show δ (Fx.live 0 (lvs (pre++(.ar W y x::p))))=_;rw[G8,IA,cQ,q1];simp only[A6];rfl
 have j:CE H (H.set id (.live η (pre++(.ar W y (XK (n:=W+1) x (G.val:Int) M)::p)))):=CE.set u rfl λ_ _ _ _ _ h=>by cases h
 have al:lok H cs:=ok.heap _ (BN u);rw[ad]at al;obtain⟨o1,o2⟩:=JZ.1 al;refine⟨VZ,_,?_,h,iY,Rg j ok.heap (j.lok (JZ.2 ⟨o1,λz hz=>?_⟩)),j,Frame.set (by rw[F];exact A9.2 rfl)⟩;have C:d+(lvs ws).length<=(y.enc (x G)).cells.length:=by rw[f,<-y.lvs_enc];exact s2
 have st:=Jq.store (P:=P) (N:=N) (K:=DT .any ((BK H).set id (.live 0 (XC (lvs pre++t++(y.enc (x G)).cells++(Z++lvs p)) (w+(G.val:Int).toNat*y.sz+d) (Jr env J).enc.cells)))) ho (id:=id) (g:=0)
  (off:=w+(G.val:Int).toNat*y.sz+d) (v:=(Jr env J).enc) (by rw[V,F];rfl) (V J) w1 B R (by rw[Y,f];simp only[Ac,q2,I];have:y.E.sz=y.sz:=rfl;rw[f]at C;simp only[CA,this];omega) ⟨rfl,rfl⟩
 have ea:w+(G.val:Int).toNat*y.sz+d=(lvs pre++t).length+d:=by rw[Ac,I,q2,CA];rfl
 rw[Y,ea,AAG C]at st;have O:=Jq.set_less (cs':=lvs (pre++(.ar W y (XK (n:=W+1) x (G.val:Int) M)::p))) (by rw[CZ];exact HM u) st (by rw[G8,IA,cQ,q3 M];simp only[A6];refine(Dq.refl _).append ((Dq.refl _).append (Dq.append ?_ (Dq.refl _)));rw[<-y.lvs_enc,<-s1];exact s);rw[LJ];exact O;rcases Aw.1 hz with rfl|hz;trivial;exact o2 z (by simp[hz]);cases h;cases h;cases h;cases h;cases h;rename_i id U te nn i d F;split at h;rename_i y l X a2 u;split at h;rename_i hv;have a0:=DD hv;subst a0;split at h;rename_i hb;have T:=Ty.beq_eq _ _ hb;injection T with S;subst S;obtain⟨e,hg,h⟩:=Dn.1 h;split at h;rename_i ls Q;split at h;rename_i M A;obtain⟨s1,s2,_⟩:=mA Q f;have s:=F5 A;have q:(Ty.cast hb l:Ψ y.D)=l:=rfl;rw[q]at hg h;obtain⟨t,Z,q1,q2,q3,q4,_,q5⟩:=tu y.E hg;have hr:S9 H id U y nn:=by rw[F]at ao;exact ao (.own id U y nn) (by simp[TV.refs])
 obtain⟨_,ax⟩:=hr.2 _ _ _ _ _ u;obtain⟨_,rfl⟩:=ax rfl;have ap:X=θ l:=ok.heap _ (BN u);have B:(BK H)[id]?=δ (.live X (t++(y.enc e).cells++Z)):=by rw[EO,u];show δ (Fx.live X (y.E.cl l))=_;rw[q1];rfl
 have j:CE H (H.set id (.buf η y (ER l i M) X U)):=CE.set u rfl λ_ _ _ _ _ h=>by cases h;exact⟨_,_,_,_,rfl,.inr ⟨rfl,rfl⟩⟩
 refine⟨VZ,_,?_,h,iY,Rg j ok.heap ((pI ap.symm).symm),j,Frame.set (by rw[F];exact A9.2 rfl)⟩;have C:d+(lvs ws).length<=(y.enc e).cells.length:=by rw[f,<-y.lvs_enc];exact s2
 have st:=Jq.store (P:=P) (N:=N) (K:=DT .any ((BK H).set id (.live X (XC (t++(y.enc e).cells++Z) (i.toNat*y.sz+d) (Jr env J).enc.cells)))) ho (id:=id) (g:=X)
  (off:=i.toNat*y.sz+d) (v:=(Jr env J).enc) (by rw[V,F];rfl) (V J) w1 B R (by rw[Y,f];simp only[Ac,q2];have:y.E.sz=y.sz:=rfl;rw[f]at C;rw[this];omega) ⟨rfl,rfl⟩
 have ea:i.toNat*y.sz+d=θ t+d:=by rw[q2];rfl
 rw[Y,ea,AAG C]at st;have O:=Jq.set_less (cs':=y.E.cl (ER l i M)) (by rw[CZ];exact HM u) st (by unfold ER;rw[q5 M];refine Dq.append (Dq.append (Dq.refl _) ?_) (Dq.refl _);rw[<-y.lvs_enc,<-s1];exact s);rw[LJ];exact O;cases h;cases h;cases h;cases h;cases h;cases h;cases h
end
section
variable {R:Type}
def AAe(P:Program)(H:Ar)(t:TypeId)(k:TV->Ar->Ω R):Ω R:=
 match vS P t with
 |some z=>k (.c (.raw (.ptr (θ H) 0 0))) (H++[.live η z])
 |none=>ε
def AGS(H:Ar)(v:TV)(k:TV->Ar->Ω R):Ω R:=
 match v.words with
 |some ws=>k (.c (.raw (.ptr (θ H) 0 0))) (H++[.live η ws])
 |none=>ε
def ma(t:Ty):Ψ TV->Ω (Ψ t.D)
 |[]=>Z []
 |v::r=>match t.data v,ma t r with|some x,Z xs=>Z (x::xs)|_,_=>ε
def elT(P:Program)(t:TypeId):Ω Ty:=
 match eI P t with
 |some (ε,e,sz)=>
  match ABh P 1000 e with
  |some te=>if sz=te.sz/\SJ P e=ζ then Z te else ε
  |none=>ε
 |_=>ε
def iQ(len:Nat)(te:Ty)(parts:Array (Nat×Operand))(vs:Ψ TV):Bool:=
 τ (parts.toList.map (·.1)=List.range len)&&(vs.all λv=>match v.words with|some ws=>ξ (AFy ws) te.sz|none=>η)&&Nat.ble len 4096&&Nat.ble te.sz 4096
def Z5(P:Program)(env:Bf)(H:Ar)(t:TypeId)(len:Nat)(parts:Array (Nat×Operand))(k:TV->Ar->Ω R):Ω R:=
 match elT P t with
 |some te=>
  match iQ len te parts (parts.toList.map λp=>Jr env p.2)with
  |true=>match ma te (parts.toList.map λp=>Jr env p.2)with|some xs=>k (.c (.own (θ H) 0 te (θ xs))) (H++[.buf η te xs (θ xs) 0])|none=>ε
  |false=>ε
 |none=>ε
def rI(P:Program)(env:Bf)(t:TypeId)(len:Nat)(parts:Array (Nat×Operand))(k:TV->Ω R):Ω R:=
 match elT P t with
 |some te=>
  match iQ len te parts (parts.toList.map λp=>Jr env p.2)with
  |true=>match ma te (parts.toList.map λp=>Jr env p.2)with|some xs=>k (.c (.ls te xs))|none=>ε
  |false=>ε
 |none=>ε
def iM(P:Program)(H:Ar)(t:TypeId)(x y:TV)(k:TV->Ar->Ω R):Ω R:=
 match eI P t,x,y with
 |some (ε,e,_),.c (.it _ l),.c (.it _ c)=>
  match elT P t,vS P e with
  |some te,Z z=>match te.all z with|some zd=>(mk zd l c).bind λr=>k (.c (.own (θ H) 0 te (θ r))) (H++[.buf η te r (θ r) 0])|none=>ε
  |_,_=>ε
 |_,_,_=>ε
def vO(P:Program)(H:Ar)(src dst:TypeId)(x:TV)(k:TV->Ar->Ω R):Ω R:=
 match P.underlying src,P.underlying dst,x with
 |some _,Z (.slice e),.c (.st s)=>
  match P.underlying e with
  |some (.int .u8)=>k (.c (.own (θ H) 0 (.int .u8) (TL s).length)) (H++[.buf η (.int .u8) (TL s) (TL s).length 0])
  |_=>ε
 |_,_,_=>ε
def AFW(H:Ar)(te:Ty)(v:TV):Ω (Ψ te.D):=
 match v with
 |.c (.ls te' l)=>if h:(Ty.list te').beq (Ty.list te)=ζ then Z (Ty.cast h l)else ε
 |.c (.own id ver te' _)=>if h:(Ty.list te').beq (Ty.list te)=ζ then(match Yf H id ver te' with|some l=>Z (Ty.cast (t:=.list te') (t':=.list te) h l)|none=>ε)else ε
 |.vw id ver te' _ lo m=>if h:(Ty.list te').beq (Ty.list te)=ζ then(match Yf H id ver te' with|some l=>Z (Ty.cast (t:=.list te') (t':=.list te) h ((l.drop lo).take m))|none=>ε)else ε
 |.c .nil=>Z []
 |_=>ε
def sX(P:Program)(H:Ar)(t:TypeId)(s x:TV)(k:TV->Ar->Ω R):Ω R:=
 match elT P t with
 |some te=>
  match AFW H te x with
  |some xs=>
   match s with
   |.c .nil=>(app [] xs).bind λr=>k (.c (.own (θ H) 0 te (θ r))) (H++[.buf η te r (θ r) 0])
   |.c (.own id ver te' _)=>
    match H[id]? with
    |some (.buf η t2 l _ ver')=>
     match ξ ver ver' with
     |true=>
      if h:(Ty.list t2).beq (Ty.list te)=ζ/\(Ty.list te').beq (Ty.list te)=ζ then
       (app (α:=te.D) (Ty.cast h.1 l) xs).bind λr=>k (.c (.own id (ver+1) te (θ r))) (H.set id (.buf η te r (θ r) (ver+1)))
      else ε
     |false=>ε
    |_=>ε
   |_=>ε
  |none=>ε
 |none=>ε
variable {P:Program}{N:Nat}{o:Oper}{env:Bf}{H:Ar}{k:TV->Ar->Ω R}{r:R}
theorem uy{H:Ar}{l:Ψ t.D}:(TV.c (.own (θ H) N t (θ l))).ok (H++[.buf A t l (θ l) N]):=by refine J3 ⟨q!,λd h f g b e=>?_⟩;grind
def so(H:Ar)(b:Ty)(n a:Nat):(TV.c (.own (θ H) a b n)).enc=.sl (BK H).length n b.sz 0 n:=by rw[CZ];rfl
def xY(ok:N3 env H)(b:o.op=.alloc a)(h:AAe P H a k=Z r):ml P N o env H [] k r:=by
 unfold AAe at h;split at h;rename_i z d;obtain⟨e,f⟩:=ZW d;refine⟨_,_,?_,h,J3 trivial,Py ok.heap (f _),CE.push _ _,Frame.push _ _ _⟩;have t:(TV.c (.raw (.ptr (θ H) 0 0))).enc=.ptr (BK H).length 0 0:=by rw[CZ];rfl
 rw[t,RX];exact Jq.alloc b e ⟨rfl,rfl⟩;cases h
def AAk(ok:N3 env H)(b:o.op=.box a c)(h:AGS H (Jr env c) k=Z r):ml P N o env H [] k r:=by
 unfold AGS at h;split at h;rename_i i d;obtain⟨e,f,g⟩:=ZT d;refine⟨_,_,?_,h,J3 trivial,Py ok.heap ((CE.push _ _).lok (g H (gW ok.env c))),CE.push _ _,Frame.push _ _ _⟩;have t:(TV.c (.raw (.ptr (θ H) 0 0))).enc=.ptr (BK H).length 0 0:=by rw[CZ];rfl
 rw[t,RX];exact Jq.box b (Lg env c) e ⟨rfl,by rw[f];rfl⟩;cases h
def nW{t:Ty}:∀{b:Ψ TV}{a:Ψ t.D},ma t b=Z a->Dq (b.map TV.enc) (a.map t.enc)
 |[],a,h=>by simp only[ma,Ao]at h;subst h;exact Dq.refl _
 |v::r,a,h=>by simp only[ma]at h;split at h;rename_i x e c d;injection h with h;subst h;have:=nW d;exact(Dq.one (Mi c)).append this;cases h
def kG{t:Ty}:∀{e:Ψ TV}{b:Ψ t.D},ma t e=Z b->Dq ((e.map TV.enc).flatMap Ad.cells) (t.E.cl b)
 |[],b,h=>by simp only[ma,Ao]at h;subst h;exact Dq.refl _
 |v::r,b,h=>by simp only[ma]at h;split at h;rename_i x k a g;injection h with h;subst h;have i:=kG g;refine Dq.append ?_ i;unfold Ty.data at a;split at a;rename_i y;split at a;cases a;rename_i d;simp at d;have c:=F5 a;rw[IA,Mh d.2,<-Bu.scalar_cells d.2]at c;have f:lvs ([]:Ψ Bu)=[]:=rfl;rw[f,Do]at c;exact c;rename_i j;split at a;exact F5 a;cases a;cases a;cases h
theorem kH(h:elT P a=Z t):∃e,eI P a=Z (ε,e,t.sz)/\SJ P e=ζ:=by grind[elT]
theorem vC{a}(h:elT P G=Z t)(c:iQ N t a (a.toList.map λp=>Jr env p.2)=ζ):
  TB P (By env) G N a=Z (t.sz,(a.toList.map λp=>Jr env p.2).map TV.enc):=by
 obtain⟨e,k,l⟩:=kH h;unfold iQ at c;simp only[BV,K!]at c;obtain⟨⟨⟨f,g⟩,i⟩,j⟩:=c;have d:(a.toList.map λp=>BP (By env) p.2)=(a.toList.map λp=>Jr env p.2).map TV.enc:=by grind[List.map_congr_left,Lg]
 unfold TB;simp only[k,d];refine C! ⟨t.sz_pos,l,f,?_,O2 i,O2 j⟩;rw[GN];intro v n;obtain⟨u,m,rfl⟩:=Bn.1 n;have:=GN.1 g u m;split at this<;>simp_all[ZT,fD]
theorem AC3{b:Ψ t.D}(h:ma t m=Z b):θ b=θ m:=by have:=(nW h).1;grind
theorem TM.push_less{H:Au}(n:Dq i O)(d:x.Later y):TM x y (H++[.live N i]) (H++[.live N O]):=by
 refine⟨q!,λj o e=>?_⟩;rcases Ay j (θ H) with b|b;rw[CW b]at e;cases o with
 |live p c0=>exact .inr (.inl ⟨p,c0,c0,k!,rfl,rfl,λg m h=>⟨m,h,λc r=>r.later d⟩⟩)
 |_=>grind
 have k:=HM e;simp at k;have l:j=θ H:=o!
 subst l;simp at e;subst e;refine .inr (.inl ⟨N,i,O,q!,rfl,n.1,λg m h=>?_⟩);obtain⟨v,q1,q2⟩:=n.2 g m h;exact⟨v,q1,λc r=>q2 _ _ (r.later d)⟩
theorem Jq.push_less(h:Jq P N o s p (DT u (p++[.live n i])))(E:Dq i O):Jq P N o s p (DT u (p++[.live n O])):=by
 refine Jq.after h λX f w _=>?_;have b:(cx X f (p++[.live n i]) w).Later (cx X f (p++[.live n O]) w):=by refine iK q! λj e l k=>?_;grind
 exact⟨TM.push_less E b,λc r=>r.later b⟩
def oK{t:Array (Nat×Operand)}(ok:N3 env H)(f:o.op=.buildSlice a n t)(h:Z5 P env H a n t k=Z r):ml P N o env H [] k r:=by unfold Z5 at h;split at h;rename_i i d;split at h;rename_i g;split at h;rename_i j c;have e:=vC d g;have b:=AC3 c;refine⟨_,_,?_,h,uy,Py ok.heap rfl,CE.push _ _,Frame.push _ _ _⟩;rw[so,RX];have:=T7 (N:=N) (H:=BK H) (K:=DT _ _) f e ⟨rfl,rfl⟩;rw[BW,<-b]at this;exact Jq.push_less this (kG c);cases h;cases h;cases h
theorem AHp{a:Ty}{vs:List Ad}{l:List a.D}(h:Dq vs (l.map a.enc))(I:Dq (vs.flatMap Ad.cells) (a.E.cl l))(z: ∀v∈vs,v.cells.length=a.sz):XI (.vs a.sz vs) (.vs a.sz (l.map a.enc)):=by
 intro x c L;cases L with
 |vs f t o w C p=>
  have hn:(l.map a.enc).length=vs.length:=h.1;rw[<-hn];have key: ∀(j:Nat) (e:Ad) (i:Nat) (v:Ad),(l.map a.enc)[j]? =some e->e.cells[i]? =some v-> ∃b k,vs[j]? =some b/\b.cells[i]? =some k/\XI k v:=by
   intro j e i v d m;obtain⟨b,q1,_⟩:=h.2 j e d;have g: ∀u∈l.map a.enc,u.cells.length=a.sz:=λu J=>by obtain⟨y,_,rfl⟩:=Bn.1 J;exact a.enc_len y
   have A:=ot g j e i v d m;obtain⟨k,r,s⟩:=I.2 _ v A;have H:i<a.sz:=by grind
   have F:=z b (BN q1);have G:b.cells[i]? =some (b.cells[i]'(by omega)):=As (by omega);have M:=ot z j b i _ q1 G;grind
  refine Bw.vs f (by grind) o (λj e d=>?_) (λn=>?_) λj e i v d m=>?_
  ·obtain⟨y,_,rfl⟩:=Bn.1 (BN d);exact a.enc_len y
  ·obtain⟨B,q,q1,q2,q3,q4⟩:=C (λe=>n (Eh (by grind)));refine⟨B,q,q1,q2,q3,λj e i v d m=>?_⟩;obtain⟨b,k,r,s,_⟩:=key j e i v d m;grind
  ·obtain⟨b,k,r,s,K⟩:=key j e i v d m;exact K _ _ (p j b i k r s)
def qh(ok:N3 env H)(s:o.op=.makeSlice a c J)(h:iM P H a (Jr env c) (Jr env J) k=Z r):ml P N o env H [] k r:=by
 have i:=Lg env;unfold iM at h;split at h;rename_i e sz Q l O y j v w;split at h;rename_i b z d A;split at h;rename_i L f;obtain⟨I,q,h⟩:=Dn.1 h;obtain⟨M,m,u⟩:=kH d;rw[j]at m;obtain⟨rfl,rfl⟩:=m;obtain⟨t,R⟩:=ZW A;have x:=F5 f;obtain⟨⟨C,D,F⟩,p,G⟩:=AK9 b.E L q;refine⟨_,_,?_,h,uy,Py ok.heap rfl,CE.push _ _,Frame.push _ _ _⟩;rw[so,RX];have g:(lvs z).length=b.sz:=by rw[<-x.1,b.enc_len]
 have:=Jq.makeSlice (N:=N) (H:=BK H) (K:=DT _ _) s j b.sz_pos u t g (by rw[i,v];rfl) (by rw[i,w];rfl) C D F ⟨rfl,rfl⟩;rw[p]at this;apply Jq.push_less this;rw[<-G,p];induction θ I with
 |zero=>exact Dq.refl _
 |succ n B=>exact Dq.append x B
 cases h;cases h;cases h
def vP(ok:N3 env H)(j:o.op=.convert G a c)(h:vO P H G a (Jr env c) k=Z r):ml P N o env H [] k r:=by have f:=Lg env;unfold vO at h;split at h;rename_i u e s l g m;split at h;rename_i i;refine⟨_,_,?_,h,uy,Py ok.heap rfl,CE.push _ _,Frame.push _ _ _⟩;rw[so,RX];obtain⟨b,d⟩:=AKK s;have:=qQ (N:=N) (H:=BK H) (K:=DT _ _) j l g i (by rw[f,m];rfl) ⟨rfl,rfl⟩;rw[d,b]at this;exact this;cases h;cases h
def ABw(a:Ty):∀(l:Ψ a.D)(k:Nat),(a.E.cl l).drop (k*a.sz)=a.E.cl (l.drop k)
 |l,0=>by rw[Yd];rfl
 |[],k+1=>by simp[SO.cl]
 |x::r,k+1=>by have e:a.E.cl (x::r)=(a.enc x).cells++a.E.cl r:=rfl;have b:=a.enc_len x;rw[e,show(k+1)*a.sz=(a.enc x).cells.length+k*a.sz by rw[b,EB,Nat.one_mul,Yb],YL,WI o!,CG,TS];exact ABw a r k
def ABx(a:Ty):∀(l:Ψ a.D)(k:Nat),(a.E.cl l).take (k*a.sz)=a.E.cl (l.take k)
 |l,0=>by rw[Yd];rfl
 |[],k+1=>by simp[SO.cl]
 |x::r,k+1=>by have e:a.E.cl (x::r)=(a.enc x).cells++a.E.cl r:=rfl;have b:a.E.cl (List.take (k+1) (x::r))=(a.enc x).cells++a.E.cl (r.take k):=rfl;have c:=a.enc_len x;rw[e,b,show(k+1)*a.sz=(a.enc x).cells.length+k*a.sz by rw[c,EB,Nat.one_mul,Yb],fL,BO o!,TS,ABx a r k]
theorem ABS{f:Ψ t.D}(x:∀r∈H,r.ok H)(z:e.ok H)(h:AFW H t e=Z f):KV (BK H) t.sz e.enc=Z (θ f,t.E.cl f):=by
 unfold AFW at h;split at h;rename_i a l;split at h;rename_i j;have c:=Ty.beq_eq _ _ j;injection c with b;subst b;injection h with h;have i:=h;subst i;simp only[TV.enc,Bu.one,KV,BW];rfl;cases h;rename_i id g a n;split at h;rename_i j;have c:=Ty.beq_eq _ _ j;injection c with b;subst b;split at h;rename_i l v;injection h with h;have i:l=f:=h;obtain⟨s,p⟩:=Xq x (z (.own id g a n) (by simp[TV.refs])) v;have y:=a.E.clen l;have A:a.E.sz=a.sz:=rfl;grind[TV.enc,Bu.one,KV];cases h;cases h;rename_i id g a n d m;split at h;rename_i j;have c:=Ty.beq_eq _ _ j;injection c with b;subst b;split at h;rename_i l v;injection h with h;have i:(l.drop d).take m=f:=h;obtain⟨s,p⟩:=Xq x (z (.own id g a n) (by simp[TV.refs])) v;have o:θ f=min m (n-d):=by rw[<-i,BQ,DB,p]
 have w:f=(l.drop d).take (min m (n-d)):=by rw[<-i,<-p,<-DB,List.take_eq_take_min]
 have y:(a.E.cl l).length=n*a.sz:=by rw[<-p];exact a.E.clen l
 show KV (BK H) a.sz (vwE id n a.sz d m)=_;unfold vwE;by_cases q:min m (n-d)=0;have u:f=[]:=tS.1 o!;rw[C! q,u];by_cases q0:d=0;rw[C! q0];simp only[KV,s];rw[C! ⟨O!,O!,q!⟩,Yd];rfl;rw[D! q0];simp[KV,SO.cl];rw[D! q];simp only[KV,s];have k:(d+min m (n-d))*a.sz<=n*a.sz:=NB _ o!;rw[EB]at k;rw[C! ⟨O!,O!,by rw[y];exact k⟩,o,ABw,ABx,<-w];cases h;cases h;injection h with h;subst h;rfl;cases h
theorem vW(ok:N3 env H)(R:o.op=.call {callee:=.builtin .append,args:= #[c,J],argTypes:= #[a,G]})(Y:a=G)(h:sX P H a (Jr env c) (Jr env J) k=δ r):ml P N o env H (idT (Jr env c)) k r:=by
 subst Y;have x:=Lg env;unfold sX at h;split at h;rename_i te C;obtain⟨e,Q,S⟩:=kH C;split at h;rename_i w I;have L:=ABS ok.heap (gW ok.env J) I;rw[<-x]at L;split at h;rename_i b;obtain⟨l,u,X⟩:=Dn.1 h;obtain⟨W,j⟩:=oJ u;rw[CG]at j;subst j;refine⟨_,_,?_,X,uy,Py ok.heap rfl,CE.push _ _,Frame.push _ _ _⟩;rw[so,RX];have:=di (N:=N) (H:=BK H) (K:=DT _ _) R Q te.sz_pos S (by rw[x,b];rfl) L k! ⟨rfl,rfl⟩;exact this;rename_i id g al n b;split at h;rename_i d l v T M;split at h;rename_i Z;have t:=DD Z;subst t;split at h;rename_i y;have F:=Ty.beq_eq _ _ y.1;injection F with p;have s:=Ty.beq_eq _ _ y.2;injection s with q;subst q;subst p;obtain⟨l2,u,h⟩:=Dn.1 h;have f:(Ty.cast y.1 l:Ψ d.D)=l:=rfl;rw[f]at u;obtain⟨W,rfl⟩:=oJ u;have hr:S9 H id g d n:=by have:=gW ok.env c;rw[b]at this;exact this (.own id g d n) (by simp[TV.refs])
 obtain⟨_,A⟩:=hr.2 _ _ _ _ _ M;obtain⟨_,rfl⟩:=A rfl;have z:v=θ l:=ok.heap _ (BN M);have i:(BK H)[id]?=δ (.live v (d.E.cl l)):=by rw[EO,M];rfl
 have m:CE H (H.set id (.buf η d (l++w) (l++w).length (g+1))):=CE.set M rfl λ_ _ _ _ _ h=>by cases h;exact⟨_,_,_,_,rfl,.inl (nD _)⟩
 refine⟨_,_,?_,h,J3 ⟨k!,λad G l' n2 U hg=>?_⟩,Rg m ok.heap rfl,m,Frame.set (by rw[b];exact A9.2 rfl)⟩;have O:=d.E.clen l;have B:d.E.sz=d.sz:=rfl;rw[B]at O;have:=SE (N:=N) (H:=BK H) (g':=v+θ w) (K:=DT _ _) R Q d.sz_pos S (by rw[x,b];rfl) i (by rw[O,z]) L k! (by rcases WF (θ w) with V|V;grind;exact .inl o!) ⟨rfl,rfl⟩;grind[LJ,n?,SO.cl,TV.enc,Bu.one,D0.enc];grind;cases h;cases h;cases h;cases h;cases h;cases h
end
def Nq(id ver:Nat)(t:Ty)(l:Ψ t.D):Bu->Bu
 |.own id' ver' t' n=>match ξ id id'&&ξ ver ver' with|true=>.ls t l|false=>.own id' ver' t' n
 |x=>x
mutual
def oz(id ver:Nat)(t:Ty)(l:Ψ t.D):TV->TV
 |.c x=>.c (Nq id ver t l x)
 |.g cs=>.g (cs.map (Nq id ver t l))
 |.tup vs=>.tup (ga id ver t l vs)
 |.aptr a b n te i o=>.aptr a b n te i o
 |.bptr a v te n i o=>.bptr a v te n i o
 |.vw a v te n i m=>.vw a v te n i m
 |.vptr cs post=>.vptr cs post
def ga(id ver:Nat)(t:Ty)(l:Ψ t.D):Ψ TV->Ψ TV
 |[]=>[]
 |v::r=>oz id ver t l v::ga id ver t l r
end
def Qx(id ver:Nat)(t:Ty)(l:Ψ t.D):D0->D0
 |.live η cs=>.live η (cs.map (Nq id ver t l))
 |e=>e
def frz(id:Nat)(env:Bf)(H:Ar):Ω (Bf×Ar):=
 match H[id]? with
 |some (.buf η t l _ ver)=>Z (env.map λp=>(p.1,oz id ver t l p.2),(H.map (Qx id ver t l)).set id .dead)
 |_=>ε
def Tm(x y:Cx)(a b:Ψ Ad):Prop:=θ b=θ a/\∀(i:Nat)(v':Ad),b[i]?=Z v'->∃v,a[i]?=Z v/\Conv x y v v'
theorem Tm.append{b f}(c:Tm x y i O)(g:Tm x y b f):Tm x y (i++b) (O++f):=by refine⟨by simp[c.1,g.1],λa j h=>?_⟩;rcases Ay a (θ O) with d|d;rw[CW d]at h;obtain⟨v,q1,q2⟩:=c.2 a j h;grind;rw[Cl d]at h;obtain⟨v,q1,q2⟩:=g.2 _ j h;exact⟨v,by rw[Cl (by rw[<-c.1];exact d),<-c.1];exact q1,q2⟩
def Tm.later{x y:Cx}(l:x.Later y)(a:Ψ Ad):Tm x y a a:=⟨rfl,λ_ v h=>⟨v,h,λ_ r=>r.later l⟩⟩
theorem Tm.one{b}(h:Conv x y u b):Tm x y [u] [b]:=⟨rfl,λi v a=>by
 match i,a with
 |0,a=>grind
 |i+1,a=>simp at a⟩
def Tm.agg{x y}{b a}(h:Tm x y b a):Conv x y (.agg b) (.agg a):=by
 intro c r;cases r with
 |agg i e hr=>refine .agg (by rw[i,h.1]) e λj k d g f=>?_;obtain⟨v,q1,q2⟩:=h.2 j k g;exact q2 _ (hr j v d q1 f)
def Tm.tup{x y}{b a}(h:Tm x y b a):Conv x y (.tup b) (.tup a):=by
 intro c r;cases r with
 |tup g hr=>refine .tup (by rw[g,h.1]) λj i d f e=>?_;obtain⟨v,q1,q2⟩:=h.2 j i f;exact q2 _ (hr j v d q1 e)
section
variable {x y:Cx}{H:Ar}{id n ver:Nat}{t:Ty}{l:Ψ t.D} (lat:x.Later y) (hid:H[id]?=Z (.buf η t l n ver)) (hc:Conv x y (.sl id n t.sz 0 n) (.vs t.sz (l.map t.enc)))
include lat hid hc
theorem ox(e:v.ok H):Tm x y v.enc (Nq id ver t l v).enc/\Conv x y v.one (Nq id ver t l v).one:=by
 have same:∀w:Bu,Tm x y w.enc w.enc/\Conv x y w.one w.one:=λw=>⟨.later lat _,λ_ r=>r.later lat⟩
 cases v with
 |own f b h g=>simp only[Nq];split;rename_i a;simp only[BV]at a;have c:=DD a.1;have d:=DD a.2;subst c d;obtain⟨_,q⟩:=e.2 _ _ _ _ _ hid;obtain⟨rfl,rfl⟩:=q rfl;exact⟨.one hc,hc⟩;grind
 |_=>exact same _
def qT:∀{a:Ψ Bu},lok H a->Tm x y (lvs a) (lvs (a.map (Nq id ver t l)))
 |[],_=>.later lat _
 |z::r,h=>by rw[CQ,IA,IA];exact(ox lat hid hc (h z q!)).1.append (qT λw b=>h w (by simp[b]))
mutual
theorem uT:∀{v:TV},v.ok H->Conv x y v.enc (oz id ver t l v).enc
 |.c z,h=>(ox lat hid hc (h z (by simp[TV.refs]))).2
 |.g cs,h=>(qT lat hid hc h).agg
 |.tup vs,h=>Tm.tup (rU (vs:=vs) h)
 |.aptr ..,_=>λ_ r=>r.later lat
 |.bptr ..,_=>λ_ r=>r.later lat
 |.vw ..,_=>λ_ r=>r.later lat
 |.vptr ..,_=>λ_ r=>r.later lat
theorem rU:∀{vs:Ψ TV},(TV.tup vs).ok H->Tm x y (TV.encL vs) (TV.encL (ga id ver t l vs))
 |[],_=>.later lat _
 |v::r,h=>by simp only[TV.encL,ga];have a:v.ok H:=qo h q!;have b:(TV.tup r).ok H:=Rf λw c=>qo h (by simp[c]);exact(Tm.one (uT a)).append (rU b)
end
end
def uS{l}(c:CE F b)(d:v.ok F):(Nq N n t l v).ok b:=by
 cases v with
 |own f e h g=>simp only[Nq];split;trivial;exact c.leaf d
 |_=>exact c.leaf d
def AB7{l}(H:CE F b)(h:lok F d):lok b (d.map (Nq N n t l)):=λz f=>by obtain⟨w,e,rfl⟩:=Bn.1 f;exact uS H (h w e)
mutual
theorem zQ{H d:Ar}{id b:Nat}{t:Ty}{l:Ψ t.D}(a:CE H d):∀{v:TV},v.ok H->(oz id b t l v).ok d
 |.c z,h=>J3 (uS a (h z (by simp[TV.refs])))
 |.g cs,h=>AB7 a h
 |.tup vs,h=>wY a h
 |.aptr ..,h=>a.lok h
 |.bptr ..,h=>a.lok h
 |.vw ..,h=>a.lok h
 |.vptr ..,h=>a.lok h
theorem wY{H c}{id b}{t}{l}(d:CE H c):∀{e:Ψ TV},(TV.tup e).ok H->(TV.tup (ga id b t l e)).ok c
 |[],_=>λz i=>by simp[ga,TV.refs,TV.refsL]at i
 |v::r,h=>by have f:v.ok H:=qo h q!;have g:(TV.tup r).ok H:=Rf λw a=>qo h (by simp[a]);refine Rf λw a=>?_;simp only[ga]at a;rcases Aw.1 a with rfl|a;exact zQ d f;exact qo (wY d g) a
end
theorem AEl{l:Ψ t.D}(f:b[N]?=Z (.buf η t l n T)):CE b ((b.map (Qx N T t l)).set N .dead):=by
 have s:=HM f;refine⟨q!,λj y x v h=>⟨by simpa using h.1,λro K E F u c=>?_⟩,λj e c hr=>?_,λj m h x l2 v y a=>?_,λj m _ _ _ _ _ _ _ _ a=>?_⟩;by_cases d:j=N;grind;rw[Db (d ·.symm),CR]at c;cases a:b[j]? with
 |none=>grind
 |some e=>
  rw[a]at c;simp only[Bs,Ao]at c;cases e with
  |live H k=>cases H<;>simp[Qx]at c
  |dead=>cases c
  |lp=>cases c
  |mp=>cases c
  |buf H q o p r=>simp only[Qx]at c;exact h.2 _ _ _ _ _ (by rw[a,c])
 have d:j≠N:=by rintro rfl;rw[f]at c;injection c with c;subst c;cases hr
 rw[Db (d ·.symm),CR,c];cases e with
 |live H k=>cases H with|true=>rfl|false=>cases hr
 |dead=>cases hr
 |buf H q o p r=>rfl
 |lp=>rfl
 |mp=>rfl
 by_cases d:j=N;grind;rw[Db (d ·.symm),CR]at a;cases g:b[j]? with
 |none=>rw[g]at a;cases a
 |some e=>
  rw[g]at a;simp only[Bs,Ao]at a;cases e with
  |live H k=>cases H<;>simp[Qx]at a
  |dead=>cases a
  |lp=>cases a
  |mp=>cases a
  |buf H q o p r=>grind[Qx]
 by_cases d:j=N;grind[List.getElem?_set_self];rw[Db (d ·.symm),CR]at a;cases g:b[j]? with
 |none=>rw[g]at a;cases a
 |some e=>
  rw[g]at a;simp only[Bs,Ao]at a;cases e with
  |live H k=>cases H<;>simp[Qx]at a
  |dead=>cases a
  |buf H q o p r=>cases a
  |mp=>cases a
  |lp w z G C I A B J=>injection a with _ q2 q3 q4 q5 q6 q7 _;subst q2 q3 q4 q5 q6 q7;exact⟨_,_,rfl⟩
theorem AI4{id:Nat}{env env2:Bf}{H K:Ar}(ok:N3 env H)(h:frz id env H=some (env2,K)):N3 env2 K/\CE H K/\ ∀N,Fb N (BK H).length (By env) (BK H) (By env2) (BK K):=by
 unfold frz at h;split at h;rename_i t l n i d;simp only[Ao,Ee]at h;obtain⟨rfl,rfl⟩:=h;have G:=HM d;have A:=AEl d;have hn:n=l.length:=ok.heap _ (BN d);refine⟨⟨λp M=>?_,λe R=>?_⟩,A,λN=>?_⟩;obtain⟨q,z,rfl⟩:=Bn.1 M;exact zQ A (ok.env q z);rcases Qo R with R|rfl;obtain⟨k,S,rfl⟩:=Bn.1 R;have F:=ok.heap k S;cases k with
 |live b D=>
  cases b with
  |true=>exact A.lok F
  |false=>exact AB7 A F
 |dead=>trivial
 |buf b Q P T U=>exact F
 |lp=>exact F
 |mp=>exact F
 trivial;have u:(BK H)[id]? =some (.live n (t.E.cl l)):=by rw[EO,d];rfl
 refine Wg (by simp[BK]) λX g w s=>?_;have C: ∀j,(BK ((H.map (Qx id i t l)).set id .dead))[j]? =if j=id then some .dead else(H[j]?).map λe=>(Qx id i t l e).enc:=by intro j;rw[EO];by_cases v:j=id;subst v;rw[if_pos rfl,Hq (by simpa using G)];rfl;grind
 have back: ∀(j:Nat) (e:Fx),(BK ((H.map (Qx id i t l)).set id .dead))[j]? =some e->e≠ .dead->j≠id/\ ∃k,(BK H)[j]? =some k/\k≠ .dead:=by
  intro j e a f;rw[C]at a;split at a;injection a with a;exact(f a.symm).elim;rename_i v;refine⟨v,?_⟩;cases z:H[j]? with
  |none=>rw[z]at a;cases a
  |some k=>
   refine⟨k.enc,by rw[EO,z];rfl,λL=>f ?_⟩;rw[z]at a;simp only[Bs,Ao]at a;cases k with
   |live b D=>simp[D0.enc]at L
   |dead=>exact a.symm
   |buf b Q P T U=>simp[D0.enc]at L
   |lp=>simp[D0.enc]at L
   |mp=>simp[D0.enc]at L
 have y:(cx X g (BK H) w).Later (cx X g (BK ((H.map (Qx id i t l)).set id .dead)) w):=iK (by simp[BK]) λj e a f=>(back j e a f).2;have hO: ∀B,g.io id=some B-> ¬(cx X g (BK ((H.map (Qx id i t l)).set id .dead)) w).O B:=by rintro B I (hX|⟨j,e,a,f,J⟩);exact(s.out B hX).2 ⟨id,_,u,q!,I⟩;obtain⟨v,k,Y,Z⟩:=back j e a f;exact v (s.inj j id _ _ B Y u Z q! J I)
 have o:Conv (cx X g (BK H) w) (cx X g (BK ((H.map (Qx id i t l)).set id .dead)) w) (.sl id n t.sz 0 n) (.vs t.sz (l.map t.enc)):=λc r=>Bw.froze s u (AJE t.E l) (by rw[hn];exact BW _) y rfl hO r;refine⟨⟨by simp[BK],λj e' a=>?_⟩,λtt v' m=>?_⟩;rw[C]at a;split at a;injection a with a;exact .inl a.symm;cases z:H[j]? with
 |none=>rw[z]at a;cases a
 |some k=>
  rw[z]at a;simp only[Bs,Ao]at a;have x:(BK H)[j]? =some k.enc:=by rw[EO,z];rfl
  cases k with
  |live b D=>
   refine .inr (.inl ?_);cases b with
   |true=>simp only[Qx,D0.enc]at a;exact⟨0,lvs D,lvs D,x,a.symm,rfl,(Tm.later y _).2⟩
   |false=>simp only[Qx,D0.enc]at a;obtain⟨V,W⟩:=qT y d o (ok.heap _ (BN z));exact⟨0,lvs D,_,x,a.symm,V,W⟩
  |dead=>exact .inl a.symm
  |buf b Q P T U=>simp only[Qx,D0.enc]at a;exact .inr (.inl ⟨T,Q.E.cl P,Q.E.cl P,x,a.symm,rfl,(Tm.later y _).2⟩)
  |lp=>subst a;exact .inr (.inr ⟨x,λ_ _ h=>by cases h⟩)
  |mp=>subst a;exact .inr (.inr ⟨x,λ_ _ h=>by cases h⟩)
 simp only[By,Oz,Bn]at m;obtain⟨p,M,e⟩:=m;simp only[Function.comp,Ee]at e;obtain⟨rfl,rfl⟩:=e;exact⟨p.2.enc,Bn.2 ⟨p,M,rfl⟩,uT y d o (ok.env p M)⟩;cases h
@[reducible] def DL:Ψ Ty->Type
 |[]=>Unit
 |[t]=>t.D
 |t::u::r=>t.D×DL (u::r)
def inp:(ts:Ψ Ty)->Ψ TV->Ω (DL ts)
 |[],[]=>Z ()
 |[t],[v]=>t.data v
 |t::u::r,v::vs=>
  match t.data v,inp (u::r) vs with
  |some x,Z y=>Z (x,y)
  |_,_=>ε
 |_,_=>ε
def yh:(ts:Ψ Ty)->DL ts->Ψ TV
 |[],_=>[]
 |[t],x=>[t.tv x]
 |t::u::r,x=>t.tv x.1::yh (u::r) x.2
def nK:(ts:Ψ Ty)->DL ts->Ψ Ad
 |[],_=>[]
 |[t],x=>[t.enc x]
 |t::u::r,x=>t.enc x.1::nK (u::r) x.2
def one:Ψ TV->TV
 |[v]=>v
 |vs=>.tup vs
def qp:Ψ Ad->Ad
 |[v]=>v
 |vs=>.tup vs
def Lc(bt:Ty):(rs:Ψ Ty)->DL (rs++[bt])->DL rs×bt.D
 |[],y=>((),y)
 |[_],y=>(y.1,y.2)
 |_::u::r,y=>((y.1,(Lc bt (u::r) y.2).1),(Lc bt (u::r) y.2).2)
inductive Qd where
 |c2 (f:FuncId) (te:Ty) (ds rs:List Ty) (post:List Ad) (g:List te.D->DL ds->Option (DL (rs++[.list te])))
 |cl (f:FuncId) (t:Ty)
 |c0 (f:FuncId) (ds rs:List Ty) (g:DL ds->Option (DL rs))
 |c1 (f:FuncId) (pos:Nat) (bt:Ty) (ds rs:List Ty) (g:bt.D->DL ds->Option (DL (rs++[bt])))
def Qd.f:Qd->FuncId
 |.c0 f .. =>f
 |.c1 f .. =>f
 |.c2 f .. =>f
 |.cl f _=>f
def fnB:Ad->Ad->Bool
 |.fn (.func F) [] [],.fn (.func G) [] []=>ξ F G
 |_,_=>η
def AI2{w}(h:fnB u w=ζ):u=w:=by unfold fnB at h;split at h<;>simp_all
def xA:Ψ TV->Ψ Ad->Bool
 |[],[]=>ζ
 |.c (.raw v)::r,w::s=>fnB v w&&xA r s
 |_,_=>η
def zx:∀{l:Ψ TV}{p:Ψ Ad},xA l p=ζ->l.map TV.enc=p
 |[],[],_=>rfl
 |[],_::_,h=>by simp[xA]at h
 |v::r,[],h=>by cases v<;>simp[xA]at h
 |v::r,w::s,h=>by unfold xA at h;split at h;rename_i e;cases e;rename_i c d;injection c with a1 a2;injection d with a b;subst a1 a2 a b;simp only[BV]at h;rw[CQ,zx h.2];exact E! (· ::_) (AI2 h.1);cases h
def V6:Nat->Ad->Ψ Ad->Ψ Ad
 |0,v,l=>v::l
 |n+1,v,x::l=>x::V6 n v l
 |_+1,v,[]=>[v]
def Qd.Ok(P:Program):Qd->Prop
 |.c2 f te ds rs post g=>∀l x y,g l x=Z y->(Lc (.list te) rs y).2.length=θ l->∀H id,H[id]?=Z (.live (θ l) (te.E.cl l))->
  Ei P f (.sl id (θ l) te.sz 0 (θ l)::(nK ds x++post)) H (DT (qp (nK rs (Lc (.list te) rs y).1)) (H.set id (.live (θ l) (te.E.cl (Lc (.list te) rs y).2))))
 |.cl f t=>∀(l:Ψ t.D)(H:Ar),(∀e∈H,e.ok H)->(l=[]->Ei P f [.vs t.sz []] (BK H) (DT (.vs t.sz []) (BK (H++[.dead]))))/\
  ∀r,l≠ []->app [] l=Z r->Ei P f [.vs t.sz (l.map t.enc)] (BK H) (DT (.sl (θ H) (θ r) t.sz 0 (θ r)) (BK (H++[.buf η t r (θ r) 0])))
 |.c0 f ds rs g=>∀x y,g x=Z y->∀H,Ei P f (nK ds x) H (DT (qp (nK rs y)) H)
 |.c1 f pos bt ds rs g=>∀b x y,g b x=Z y->∀H id,H[id]?=Z (.live 0 (bt.enc b).cells)->Ei P f (V6 pos (.ptr id 0 0) (nK ds x)) H (DT (qp (nK rs (Lc bt rs y).1)) (H.set id (.live 0 (bt.enc (Lc bt rs y).2).cells)))
section
variable {R:Type}
def ABt(c:Qd)(vs:Ψ TV)(H:Ar)(k:TV->Ar->Ω R):Ω R:=
 match c with
 |.c0 _ ds rs g=>match inp ds vs with|some x=>(g x).bind λy=>k (one (yh rs y)) H|none=>ε
 |.c1 _ pos bt ds rs g=>
  match vs[pos]? with
  |some (.c (.raw (.ptr id 0 0)))=>
   match H[id]? with
   |some (.live η cs)=>
    match bt.all cs,inp ds (vs.take pos++vs.drop (pos+1))with
    |some b,Z x=>(g b x).bind λy=>k (one (yh rs (Lc bt rs y).1)) (H.set id (.live η (bt.lvs (Lc bt rs y).2)))
    |_,_=>ε
   |_=>ε
  |_=>ε
 |.c2 _ te ds rs post g=>
  match vs with
  |.c (.own id ver _ _)::r=>
   match H[id]? with
   |some (.buf η t l n' ver')=>
    match ξ ver ver' with
    |true=>
     if h:(Ty.list t).beq (Ty.list te)=ζ then
      match inp ds (r.take (θ ds)),xA (r.drop (θ ds)) post with
      |some x,ζ=>(g (Ty.cast h l) x).bind λy=>
       cond (ξ (Lc (.list te) rs y).2.length n') (k (one (yh rs (Lc (.list te) rs y).1)) (H.set id (.buf η te (Lc (.list te) rs y).2 n' ver'))) ε
      |_,_=>ε
     else ε
    |false=>ε
   |_=>ε
  |_=>ε
 |.cl _ t=>
  match vs with
  |[.c (.ls te l)]=>
   if h:(Ty.list te).beq (Ty.list t)=ζ then
    cond (τ (((θ l:Nat):Int)=0)) (k (.c (.ls t [])) (H++[.dead])) ((app (α:=t.D) [] (Ty.cast h l)).bind λr=>k (.c (.own (θ H) 0 t (θ r))) (H++[.buf η t r (θ r) 0]))
   else ε
  |[.c .nil]=>k (.c (.ls t [])) (H++[.dead])
  |_=>ε
def aO:∀(a:Ψ Ty)(x:DL a),(yh a x).map TV.enc=nK a x
 |[],_=>rfl
 |[t],x=>by simp only[yh,nK,CQ,Hi,t.tv_enc]
 |t::u::r,x=>by simp only[yh,nK,CQ,t.tv_enc,aO (u::r)]
theorem nv{H:Ar}:∀(b:Ψ Ty)(x:DL b),∀v∈yh b x,v.ok H
 |[],_,v,a=>by simp[yh]at a
 |[t],x,v,a=>by simp only[yh,A9]at a;subst a;exact t.tv_ok x
 |t::u::r,x,v,a=>by simp only[yh,Aw]at a;rcases a with rfl|a;exact t.tv_ok _;exact nv (u::r) x.2 v a
def sm(a:Ψ TV):(one a).enc=qp (a.map TV.enc):=by
 match a with
 |[]=>rfl
 |[v]=>rfl
 |v::w::r=>simp only[one,qp,TV.enc,uH,CQ]
def yF(h:∀v∈m,v.ok b):(one m).ok b:=by
 match m,h with
 |[],h=>exact Rf h
 |[v],h=>exact h v q!
 |v::w::r,h=>exact Rf h
def ZJ:∀{a:Ψ Ty}{b:Ψ TV}{x:DL a},inp a b=Z x->Dq (b.map TV.enc) (nK a x)
 |[],[],x,h=>Dq.refl _
 |[t],[v],x,h=>Dq.one (Mi h)
 |t::u::r,v::b,x,h=>by simp only[inp]at h;split at h;rename_i y z c d;injection h with h;subst h;exact(Dq.one (Mi c)).append (ZJ d);cases h
 |[],_::_,x,h=>by simp[inp]at h
 |[t],[],x,h=>by simp[inp]at h
 |[t],_::_::_,x,h=>by simp[inp]at h
 |_::_::_,[],x,h=>by simp[inp]at h
theorem uc:∀{n:Nat}{a:Ψ Ad}{v:Ad}{b:Ψ Ad},a[n]?=Z v->Dq (a.take n++a.drop (n+1)) b->Dq a (V6 n v b)
 |0,u::a,v,b,h,hl=>by simp at h;subst h;exact(Dq.one (XI.refl u)).append hl
 |n+1,u::a,v,b,h,hl=>by
  cases b with
  |nil=>have:=hl.1;simp at this
  |cons d b=>
   have c:XI u d:=by obtain⟨w,q1,q2⟩:=hl.2 0 d rfl;grind
   have e:Dq (a.take n++a.drop (n+1)) b:=⟨by have:=hl.1;simpa using this,λi g f=>hl.2 (i+1) g f⟩
   exact(Dq.one c).append (uc h e)
def AGj(c:Qd)(vs:Ψ TV):Ψ Nat:=
 match c with
 |.c0 .. =>[]
 |.c1 _ pos .. =>match vs[pos]? with|some v=>idT v|none=>[]
 |.c2 .. =>match vs[0]? with|some v=>idT v|none=>[]
 |.cl .. =>[]
def AK2(c:Qd)(vs:Ψ TV):Ψ TV:=
 match c with
 |.c2 .. =>vs.drop 1
 |_=>vs
def zC{c:Qd}(hc:c.Ok P){k:TV→Ar→Ω R}{r:R}(hv:∀v∈m,v.ok b)(K:∀e∈b,e.ok b)(h:ABt c m b k=δ r):
  ∃v O,Ei P c.f (m.map TV.enc) (BK b) (DT v.enc (BK O))/\k v O=δ r/\v.ok O/\(∀e∈O,e.ok O)/\CE b O/\Frame (AGj c m) b O:=by
 unfold ABt at h;split at h;rename_i f S A g;split at h;rename_i x hx;obtain⟨y,hy,h⟩:=Dn.1 h;refine⟨_,b,?_,h,yF (nv A y),K,CE.refl b,Frame.refl _ _⟩;rw[sm,aO];have hl:=ZJ hx;refine Ei.before (args2:=nK S x) (H2:=BK b) hl.1 (λX g0 w s=>⟨⟨rfl,λj e' p=>?_⟩,λj Z p=>?_⟩) (hc x y hy _);cases e' with
 |dead=>exact .inl rfl
 |live g1 L=>exact .inr (.inl ⟨g1,L,L,p,rfl,rfl,λi v hi=>⟨v,hi,λ_ r=>r⟩⟩)
 |_=>exact .inr (.inr ⟨p,q!⟩)
 obtain⟨v,q1,q2⟩:=hl.2 j Z p;exact⟨v,q1,λd W=>q2 _ _ W⟩;cases h;rename_i f pos J S A g;split at h;rename_i id hp;split at h;rename_i cs o;split at h;rename_i D x hb hx;obtain⟨y,hy,h⟩:=Dn.1 h;have G:CE b (b.set id (.live η (J.lvs (Lc J A y).2))):=CE.set o rfl λ_ _ _ _ _ h=>by cases h
 refine⟨_,_,?_,h,yF (nv A _),Rg G K (J.lvs_ok _),G,Frame.set (by simp only[AGj,hp];exact A9.2 rfl)⟩;rw[sm,aO,LJ];have C:id<(BK b).length:=by rw[CZ];exact HM o
 have hl:=ZJ hx;have ap:=F5 hb;have a:Dq (m.map TV.enc) (V6 pos (.ptr id 0 0) (nK S x)):=by refine uc ?_ (by rw[<-List.map_take,<-my,<-LD];exact hl);rw[CR,hp];rfl
 have H:=hc D x y hy ((BK b).set id (.live 0 (J.enc D).cells)) id (by rw[Hq C]);rw[YZ]at H;have e1:(D0.live η (J.lvs (Lc J A y).2)).enc=.live 0 (J.enc (Lc J A y).2).cells:=by simp only[D0.enc,J.lvs_enc]
 rw[e1];refine Ei.before a.1 (λX g0 w s=>?_) H;have ad:BK b=(BK b).set id (.live 0 (lvs cs)):=by
  have:(BK b)[id]?=δ (.live 0 (lvs cs)):=by rw[EO,o];rfl
  apply JR;intro j;by_cases F:j=id;subst F;rw[Hq C,this];rw[Db (F ·.symm)]
 have ao:(cx X g0 (BK b) w).Later (cx X g0 ((BK b).set id (.live 0 (J.enc D).cells)) w):=by refine iK q! λj e p ar=>?_;by_cases F:j=id;subst F;exact⟨.live 0 (lvs cs),by rw[EO,o];rfl,q!⟩;rw[Db (F ·.symm)]at p;exact⟨e,p,ar⟩
 refine⟨TM.set_less C ad rfl ap ao,λj Z p=>?_⟩;obtain⟨v,q1,q2⟩:=a.2 j Z p;exact⟨v,q1,λd W=>q2 _ _ (W.later ao)⟩;cases h;cases h;cases h;rename_i f Y S A N g;split at h;rename_i id B t0 n0 r0;split at h;rename_i t l V ax o;split at h;rename_i hb;have al:=DD hb;subst al;split at h;rename_i I;have n:=Ty.beq_eq _ _ I;injection n with n;subst n;split at h;rename_i x hx hp;obtain⟨y,hy,h⟩:=Dn.1 h;have z:(Ty.cast I l:Ψ t.D)=l:=rfl;rw[z]at hy;have hn:V=θ l:=K _ (BN o);have hr:S9 b id B t0 n0:=hv _ KW (.own id B t0 n0) (by simp[TV.refs]);obtain⟨_,q⟩:=hr.2 _ _ _ _ _ o;obtain⟨rfl,rfl⟩:=q rfl;cases T:ξ (Lc (.list t) A y).2.length V with
 |false=>rw[T]at h;cases h
 |true=>
  rw[T]at h;have M:(Lc (.list t) A y).2.length=V:=DD T;have G:CE b (b.set id (.buf η t (Lc (.list t) A y).2 V B)):=CE.set o rfl λ_ _ _ _ _ e=>by cases e;exact⟨_,_,_,_,rfl,.inr ⟨rfl,rfl⟩⟩
  refine⟨_,_,?_,h,yF (nv A _),Rg G K M.symm,G,Frame.set (by simp[AGj,idT])⟩;rw[sm,aO,LJ];have hl:=ZJ hx;have U:=zx hp;have a:Dq ((TV.c (.own id B t V)::r0).map TV.enc) (.sl id (θ l) t.sz 0 (θ l)::(nK S x++N)):=by
   rw[CQ,<-DY (θ S) r0,LD,U];have e1:(TV.c (.own id B t V)).enc=.sl id (θ l) t.sz 0 (θ l):=by rw[<-hn];rfl
   rw[e1];rw[<-tU];rw[<-tU (l:=nK S x++N)];exact(Dq.refl _).append (hl.append (Dq.refl _))
  have H:=hc l x y hy (by rw[M,hn]) (BK b) id (by rw[EO,o,<-hn];rfl);have e2:(D0.buf η t (Lc (.list t) A y).2 V B).enc=.live (θ l) (t.E.cl (Lc (.list t) A y).2):=by rw[<-hn];rfl
  rw[e2];refine Ei.before a.1 (λX g0 w s=>⟨⟨rfl,λj e' p=>?_⟩,λj Z p=>?_⟩) H;cases e' with
  |dead=>exact .inl rfl
  |live g1 L=>exact .inr (.inl ⟨g1,L,L,p,rfl,rfl,λi v hi=>⟨v,hi,λ_ r=>r⟩⟩)
  |_=>exact .inr (.inr ⟨p,q!⟩)
  obtain⟨v,q1,q2⟩:=a.2 j Z p;exact⟨v,q1,λd W=>q2 _ _ W⟩
 cases h;cases h;cases h;cases h;cases h;rename_i f t;have same:∀{args u:Ψ Ad}{Q:Ad->Au->Prop},Dq args u->Ei P f u (BK b) Q->Ei P f args (BK b) Q:=λa H=>by
  refine Ei.before a.1 (λX g0 w s=>⟨⟨rfl,λj e' p=>?_⟩,λj Z p=>?_⟩) H;cases e' with
  |dead=>exact .inl rfl
  |live g1 L=>exact .inr (.inl ⟨g1,L,L,p,rfl,rfl,λi v hi=>⟨v,hi,λ_ r=>r⟩⟩)
  |_=>exact .inr (.inr ⟨p,q!⟩)
  obtain⟨v,q1,q2⟩:=a.2 j Z p;exact⟨v,q1,λd W=>q2 _ _ W⟩
 split at h;rename_i Y l;split at h;rename_i I;have n:=Ty.beq_eq _ _ I;injection n with n;subst n;have z:(Ty.cast I l:Ψ Y.D)=l:=rfl;rw[z]at h;cases hz:τ (((θ l:Nat):Int)=0)with
 |true=>
  rw[hz]at h;have h0:l=[]:=by
   have:((θ l:Nat):Int)=0:=by simpa using hz
   exact Eh o!
  subst h0;refine⟨TV.c (Bu.ls Y []),b++[D0.dead],?_,h,J3 trivial,Py K trivial,CE.push _ _,Frame.push _ _ _⟩;exact(hc [] b K).1 rfl
 |false=>
  rw[hz]at h;have h0:l≠ []:=by rintro rfl;simp at hz
  obtain⟨r,hr,h⟩:=Dn.1 h;have e:D0.ok (b++[.buf η Y r (θ r) 0]) (.buf η Y r (θ r) 0):=rfl;have q:=(hc l b K).2 r h0 hr;refine⟨TV.c (Bu.own (θ b) 0 Y (θ r)),b++[D0.buf η Y r (θ r) 0],?_,h,uy,Py K e,CE.push _ _,Frame.push _ _ _⟩;exact q
 cases h;refine⟨TV.c (Bu.ls t []),b++[D0.dead],?_,h,J3 trivial,Py K trivial,CE.push _ _,Frame.push _ _ _⟩;exact same (Dq.one (XI.nil t.sz_pos)) ((hc [] b K).1 rfl);cases h
end
section
variable {P:Program}{N:Nat}{o:Oper}{env:Env}{H:Au}{K:Ad->Au->Prop}
def uP{sz:Nat}{rows:Ψ Ad}(n:o.op=.binOp .eql a c (.const (.slice ε 0 0)) G)(E:P.underlying a=Z (.slice V))(F:BP env c=.vs sz rows)
  (C:∀b,(rows≠ []->b=η)->K (.bool b) H):Jq P N o env H K:=by
 apply C3 (by rw[n];rfl);intro X h I w s Q;have l:=Dp s.env c;rw[F]at l;generalize i:I.eval c=cx0 at l;cases l with
 | @vs sz rows e cap f m D p z J=>
  have k:=run_underlying E w;have g:(execOp I.eval o).run P w=.ok (.value (.bool e.isNone)) w:=by
   unfold execOp;rw[n];have r:I.eval (.const (.slice ε 0 0))=.slice ε 0 0:=rfl;have u:(eqGuard .eql a c (.const (.slice ε 0 0)) (.slice e (θ rows) cap) (.slice ε 0 0)).run P w=.ok () w:=by unfold eqGuard;simp
   have v:(Op.equal a (.slice e (θ rows) cap) (.slice ε 0 0)).run P w=.ok e.isNone w:=by
    have y:∃d,Op.maxDepth=d+1:=⟨9999,rfl⟩
    obtain⟨d,A⟩:=y;unfold Op.equal;rw[A];cases e<;>simp[Op.equalIn,k]
   simp only[i,r,Sem.run_bind,u,Result.andThen_ok,binOp,v,Sem.run_pure]
  unfold Oper.wp;rw[g,Oper.upon_value];refine⟨_,_,h,H,rfl,C e.isNone (λj=>?_),.bool _,s.sim,HN.refl _ _ _⟩;obtain⟨B,t,q,_⟩:=z j;rw[q];rfl
def Jq.clear{t e:TypeId}{x:Operand}{id g l n sz:Nat}(ho:o.op=.call {callee:=.builtin .clear,args:= #[x],argTypes:= #[t]})(hd:o.dst=ε)(he:eI P t=δ (ε,e,sz))(bG:SJ P e=ζ)(hz:ZU P e=δ O)(W:θ O=sz)
  (hx:BP env x=.sl id g sz l n) (E:H[id]?=δ (Fx.live g i)) (a4:l+n*sz<=θ i) (hk:K (.tup []) (H.set id (.live g (XC i l (ς n O).flatten)))):Jq P N o env H K:=by
 apply C3 (by rw[ho];rfl);intro X h a w s Q;obtain⟨b0,b,hi⟩:=Qw he;obtain⟨z,zv,v,b3,a',b1⟩:=Ua bG;have a2:=mD hi v;obtain⟨i',y,a0,a8,a6⟩:=fE (cx X h H w) hz;have:i'=z:=by rw[v]at a0;exact(Ba a0).symm
 subst this;have:y=zv:=by rw[a']at a8;exact(Ba a8).symm
 subst this;have A:y.cells.size=sz:=by rw[b1,a2]
 have rx:=Dp s.env x;rw[hx]at rx;have R:=run_underlying b0 w;have S:(ς n O).flatten.length=n*sz:=by simp[W]
 obtain⟨ar,ao⟩:=s.sim.live id g i E;have bN:∃ad cap,a.eval x=.slice ad n cap/\(n≠0->∃B,h.io id=δ B/\ad=δ ⟨B,l,ε⟩):=by
  generalize a.eval x=c at rx;cases rx with
  |sl h1 h2 h3 hc=>rcases hc ar with⟨_,q2,_,q4⟩|⟨B,cap,q1,_,_,q4⟩;exact⟨ε,0,by rw[q4,q2],λbz=>(bz q2).elim⟩;exact⟨_,cap,q4,λ_=>⟨B,q1,rfl⟩⟩
 obtain⟨ad,cap,Z,bb⟩:=bN;have a1:id<θ H:=by rcases Ay id (θ H) with h2|h2;exact h2;rw[Cq h2]at E;cases E
 by_cases hn:n=0;subst hn;have F:(execOp a.eval o).run P w=.ok (.value (.tuple #[])) w:=by unfold execOp;rw[ho];simp only[resolve,invoke,builtin,Sem.run_bind,Sem.run_pure,Result.andThen_ok,Qn,CQ,Hi,Z,Builtin.clear_];simp[R];cases ad<;>simp
 unfold Oper.wp;rw[F,Oper.upon_value];have e1:H.set id (.live g (XC i l (ς 0 O).flatten))=H:=by
  have:XC i l (ς 0 O).flatten=i:=by simp[XC]
  rw[this];apply JR;intro j;by_cases a3:j=id;subst a3;rw[Hq a1,E];rw[Db λe=>a3 e.symm]
 rw[e1]at hk;exact⟨_,_,h,H,rfl,hk,.tup rfl λ_ _ _ h=>by (cases h),s.sim,HN.refl _ _ _⟩;obtain⟨B,J,rfl⟩:=bb hn;rcases ao with⟨a5,_⟩|⟨B',Y,T,fz,f,M,hb,al,b2,ap,I⟩;rw[show(cx X h H w).io id=h.io id from rfl,J]at a5;cases a5;rw[show(cx X h H w).io id=h.io id from rfl,J]at M;injection M with e0;subst e0;have V:(Builtin.zeroCells y.cells n).size=n*sz:=by rw[ZV,A]
 have G:∀j,j<n*sz->∃d u,(Builtin.zeroCells y.cells n)[j]?=δ d/\(ς n O).flatten[j]?=δ u/\d.oneCell'=ζ/\Bw (cx X h H w) u d:=by
  intro j r;have a7:0<sz:=by rcases WF sz with q|q;subst q;simp at r;exact q
  have hm:j%sz<y.cells.size:=by rw[A];exact Yc _ a7
  have D:y.cells[j%sz]?=δ (y.cells[j%sz]'hm):=N5 hm;have ax:∀(m j:Nat),j<m*sz->(ς m O).flatten[j]?=O[j%sz]? :=by
   intro m;induction m with
   |zero=>intro j r;omega
   |succ m ih=>intro j r;rw[nA,pw];rcases Ay j sz with bm|bd;rw[CW o!,TT bm];rw[Cl o!,W,ih (j-sz) (by rw[EB]at r;omega),<-Nat.mod_eq_sub_mod bd]
  have a9:O[j%sz]?=δ (O[j%sz]'(by rw[W];exact Yc _ a7)):=As _;have U:(Builtin.zeroCells y.cells n)[j]?=δ (y.cells[j%sz]'hm):=by
   unfold Builtin.zeroCells;rw[cP,Array.getElem?_range,C! (by rw[A];exact r)];have bt:j%y.cells.size<y.cells.size:=by rw[A];rw[A]at hm;exact hm
   rw[Bs,getElem!_pos y.cells _ bt];simp only[A]
  cases a6 with
  |agg q1 q2 q3=>exact⟨_,_,U,by rw[ax n j r,a9],q2 _ _ D,q3 _ _ _ a9 D⟩
 obtain⟨w',L,p1,p2,p3,p4,p5,p6,p7,p8,p9⟩:=VS (P:=P) (off:=l) (Builtin.zeroCells y.cells n).toList 0 Y w hb (by simp[V];omega) ap (λd hd=>by
  obtain⟨j,r⟩:=C2 hd;have bl:j<n*sz:=by rw[<-V];have:=(EU.1 r).1;simpa using this
  obtain⟨d',u,q1,_,q3,_⟩:=G j bl;rw[Pz]at r;rw[r]at q1;injection q1 with q1;rw[q1];exact q3)
 have F:(execOp a.eval o).run P w=.ok (.value (.tuple #[])) w':=by
  unfold execOp;rw[ho];simp only[resolve,invoke,builtin,Sem.run_bind,Sem.run_pure,Result.andThen_ok,Qn,CQ,Hi,Z,Builtin.clear_];have b4:∀(α:Type)(p q:α),(match n with|0=>p|_+1=>q)=q:=by
   intro α p q;cases n with
   |zero=>exact(hn rfl).elim
   |succ m=>rfl
  obtain⟨m,rfl⟩:∃m,n=m+1:=⟨n-1,o!⟩
  simp[R,zeroValue,typeInfo,v,a'];rw[p1];rfl
 have hh:Holds (cx X h H w) (XC i l (ς n O).flatten) L fz:=by
  refine⟨λj=>if l<=j/\j<l+n*sz then(Builtin.zeroCells y.cells n).getD (j-l) undef else f j,by rw[k9 (by rw[S];exact a4)];omega,by rw[p3];exact ap,λj u r=>?_⟩;rw[vJ (by rw[S];exact a4),S]at r;rw[p4];simp only[O1,D2,V,Pz];split at r;rename_i C;rw[C! C,C! C];obtain⟨d,u',q1,q2,q3,q4⟩:=G (j-l) o!;rw[q2]at r;injection r with r;subst r;have e:(Builtin.zeroCells y.cells n).getD (j-l) undef=d:=by rw[Qt,q1];rfl
  rw[e];exact⟨q1,q3,q4⟩;rename_i C;rw[D! C,D! C];exact I j u r
 obtain⟨q1,q2⟩:=s.sim.upd (g':=g) (B:=B) (arr:=L) (T:=T) (fz:=fz) (w':=w') E (Al _) (λ_=>⟨J,by rw[p3];exact al.symm⟩) (.inl J) p2 (λk _ hk=>p5 k hk) p6 p7 p8 (by rw[p9];exact Al _) hh;unfold Oper.wp;rw[F,Oper.upon_value];exact⟨_,_,_,_,rfl,hk,.tup rfl λ_ _ _ h=>by (cases h),q1,q2⟩
def sR(k:o.op=.call {callee:=.builtin .clear,args:= #[c],argTypes:= #[a]})(m:P.underlying a=Z (.slice G))
  (e:BP env c=.vs n []) (l:K (.tup []) H):Jq P N o env H K:=by
 apply C3 (by rw[k];rfl);intro X h t w s Q;have j:=Dp s.env c;rw[e]at j;have d:=run_underlying m w;have i:∃f cap,t.eval c=.slice f 0 cap:=by
  generalize t.eval c=x at j;cases j with
  |vs=>exact⟨_,_,rfl⟩
 obtain⟨f,cap,g⟩:=i;have b:(execOp t.eval o).run P w=.ok (.value (.tuple #[])) w:=by unfold execOp;rw[k];simp only[resolve,invoke,builtin,Sem.run_bind,Sem.run_pure,Result.andThen_ok,Qn,CQ,Hi,g,Builtin.clear_];simp[d];cases f<;>simp
 unfold Oper.wp;rw[b,Oper.upon_value];exact⟨_,_,h,H,rfl,l,.tup rfl λ_ _ _ h=>by (cases h),s.sim,HN.refl _ _ _⟩
end
def XJ(P:Program)(N:Nat)(ops:Array Oper):Ψ Oper->Env->Au->(Env->Au->Prop)->Prop
 |[],env,H,Q=>∃env1 H1,Fb N (θ H) env H env1 H1/\Q env1 H1
 |o::rest,env,H,Q=>∃env1 H1,Fb N (θ H) env H env1 H1/\
  YV ops o.guard env1 (Jq P N o env1 H1 λv H'=>XJ P N ops rest (env1.putO o.dst v) H' Q) (XJ P N ops rest (env1.putO o.dst (.tup [])) H1 Q)
def XJ.weak{N}{Q:Env->Au->Prop}{env1}{H e:Au}(w:Fb N (θ H) s H env1 e):∀{os:Ψ Oper},XJ P N j os env1 e Q->XJ P N j os s H Q
 |[],h=>by obtain⟨c,b,d,q⟩:=h;exact⟨c,b,w.trans (d.of_le w.1),q⟩
 |o::os,h=>by obtain⟨c,b,d,q⟩:=h;exact⟨c,b,w.trans (d.of_le w.1),q⟩
theorem uQ{r}{C:Exit→Act→World→Prop}{Q:Env→Au→Prop}:
  ∀(l:Ψ Nat)(os:Ψ Oper),l.map (j[·]?)=os.map Z->∀(env:Env)(H:Au)(h:Gh)(a:Act)(w:World),PC N os=ζ->XJ P N j os env H Q->St B h N env H a w->(∀f n y u q,Q f n->St B y N f n u q->HN h H w y n q->u.defers=a.defers->C .normal u q)->wpOpsIn (FR r) 0 P j C l a w:=by
 intro l;induction l with
 |nil=>
  intro os d env H h a w _ hr s z;have:os=[]:=t!
  subst this;obtain⟨env1,A,b,hr⟩:=hr;obtain⟨x,e,E,d⟩:=b.2 B h a w s;exact z env1 A x a w hr e (Fb.ext rfl b.1 E d (HN.refl h H w)) rfl
 |cons i l L=>
  intro os d env H h a w T hr s z;match os,d with
  |o::os,d=>
   simp at d;obtain⟨O,m⟩:=d;simp only[wpOpsIn,O];have g:∀t,o.dst=Z t->t<a.tmps.size:=by intro t Y;simp only[PC]at T;rw[s.size];grind
   have p:PC N os=ζ:=by simp_all[PC]
   obtain⟨env1,A,b,hr⟩:=hr;obtain⟨x,e,E,d⟩:=b.2 B h a w s;have M:=Fb.ext rfl b.1 E d (HN.refl h H w);rcases zU e.env hr with⟨J,R⟩|⟨J,S⟩;rw[C! J];refine Oper.wpIn_mono ?_ (R r B x a w e C);rintro u q ⟨c,v,y,n,rfl,k,W,V,K⟩;have U:=K.later B;apply L os m _ n y _ q p k ⟨V,Oo.putO (e.env.later U) g W,(eZ _ _ _).trans e.size⟩;intro env2 X m a2 G q2 F I D;exact z env2 X m a2 G q2 F (M.trans (K.trans I)) (D.trans (by cases o.dst<;>rfl));rw[D! k!];refine⟨λ_ _=>O!,L os m _ A x _ w p S ⟨e.sim,Oo.putO e.env g (.tup rfl λ_ _ _ h=>by cases h),(eZ _ _ _).trans e.size⟩ ?_⟩;intro env2 X m a2 G q2 F I D;exact z env2 X m a2 G q2 F (M.trans I) (D.trans (by cases o.dst<;>rfl))
theorem F4{N}{H}{Q:Exit->Env->Au->Prop}{id:Nat}{b:Array Oper}(i:PC N b.toList=ζ)(h:XJ P N b b.toList s H (Q .normal)):J1 P N (.region id b η) s H Q:=by intro r X g a w n _;refine wpIn_region (uQ (List.range b.size) b.toList ?_ s H g a w i h n ?_);apply JR;grind;intro c d f l m q j k e;exact⟨f,c,d,q,j,k,.same e⟩
open Go.MapKept (IsKey)
def QJ{α:Type}(n:Int)(v:α):Ψ (Int×α)->Ψ (Int×α)
 |[]=>[(n,v)]
 |p::r=>bif p.1==n then(n,v)::r else p::QJ n v r
def LY{α:Type}(n:Int):Ψ (Int×α)->Ω α
 |[]=>ε
 |p::r=>bif p.1==n then Z p.2 else LY n r
def zn{a c:Type}(f:a->c)(n:Int)(v:a):∀b:Ψ (Int×a),(QJ n v b).map (λp=>(p.1,f p.2))=QJ n (f v) (b.map λp=>(p.1,f p.2))
 |[]=>rfl
 |p::r=>by simp only[QJ,CQ];cases p.1==n<;>simp[zn f n v r]
def uv{b c:Type}(f:b->c)(n:Int):∀a:Ψ (Int×b),LY n (a.map λp=>(p.1,f p.2))=(LY n a).map f
 |[]=>rfl
 |p::r=>by simp only[LY,CQ];cases p.1==n<;>simp[uv f n r]
section
variable {X:Nat->Prop}{h:Gh}{H:Au}{w:World}
def JP.of_extM{a:Gh}{d:World}(s:JP X h H w)(k:HN h H w a p d)
  (key:∀(id:Nat)(e:Fx),p[id]?=Z e->e≠.dead->(H[id]?=Z e/\a.gen id=h.gen id/\a.io id=h.io id/\a.cap id=h.cap id/\∀B,h.io id=Z B->d.heap[B]?=w.heap[B]?)\/(e.isB=ζ/\BAt a d id e))
  (inj:∀(id b:Nat)(e g:Fx)(B:Nat),p[id]?=Z e->p[b]?=Z g->e≠.dead->g≠.dead->a.io id=Z B->a.io b=Z B->id=b):JP X a p d:=
 s.of_ext' k (λi e j f=>(key i e j f).imp id λh=>.inr (.inr h)) inj
theorem JP.push_m(s:JP X h H w)(o:Obj)(cap:Nat)(E:Fx)(u:E.isB=ζ)
  (t:BAt (h.at_ (θ H) (Z w.heap.size) 0 cap) {w with heap:=w.heap.push o} (θ H) E):
  JP X (h.at_ (θ H) (Z w.heap.size) 0 cap) (H++[E]) {w with heap:=w.heap.push o}:=by
 refine s.of_extM (HN.push o cap E) (λid e d g=>?_) λid q e r B m n b c k l=>?_;rcases JN d with⟨a,d⟩|⟨rfl,rfl⟩;refine .inl ⟨d,by simp[Gh.at_,Bo a],by simp[Gh.at_,Bo a],by simp[Gh.at_,Bo a],λB f=>?_⟩;have:=s.io_at d g f;grind;grind;rcases JN m with⟨l1,i⟩|⟨rfl,_⟩<;>rcases JN n with⟨l2,j⟩|⟨rfl,_⟩;exact s.inj _ _ _ _ B i j b c (by simpa[Gh.at_,Bo l1]using k) (by simpa[Gh.at_,Bo l2]using l);have p:=s.io_at i b (by simpa[Gh.at_,Bo l1]using k);grind[Gh.at_];have p:=s.io_at j c (by simpa[Gh.at_,Bo l2]using l);grind[Gh.at_];rfl
def JP.setM(s:JP X h H w){E E':Fx}{o o':Obj}{w':World}(g:H[N]?=Z E)(J:E.isB=ζ)(v:E'.isB=ζ)(m:h.io N=Z n)(K:w.heap[n]?=Z o)(A:∀r,o≠.loop r)
  (G:w'.heap=w.heap.setIfInBounds n o') (C:w'.os=w.os) (B:w'.tape=w.tape) (M:w'.output=w.output) (x:BAt h w' N E'):
  JP X h (H.set N E') w'/\HN h H w h (H.set N E') w':=by
 have d:N<θ H:=by rcases Ay N (θ H) with f|f;exact f;rw[Cq f]at g;cases g
 have b:E≠.dead:=by rintro rfl;cases J
 have O:∀k,k≠n->w'.heap[k]?=w.heap[k]? :=λk h=>by rw[G];simp[O3 h]
 have own:∀k,owned h (H.set N E') k->owned h H k:=by rintro k ⟨i,e,j,c,f⟩;rcases Jp d j with⟨y,a⟩|⟨rfl,_⟩;exact⟨i,e,a,c,f⟩;exact⟨i,E,g,b,f⟩
 have I:HN h H w h (H.set N E') w':=by refine⟨C,B,M,by rw[G];simp,λk _ hn=>O k λe=>hn ⟨N,E,g,b,by rw[e];exact m⟩,q!,λ_ _=>Al _,λ_ _ _=>⟨rfl,rfl⟩,λk O=>.inl (own k O),λk r hr=>⟨r,?_⟩⟩;refine(O k λe=>?_).trans hr;subst e;rw[K]at hr;injection hr with hr;exact A r hr
 refine⟨s.of_extM I (λi e j c=>?_) (λi D e F k j f p q t u=>?_),I⟩;rcases Jp d j with⟨y,a⟩|⟨rfl,rfl⟩;refine .inl ⟨a,rfl,rfl,rfl,λk z=>O k λe=>?_⟩;subst e;exact y (s.inj i N _ _ k a g c b z m);exact .inr ⟨v,x⟩;rcases Jp d j with⟨y,a⟩|⟨rfl,rfl⟩<;>rcases Jp d f with⟨L,l⟩|⟨rfl,rfl⟩;exact s.inj i D e F k a l p q t u;exact s.inj i D e E k a g p b t u;exact s.inj i D E F k g l b q t u;rfl
end
def nY{k:IntKind}{n:Int}:∀(l:Ψ MapEntry)(a:Ψ (Int×Ad))(i:Nat),θ l=θ a→(∀(j:Nat)(p:Int×Ad),a[j]?=Z p→ ∃e:MapEntry,l[j]?=Z e∧e.key=.int k p.1)→
  (Instr.findNow (.int k) (.int k n) l i=Z ε/\LY n a=ε/\∀v,QJ n v a=a++[(n,v)])\/∃j e p,Instr.findNow (.int k) (.int k n) l i=Z (Z (i+j,e.val))/\l[j]?=Z e/\a[j]?=Z p/\e.key=.int k n/\LY n a=Z p.2/\∀v,QJ n v a=a.set j (n,v)
 |[],[],_,_,_=>.inl ⟨rfl,rfl,λ_=>rfl⟩
 |[],_::_,_,hl,_=>by simp at hl
 |_::_,[],_,hl,_=>by simp at hl
 |e::l,p::a,i,hl,h=>by
  obtain⟨z,o,r⟩:=h 0 p rfl;simp only[cN,Ao]at o;subst o;have m:Instr.sameNow (.int k) (.int k n) e.key=Z (n==p.1):=by rw[r];simp[Instr.sameNow]
  by_cases hn:p.1=n;refine .inr ⟨0,e,p,?_,rfl,rfl,by rw[r,hn],?_,λv=>?_⟩;simp[Instr.findNow,m,hn];simp[LY,hn];simp[QJ,hn];have c:(n==p.1)=η:=by simp;exact λe=>hn e.symm
  have b:(p.1==n)=η:=by simpa using hn
  rcases nY (k:=k) (n:=n) l a (i+1) (by simpa using hl) (λj q x=>by simpa using h (j+1) q (by simpa using x))with⟨d,f,g⟩|⟨j,s,y,d,f,g,t,u,w⟩;exact .inl ⟨by simp[Instr.findNow,m,c,d],by simp[LY,b,f],λv=>by simp[QJ,b,g]⟩;exact .inr ⟨j+1,s,y,by simp[Instr.findNow,m,c,d];omega,by simpa using f,by simpa using g,t,by simp[LY,b,u],λv=>by simp[QJ,b,w]⟩
section
variable {P:Program}{N:Nat}{o:Oper}{env:Env}{H:Au}{K:Ad->Au->Prop}
def Jq.makeMap(k:IntKind)(c:o.op=.makeMap a ε)(e:K (.mp (θ H)) (H++[.mp k []])):Jq P N o env H K:=by
 apply C3 (by rw[c];rfl);intro X h t w s Q;have b:(execOp t.eval o).run P w=.ok (.value (.map (Z w.heap.size))) {w with heap:=w.heap.push (.map #[] 0)}:=by unfold execOp;rw[c];rfl
 unfold Oper.wp;rw[b,Oper.upon_value];refine⟨_,_,_,_,rfl,e,?_,s.sim.push_m (.map #[] 0) 0 (.mp k []) rfl ⟨w.heap.size, #[],by simp[Gh.at_],by simp[Gh.at_],q!,rfl,λj p d=>by simp at d⟩,HN.push _ _ _⟩;exact .mp (by simp[cx]) rfl λ_=>⟨w.heap.size,by simp[cx,Gh.at_],rfl⟩
def AE5(s:St B h N env H L w)(u:BP env c=.mp n)(r:H[n]?=Z (.mp z I)):
  ∃(a:Nat)(b:Array MapEntry),L.eval c=.map (Z a)/\h.io n=Z a/\h.gen n=0/\w.heap[a]?=Z (.map b b.size)/\b.size=θ I/\∀(j:Nat)(p:Int×Ad),I[j]?=Z p->∃e:MapEntry,b[j]?=Z e/\e.born=j/\e.key=.int z p.1/\∀c,Bw c p.2 e.val:=by
 have g:=Dp s.env c;rw[u]at g;obtain⟨a,b,i,l,m,x,o⟩:=s.sim.bld n _ r rfl;generalize L.eval c=X at g;cases g with
 |mp t y q=>obtain⟨v,d,rfl⟩:=q l;rw[show(cx B h H w).io n=h.io n from rfl,i]at d;injection d with d;subst d;exact⟨a,b,rfl,i,l,m,x,o⟩
def AEq(s:St X h N env H L w)(d:BP env c=.int z E):L.eval c=.int z E:=by have b:=Dp s.env c;rw[d]at b;generalize L.eval c=a at b;cases b;rfl
theorem Jq.mapUpdate{t U et:TypeId}{m I A:Operand}{id:Nat}{k:IntKind}{es:Ψ (Int×Ad)}{n:Int}{v:Ad}(S:o.op=.mapUpdate t m I A)(hm:BP env m=.mp id)(G:BP env I=.int k n)
  (hp:∀(x:Cx)(c:Value),Bw x (BP env A) c->∀y,Bw y v c) (T:P.underlying t=δ (.map U et)) (l:P.underlying U=δ (.int k)) (E:H[id]?=δ (.mp k es)) (R:K .any (H.set id (.mp k (QJ n v es)))):Jq P N o env H K:=by
 apply C3 (by rw[S];rfl);intro X h a w s Q;obtain⟨B,b,q1,q2,q3,q4,q5,q6⟩:=AE5 s hm E;have V:=AEq s G;have W:=hp _ _ (Dp s.env A);generalize u:a.eval A=c at W;have al:id<θ H:=k!
 have f:IsKey (.int k) (.int k n):=rfl;have q:B<w.heap.size:=(cO.1 q4).1;have z:execOp a.eval o=(do Instr.mapUpdate t (a.eval m) (a.eval I) (a.eval A);pure .skip):=by unfold execOp;rw[S]
 rcases nY (n:=n) (k:=k) b.toList es 0 k! (λj p d=>by obtain⟨e,Z,_,C,_⟩:=q6 j p d;exact⟨e,k!,C⟩)with⟨D,M,O⟩|⟨j,Y,p0,D,M,O,h4,h5,h6⟩;have g:(execOp a.eval o).run P w=.ok .skip {w with heap:=w.heap.setIfInBounds B (.map (b.push {key:=.int k n,val:=c,born:=b.size}) (b.size+1))}:=by rw[z,q1,V,u];simp[Instr.mapUpdate,run_underlying T,MapKept.run_getObj_map q4,MapKept.run_checkKey l f,MapKept.run_findKey l D,MapKept.run_setObj_map _ q4]
 unfold Oper.wp;rw[g,Oper.upon_skip];obtain⟨J,L⟩:=s.sim.setM (E':=.mp k (QJ n v es)) (o':=.map (b.push {key:=.int k n,val:=c,born:=b.size}) (b.size+1))
  (w':={w with heap:=w.heap.setIfInBounds B (.map (b.push {key:=.int k n,val:=c,born:=b.size}) (b.size+1))}) E rfl rfl q2 q4 (λr e=>by cases e) rfl rfl rfl rfl (by refine⟨B,b.push {key:=.int k n,val:=c,born:=b.size},q2,q3,by simp[q],k!,λj p d=>?_⟩;rw[O]at d;rcases Qr j (θ es) with ar|rfl|ad;grind;rw[Cl (Al _),G5]at d;simp only[cN,Ao]at d;subst d;exact⟨{key:=.int k n,val:=c,born:=b.size},k!,q5,rfl,W⟩;rw[Cq w!]at d;cases d)
 exact⟨_,_,_,_,rfl,R,.any _,J,L⟩;have d:b[j]?=δ Y:=by simpa using M
 have ap:j<b.size:=(cO.1 d).1;have g:(execOp a.eval o).run P w=.ok .skip {w with heap:=w.heap.setIfInBounds B (.map (b.modify j λe=>{e with key:=.int k n,val:=c}) b.size)}:=by rw[z,q1,V,u];simp[Instr.mapUpdate,run_underlying T,MapKept.run_getObj_map q4,MapKept.run_checkKey l f,MapKept.run_findKey l D,d,h4,MapKept.run_keyThatStays f,MapKept.run_setObj_map _ q4]
 unfold Oper.wp;rw[g,Oper.upon_skip];obtain⟨J,L⟩:=s.sim.setM (E':=.mp k (QJ n v es)) (o':=.map (b.modify j λe=>{e with key:=.int k n,val:=c}) b.size)
  (w':={w with heap:=w.heap.setIfInBounds B (.map (b.modify j λe=>{e with key:=.int k n,val:=c}) b.size)}) E rfl rfl q2 q4 (λr e=>by cases e) rfl rfl rfl rfl (by refine⟨B,b.modify j λe=>{e with key:=.int k n,val:=c},q2,q3,by simp[q],k!,λi p F=>?_⟩;rw[h6,Tr]at F;split at F;grind;rename_i ao;obtain⟨e,Z,C⟩:=q6 i p F;exact⟨e,k!,C⟩)
 exact⟨_,_,_,_,rfl,R,.any _,J,L⟩
def ACa(P:Program)(t:TypeId):Ω Ad:=
 match (P.info? t).bind (·.zero)with
 |some (.agg cs)=>if cs.toList.all (·.oneCell')then Z (.agg (cs.toList.map rP))else ε
 |some (.bool b)=>Z (.bool b)
 |_=>ε
theorem ADi(h:ACa P a=Z u)(w:World):∃v,(zeroValue a).run P w=.ok v w/\∀x,Bw x u v:=by unfold ACa at h;split at h;rename_i d t;split at h;rename_i e;obtain⟨i,c,t⟩:=Dn.1 t;refine⟨.agg d,by simp[zeroValue,typeInfo,c,t],λx=>?_⟩;have:=zI x (.agg d);grind[AC2];cases h;rename_i b t;obtain⟨i,c,t⟩:=Dn.1 t;injection h with h;subst h;exact⟨.bool b,by simp[zeroValue,typeInfo,c,t],λx=>.bool b⟩;cases h
theorem Jq.lookup{id:Nat}{k:IntKind}{es:Ψ (Int×Ad)}{n:Int}{z:Ad}{g:Bool}(T:o.op=.lookup a c J g)(hm:BP env c=.mp id)(O:BP env J=.int k n)
  (U:P.underlying a=δ (.map V G)) (f:P.underlying V=δ (.int k)) (hz:ACa P G=δ z) (he:H[id]?=δ (.mp k es))
  (hk:K (bif g then .tup [(LY n es).getD z,.bool (LY n es).isSome]else(LY n es).getD z) H):Jq P N o env H K:=by
 apply C3 (by rw[T];cases g<;>rfl);intro X h m w s Q;obtain⟨B,q,q1,q2,q3,q4,q5,q6⟩:=AE5 s hm he;have Y:=AEq s O;have i:IsKey (.int k) (.int k n):=rfl;have y:execOp m.eval o=(do pure (.value (<-Instr.lookup a (m.eval c) (m.eval J) g))):=by unfold execOp;rw[T]
 have x:∀(t:Value)(v:Ad)(b:Bool),(execOp m.eval o).run P w=.ok (.value (bif g then .tuple #[t,.bool b]else t)) w→Bw (cx X h H w) v t→K (bif g then .tup [v,.bool b]else v) H→
   Oper.wp P o m w (λZ L=>∃t v E C,Z=m.put o.dst t/\K v C/\Bw (cx X E C L) v t/\JP X E C L/\HN h H w E C L) Q:=by
  intro t v b A I hK;unfold Oper.wp;rw[A,Oper.upon_value];refine⟨_,_,h,H,rfl,hK,?_,s.sim,HN.refl _ _ _⟩;cases g;exact I;refine .tup q! λj u d l S=>?_;rcases j with _|_|j;grind;simp at l S;subst l S;exact .bool b;grind
 rcases nY (n:=n) (k:=k) q.toList es 0 k! (λj p l=>by obtain⟨e,r,_,D,_⟩:=q6 j p l;exact⟨e,k!,D⟩)with⟨F,h2,R⟩|⟨j,M,W,F,h2,R,h4,h5,h6⟩;obtain⟨v,I,hr⟩:=ADi hz w;refine x v z η ?_ (hr _) k!;rw[y,q1,Y];cases g<;>simp[Instr.lookup,run_underlying U,MapKept.run_getObj_map q4,MapKept.run_checkKey f i,MapKept.run_findKey f F,I];obtain⟨e',r,_,_,D⟩:=q6 j W R;have l:q[j]?=δ M:=k!
 rw[l]at r;injection r with r;subst r;refine x M.val W.2 ζ ?_ (D _) k!;rw[y,q1,Y];cases g<;>simp[Instr.lookup,run_underlying U,MapKept.run_getObj_map q4,MapKept.run_checkKey f i,MapKept.run_findKey f F]
theorem Jq.range{id:Nat}{k:IntKind}{es:Ψ (Int×Ad)}(d:o.op=.range a c)(j:BP env c=.mp id)(l:P.underlying a=Z (.map G V))(g:H[id]?=Z (.mp k es))
  (i:K (.itp (θ H) id) (H++[.it (θ es) []])):Jq P N o env H K:=by
 apply C3 (by rw[d];rfl);intro X h t w s Q;obtain⟨B,e,q1,q2,q3,q4,q5,q6⟩:=AE5 s j g;have n:id<θ H:=k!
 have b:(execOp t.eval o).run P w=.ok (.value (.pointer (Z ⟨w.heap.size,0,ε⟩))) {w with heap:=w.heap.push (.mapIter (Z B) (θ es) #[] (θ es))}:=by unfold execOp;rw[d];simp only[q1];simp[Instr.range,run_underlying l,MapKept.run_getObj_map q4,newObj,q5];rfl
 unfold Oper.wp;rw[b,Oper.upon_value];refine⟨_,_,_,_,rfl,i,?_,s.sim.push_m (.mapIter (Z B) (θ es) #[] (θ es)) B (.it (θ es) []) rfl ⟨w.heap.size,by simp[Gh.at_],by simp[Gh.at_],by simp[Gh.at_]⟩,HN.push _ _ _⟩;exact .itp (by simp[cx]) (by simp[cx];omega) rfl λ_=>⟨w.heap.size,by simp[cx,Gh.at_],rfl,λ_=>by simp[cx,Gh.at_,Bo n,q2]⟩
def AH8{m:Nat}(s:St B h N env H L w)(F:BP env c=.itp T m)(D:H[T]?=Z (.it n M))(C:H[m]?=Z (.mp z I)):
  ∃(x f:Nat)(b:Array MapEntry),L.eval c=.pointer (Z ⟨x,0,ε⟩)/\h.io T=Z x/\h.gen T=0/\w.heap[x]?=Z (.mapIter (Z f) n M.toArray n)/\h.cap T=f/\w.heap[f]?=Z (.map b b.size)/\b.size=θ I/\∀(j:Nat)(p:Int×Ad),I[j]?=Z p->∃e:MapEntry,b[j]?=Z e/\e.born=j/\e.key=.int z p.1/\∀c,Bw c p.2 e.val:=by
 have l:=Dp s.env c;rw[F]at l;obtain⟨x,o,q,r⟩:=s.sim.bld T _ D rfl;obtain⟨f,b,t,u,v,y,k⟩:=s.sim.bld m _ C rfl;generalize L.eval c=a at l;cases l with
 |itp E J X A=>obtain⟨G,g,rfl,d⟩:=A q;rw[show(cx B h H w).io T=h.io T from rfl,o]at g;injection g with g;subst g;have d:=d u;rw[show(cx B h H w).io m=h.io m from rfl,t]at d;injection d with d;have d:f=h.cap T:=d;subst d;exact⟨x,_,b,rfl,o,q,r,rfl,v,y,k⟩
theorem Jq.next{x:Operand}{id m:Nat}{k:IntKind}{es:List (Int×Ad)}{seen:List Nat}(ho:o.op= .next x false)(hx:BP env x= .itp id m)(f:H[id]? =some (.it es.length seen))(he:H[m]? =some (.mp k es))
  (z:(∀j,j<es.length->j∈seen)->K (.tup [.bool false]) H)
  (C: ∀(j:Nat) (p:Int×Ad),es[j]? =some p->j∉seen->K (.tup [.bool true,.int k p.1,p.2]) (H.set id (.it es.length (seen++[j])))):Jq P N o env H K:=by
 apply C3 (by rw[ho];rfl);intro X h a w s Q;obtain⟨B,v,c,q1,q2,q3,q4,qc,q5,q6,q7⟩:=AH8 s hx f he;have ap:execOp a.eval o=(do pure (.value (<-Instr.next (a.eval x) false o.type))):=by unfold execOp;rw[ho]
 have y: ∀(j:Nat) (e:MapEntry),c[j]? =some e->e.born=j/\j<es.length:=by
  intro j e q;have I:j<es.length:=by grind[Array.getElem?_eq_some_iff]
  obtain⟨e',E,T,_⟩:=q7 j _ (As I);rw[q]at E;injection E with E;subst E;exact⟨T,I⟩
 have t: ∀e∈c.toList,e.born<es.length:=λe A=>by grind[List.getElem?_of_mem]
 have M:w.heap[B]? =some (.mapIter (some v) es.length seen.toArray es.length):=q4;generalize V:Array.filter (λe:MapEntry=>!seen.toArray.contains e.born) c=L;have G: ∀e∈L.toList,e∈c.toList/\e.born∉seen:=λe A=>by rw[<-V]at A;simpa using A
 have E:L.filter (λx=>decide (x.born<es.length))=L:=Array.filter_eq_self.2 (λx hx=>by simpa using t x (G x (by simpa using hx)).1);have T:L.filter (λx=>decide (x.born>=es.length))= #[]:=by grind[Array.filter_eq_empty_iff]
 have D:(Instr.next (.pointer (some ⟨B,0,none⟩)) false o.type).run P w=((do
   let b:=(if L.isEmpty then #[none]else #[])++L.map some;match b[<-choose (.mapNext b.size)]? with
   |some (some e)=>
    setObj B (.mapIter (some v) es.length (seen.toArray.push e.born) c.size)
    pure (.tuple #[.bool true,e.key,e.val])
   |some none=>pure (.tuple #[.bool false])
   |none=>stuck "Next: no such candidate"):Sem Value).run P w:=by
  simp only[Instr.next,getObj,Sem.run_bind,Sem.run,M,q5,Result.andThen,next_test_false seen.toArray c es.length es.length t (Al _),RR,if_false,V,E,T,Array.append_empty];rfl
 by_cases h0:L.size=0;have W:L= #[]:=tQ h0;subst W;have g:(execOp a.eval o).run P w= .ok (.value (.tuple #[.bool false])) w:=by simp_all[Sem.run_bind,Sem.run,Question.forced]
 unfold Oper.wp;rw[g,Oper.upon_value];refine⟨_,_,h,H,rfl,z λj q=>?_,.tup q! λi u d f n=>?_,s.sim,HN.refl _ _ _⟩;obtain⟨e,O,R,_⟩:=q7 j _ (As q);rcases Classical.em (j∈seen)with U|U;exact U;have:e∈(Array.filter (λe:MapEntry=>!seen.toArray.contains e.born) c).toList:=by have A:e∈c:=wA O;simp[A,R,U]
 rw[V]at this;simp at this;rcases i with _|i;simp at f n;subst f n;exact .bool false;simp at f;have ax:L.isEmpty=false:=by simp[Array.isEmpty,h0]
 obtain⟨i,l,ar,Y,Z,ad,al,ao⟩: ∃(i:Nat) (l:World),i<L.size/\l.heap=w.heap/\l.os=w.os/\l.output=w.output/\l.tape=w.tape/\(choose (Question.mapNext L.size)).run P w= .ok i l:=by by_cases hf:L.size<=1;exact⟨0,w,o!,rfl,rfl,rfl,rfl,by simp[choose,Sem.run,Question.forced,hf]⟩;exact⟨_,w.drew,Yc _ o!,rfl,rfl,rfl,rfl,by simp only[choose,Sem.run,Question.forced,decide_eq_true_eq,hf,if_false,Question.cut];rfl⟩
 have A:L[i]∈L.toList:=q!
 obtain⟨m1,m2⟩:=G _ A;obtain⟨j,q⟩:=C2 m1;have q:c[j]? =some L[i]:=by simpa using q
 obtain⟨O,R⟩:=y j _ q;obtain⟨e,S,c2,c3,c4⟩:=q7 j _ (As R);rw[q]at S;injection S with S;subst S;have F:B<w.heap.size:=(cO.1 q4).1;have g:(execOp a.eval o).run P w= .ok (.value (.tuple #[.bool true,.int k es[j].1,L[i].val])) {l with heap:=w.heap.setIfInBounds B (.mapIter (some v) es.length (seen++[j]).toArray es.length)}:=by
  rw[ap,q1,Sem.run_bind,D];simp only[ax,RR,if_false,Array.empty_append,Array.size_map,Sem.run_bind,ao,Result.andThen_ok,cP,N5 ar,Bs];have J:(setObj B (.mapIter (some v) es.length (seen.toArray.push L[i].born) c.size)).run P l= .ok () {l with heap:=w.heap.setIfInBounds B (.mapIter (some v) es.length (seen++[j]).toArray es.length)}:=by simp[setObj,Sem.run,Y,M,O,q6]
  simp only[J,Result.andThen_ok,Sem.run_pure,c3]
 unfold Oper.wp;rw[g,Oper.upon_value];obtain⟨s1,s2⟩:=s.sim.setM (E':=.it es.length (seen++[j])) (o':=.mapIter (some v) es.length (seen++[j]).toArray es.length) (w':={l with heap:=w.heap.setIfInBounds B (.mapIter (some v) es.length (seen++[j]).toArray es.length)}) f rfl rfl q2 q4 (λr e=>by cases e) rfl Z al ad
  ⟨B,q2,q3,by simp[F,qc]⟩
 refine⟨_,_,_,_,rfl,C j _ (As R) (by rw[<-O];exact m2),.tup q! λi u d f n=>?_,s1,s2⟩;rcases i with _|_|_|i;simp at f n;subst f n;exact .bool true;simp at f n;subst f n;exact .int _ _;simp at f n;subst f n;exact c4 _;simp at f
theorem Jq.entry{x:Operand}{id m j:Nat}{k:IntKind}{es:Ψ (Int×Ad)}{seen:Ψ Nat}{p:Int×Ad}(l:o.op=.entry x)(A:BP env x=.itp id m)(f:H[id]?=Z (.it (θ es) (seen++[j])))(r:H[m]?=Z (.mp k es))
  (v:es[j]?=Z p) (y:K (.tup [.int k p.1,p.2]) H):Jq P N o env H K:=by
 apply C3 (by rw[l];rfl);intro X h a w s Q;obtain⟨B,C,b,q1,q2,q3,q4,J,q5,q6,q7⟩:=AH8 s A f r;obtain⟨e,D,n,q,E⟩:=q7 j p v;have t:b.find? (·.born==j)=Z e:=by
  rw[<-Array.find?_toList,<-n];refine find_born e b.toList ?_ k!;have I:b.toList.map (·.born)=List.range b.size:=by refine JR λi=>?_;rw[CR,Pz];rcases Ay i b.size with z|z;obtain⟨e,F,G,_⟩:=q7 i _ (As (by omega:i<θ es));grind;grind
  grind
 have c:(execOp a.eval o).run P w=.ok (.value (.tuple #[.int k p.1,e.val])) w:=by unfold execOp;rw[l];simp only[q1];simp[Instr.entry,getObj,Sem.run,q4,q5,q6,t,q]
 unfold Oper.wp;rw[c,Oper.upon_value];refine⟨_,_,h,H,rfl,y,.tup q! λi u d f g=>?_,s.sim,HN.refl _ _ _⟩;rcases i with _|_|i;simp at f g;subst f g;exact .int _ _;grind;grind
end
mutual
def Ty.flat:Ty->Bool
 |.list _=>η
 |.arr _ t=>t.flat
 |.prod ts=>ts.flat
 |_=>ζ
def SM.flat:SM->Bool
 |.one t=>t.flat
 |.cons t ts=>t.flat&&ts.flat
end
def Plain(v:Ad):Prop:=∀(x:Cx)(c:Value),Bw x v c->∀y,Bw y v c
theorem Plain.agg{a:Ψ Ad}(h:∀v∈a,Plain v):Plain (.agg a):=λx c r y=>by
 cases r with
 |agg e f i=>exact .agg e f λj v d b g=>h v (BN b) x d (i j v d b g) y
mutual
theorem Ty.plain_cells:∀(t:Ty),t.flat=ζ->∀x:t.D,∀v∈(t.enc x).cells,Plain v
 |.bool,_,b,v,d=>by simp only[Ty.enc,Ad.cells,A9]at d;subst d;exact λ_ c r y=>by cases r;exact .bool _
 |.int k,_,n,v,d=>by simp only[Ty.enc,Ad.cells,A9]at d;subst d;exact λ_ c r y=>by cases r;exact .int _ _
 |.str,_,s,v,d=>by
  simp only[Ty.enc,Ad.cells,A9]at d;subst d;exact λ_ c r y=>by
   cases r with
   |str t e=>exact .str t e
 |.list t,h,_,_,_=>by cases h
 |.arr n t,h,a,v,d=>by simp only[Ty.enc,Ad.cells,GX]at d;obtain⟨i,_,d⟩:=d;exact t.plain_cells h _ v d
 |.prod ts,h,x,v,d=>ts.plain_cells h x v d
theorem SM.plain_cells:∀(b:SM),b.flat=ζ->∀x:b.D,∀v∈b.cells x,Plain v
 |.one t,h,x,v,a=>t.plain_cells h x v a
 |.cons t b,h,x,v,a=>by simp only[SM.flat,BV]at h;simp only[SM.cells,Am]at a;rcases a with a|a;exact t.plain_cells h.1 _ v a;exact b.plain_cells h.2 _ v a
end
theorem Ty.plain(t:Ty)(h:t.flat=ζ)(x:t.D):Plain (t.enc x):=by have a:=t.plain_cells h x;cases t<;>grind[Plain.agg,Ty.enc,Ad.cells]
section
variable {R:Type}
def ur(P:Program)(H:Ar)(t:TypeId)(k:TV->Ar->Ω R):Ω R:=
 match P.underlying t with
 |some (.map kt et)=>
  match P.underlying kt,ABh P 1000 et with
  |some (.int kk),Z ty=>k (.c (.raw (.mp (θ H)))) (H++[.mp η kk ty []])
  |_,_=>ε
 |_=>ε
def nk(P:Program)(H:Ar)(t:TypeId)(m kx v:TV)(k:TV->Ar->Ω R):Ω R:=
 match P.underlying t with
 |some (.map kt _)=>
  match m,kx with
  |.c (.raw (.mp id)),.c (.it kk n)=>
   match P.underlying kt,H[id]? with
   |some (.int k1),Z (.mp η k2 ty es)=>
    if k1=kk/\k2=kk then
     match ty.flat with
     |true=>match ty.data v with|some x=>k VZ (H.set id (.mp η k2 ty (QJ n x es)))|none=>ε
     |false=>ε
    else ε
   |_,_=>ε
  |_,_=>ε
 |_=>ε
def yB(P:Program)(H:Ar)(t:TypeId)(g:Bool)(m kx:TV)(k:TV->Ar->Ω R):Ω R:=
 match P.underlying t with
 |some (.map kt et)=>
  match m,kx with
  |.c (.raw (.mp id)),.c (.it kk n)=>
   match P.underlying kt,H[id]?,ACa P et with
   |some (.int k1),Z (.mp _ k2 ty es),Z z=>
    if k1=kk/\k2=kk then
     match Ad.beq z (ty.enc ty.zero)with
     |true=>k (bif g then .tup [ty.tv ((LY n es).getD ty.zero),.c (.bl (LY n es).isSome)]else ty.tv ((LY n es).getD ty.zero)) H
     |false=>ε
    else ε
   |_,_,_=>ε
  |_,_=>ε
 |_=>ε
variable {P:Program}{N:Nat}{o:Oper}{env:Bf}{H:Ar}{k:TV->Ar->Ω R}{r:R}
theorem ut(ok:N3 env H)(b:o.op=.makeMap a ε)(h:ur P H a k=Z r):∀F,ml P N o env H F k r:=by intro F;unfold ur at h;split at h;split at h;rename_i t c _ _;have st:CE H (H++[.mp η t c []]):=CE.push H _;refine⟨_,_,Jq.makeMap t b ⟨?_,?_⟩,h,J3 trivial,Py ok.heap trivial,st,Frame.push F H _⟩;show Ad.mp (BK H).length=Ad.mp (θ H);rw[CZ];rw[RX];rfl;cases h;cases h
def qi{u:Operand}(ok:N3 env H)(E:o.op=.mapUpdate a c J u)(h:nk P H a (Jr env c) (Jr env J) (Jr env u) k=Z r):ml P N o env H (List.range (θ H)) k r:=by
 have b:=Lg env;unfold nk at h;split at h;rename_i K I F;split at h;rename_i id t n D C;split at h;rename_i k1 q m d g i;split at h;rename_i f;obtain⟨w,A⟩:=f;subst w A;split at h;rename_i e;split at h;rename_i x G;have st:CE H (H.set id (.mp η q m (QJ n x d))):=CE.set i rfl λ_ _ _ _ _ h=>by cases h
 refine⟨VZ,_,Jq.mapUpdate (id:=id) (k:=q) (n:=n) (v:=m.enc x) (es:=d.map λp=>(p.1,m.enc p.2)) E (by rw[b,D];rfl) (by rw[b,C];rfl) (λy s l z=>?_) F g (by rw[EO,i];rfl) ⟨rfl,?_⟩,h,iY,Rg st ok.heap trivial,st,λj B hn=>(hn (IK.2 B)).elim⟩;rw[b]at l;exact m.plain e x y s (Mi G y s l) z;rw[LJ,<-zn];rfl;cases h;cases h;cases h;cases h;cases h;cases h
theorem vq(ok:N3 env H)(y:o.op=.lookup a c J A)(h:yB P H a A (Jr env c) (Jr env J) k=Z r):∀F,ml P N o env H F k r:=by
 intro F;have i:=Lg env;unfold yB at h;split at h;rename_i G D m;split at h;rename_i id E n x w;split at h;rename_i k1 ro C j t z f u B;split at h;rename_i d;obtain⟨l,q⟩:=d;subst l q;split at h;rename_i s;have e:(LY n (t.map λp=>(p.1,j.enc p.2))).getD z=(j.tv ((LY n t).getD j.zero)).enc:=by rw[uv,beq_eq _ _ s,Ty.tv_enc];cases LY n t<;>rfl
 refine⟨_,H,Jq.lookup (id:=id) (k:=C) (n:=n) (z:=z) (g:=A) (es:=t.map λp=>(p.1,j.enc p.2)) y (by rw[i,x];rfl) (by rw[i,w];rfl) m f B (by rw[EO,u];rfl) ⟨?_,rfl⟩,h,?_,ok.heap,CE.refl H,Frame.refl F H⟩;rw[e,uv];cases A<;>cases LY n t<;>rfl;cases A;exact Ty.tv_ok _ _;refine Rf λv b=>?_;rcases Aw.1 b with rfl|b;exact Ty.tv_ok _ _;simp at b;subst b;exact J3 trivial;cases h;cases h;cases h;cases h;cases h
end
inductive Tgt where
 |fn (F:FuncId)
 |yd (id:Nat)
abbrev SN:=∀{R:Type},Tgt->Ψ TV->Ar->(TV->Ar->Ω R)->Ω R
def iI(ops:Array Oper)(g:Ω (Nat×Bool))(env:Bf):Ω Bool:=
 match g with
 |none=>Z ζ
 |some (j,want)=>
  match (ops[j]?).bind (·.dst)with
  |some d=>match env.get d with|.c (.bl b)=>Z (b==want)|.tup []=>Z η|_=>ε
  |none=>ε
def LZ:Ψ Bu->Ψ Nat
 |[]=>[]
 |.own id _ _ _::r=>id::LZ r
 |_::r=>LZ r
def behind(H:Ar)(v:TV):Ψ Nat:=
 match v with
 |.c (.raw (.ptr id 0 0))=>match H[id]? with|some (.live η cs)=>LZ cs|_=>[]
 |v=>LZ v.refs
def Iq:Ψ Nat->Bf->Ar->Bf×Ar
 |[],env,H=>(env,H)
 |id::r,env,H=>match frz id env H with|some (e,h)=>Iq r e h|none=>Iq r env H
def wV:Ψ Qd->FuncId->Ω Qd
 |[],_=>ε
 |c::r,F=>match ξ c.f F with|true=>Z c|false=>wV r F
def AHL:Ψ Ad->Ψ TV->Bool
 |[.fn (.func C) _ _],vs=>match vs.getLast? with|some (.c (.raw (.fn (.func D) _ _)))=>ξ C D|_=>ζ
 |_,_=>ζ
def AKA:Qd->Ψ TV->Bool
 |.c2 _ _ _ _ post _,.c (.own _ _ _ _)::r=>AHL post r
 |.c2 _ _ _ _ _ _,_=>η
 |_,_=>ζ
def oi:Ψ Qd->FuncId->Ψ TV->Ω Qd
 |[],_,_=>ε
 |c::r,F,vs=>match ξ c.f F&&AKA c vs with|true=>Z c|false=>oi r F vs
def aA(env:Bf)(op:Op):Ω (FuncId×Ψ TV):=
 match op with
 |.call c=>
  match c.callee with
  |.value f=>match Jr env f with|.c (.raw (.fn (.func F) first caps))=>Z (F,first.map tvA++c.args.toList.map (Jr env)++caps.map tvA)|_=>ε
  |_=>ε
 |_=>ε
def vR(env:Bf)(c:Call):Ω (Nat×Ψ TV):=
 match c.callee with
 |.value f=>match Jr env f with|.c (.raw (.yf id))=>Z (id,c.args.toList.map (Jr env))|_=>ε
 |_=>ε
def AKi:FuncId:=1152921504606846976
def AFs:FuncId:=1152921504606846977
def AKj:Qd:=.c0 AFs [] [] λ_=>ε
def AFt:AKj.Ok P:=λ_ _ h=>by cases h
def mh(cs:Ψ Qd)(env:Bf)(H:Ar)(op:Op):Ψ Nat:=
 match op with
 |.call c=>
  match aA env (.call c)with
  |some (F,vs)=>match oi cs F vs with|some ct=>(AK2 ct vs).flatMap (behind H)|none=>[]
  |none=>[]
 |.buildSlice _ _ parts=>parts.toList.flatMap λp=>LZ (Jr env p.2).refs
 |.store _ a v=>match Jr env a with|.aptr .. =>LZ (Jr env v).refs|.bptr .. =>LZ (Jr env v).refs|_=>[]
 |.slice _ x lo _ _=>match wV cs AKi with|some _=>[]|none=>match lo,wV cs AFs with|some _,Z _=>[]|_,_=>LZ (Jr env x).refs
 |_=>[]
def Xi(H H':Ar):Ar:=H++H'.drop (θ H)
def isNil:Ψ R->Bool
 |[]=>ζ
 |_=>η
section
variable {R:Type}
def uF(cs:Ψ Qd)(env:Bf)(H:Ar)(op:Op):Ψ Nat:=
 match op with
 |.store _ a _=>idT (Jr env a)
 |.mapUpdate .. =>List.range (θ H)
 |.call c=>
  match aA env (.call c)with
  |some (F,vs)=>match oi cs F vs with|some ct=>AGj ct vs|none=>(match isNil vs with|true=>[]|false=>List.range (θ H))
  |none=>
   match vR env c with
   |some _=>List.range (θ H)
   |none=>match c with|{callee:=.builtin .append,args:=⟨[s,_]⟩,.. }=>idT (Jr env s)|_=>[]
 |_=>[]
def rR(P:Program)(cs:Ψ Qd)(call:SN)(env:Bf)(H:Ar)(op:Op)(k:TV->Ar->Ω R):Ω R:=
 match op with
 |.alloc t=>AAe P H t k
 |.box _ x=>AGS H (Jr env x) k
 |.store t a v=>storeT P H t (Jr env a) (Jr env v) k
 |.buildSlice t len parts=>Z5 P env H t len parts k
 |.makeSlice t x y=>iM P H t (Jr env x) (Jr env y) k
 |.makeMap t ε=>ur P H t k
 |.mapUpdate t m x y=>nk P H t (Jr env m) (Jr env x) (Jr env y) k
 |.lookup t m x g=>yB P H t g (Jr env m) (Jr env x) k
 |.convert s d x=>
  match kd P d with
  |.bytes=>vO P H s d (Jr env x) k
  |_=>quT P env H (.convert s d x) λv=>k v H
 |.call c=>
  match aA env (.call c)with
  |some (F,vs)=>
   match Enters P F with
   |true=>
    match oi cs F vs with
    |some ct=>ABt ct vs H k
    |none=>match isNil vs with|true=>call (.fn F) [] (H.map D0.lock) λv H'=>k v (Xi H H')|false=>call (.fn F) vs H k
   |false=>ε
  |none=>
   match vR env c with
   |some (id,vs)=>call (.yd id) vs H k
   |none=>
    match c with
    |{callee:=.builtin .append,args:=⟨[s,x]⟩,argTypes:=⟨[t,t']⟩}=>match ξ t t' with|true=>sX P H t (Jr env s) (Jr env x) k|false=>ε
    |c=>quT P env H (.call c) λv=>k v H
 |op=>quT P env H op λv=>k v H
def force(f:Bool)(v:TV)(k:TV->Ω R):Ω R:=
 match f with
 |true=>match v with|.c (.bl b)=>cond b (k (.c (.bl ζ))) (k (.c (.bl η)))|v=>k v
 |false=>k v
def guards(ops:Array Oper):Ψ Nat:=ops.toList.filterMap λo=>o.guard.map (·.1)
def Ja(j:Nat):Ψ Nat->Bool
 |[]=>η
 |i::r=>match ξ i j with|true=>ζ|false=>Ja j r
def vp{α:Type}(l:List α)(i:Int)(z:α):Option (List α):=if 0<=i/\i<=(l.length:Int)then some (l.take i.toNat++List.replicate (l.length-i.toNat) z)else none
def ABy(o1 o2:Oper):Ω (Nat×TypeId×Operand×Operand):=
 match o1.dst,o1.op,o1.guard,o2.dst,o2.op,o2.guard with
 |some d,.slice t x (Z lo) ε ε,ε,ε,.call {callee:=.builtin .clear,args:=⟨[.tmp d']⟩,argTypes:=⟨[t']⟩},ε=>match ξ d d'&&ξ t t' with|true=>Z (d,t,x,lo)|false=>ε
 |_,_,_,_,_,_=>ε
def AIw(P:Program)(H:Ar)(t:TypeId)(x lo:TV)(k:Ar->Ω R):Ω R:=
 match x,lo with
 |.c (.own id ver _ _),.c (.it _ i)=>
  match H[id]? with
  |some (.buf η t2 l n2 ver2)=>
   match ξ ver ver2,elT P t,eI P t with
   |true,Z te,Z (ε,e,_)=>
    if h:(Ty.list t2).beq (Ty.list te)=ζ then
     match vS P e with
     |some z=>match te.all z with|some zd=>(vp (α:=te.D) (Ty.cast h l) i zd).bind λl'=>k (H.set id (.buf η te l' n2 ver2))|none=>ε
     |none=>ε
    else ε
   |_,_,_=>ε
  |_=>ε
 |_,_=>ε
def AGd(o:Oper):Ψ Oper->Ω (Nat×TypeId×Operand×Operand)
 |o2::_=>ABy o o2
 |[]=>ε
def AAC(P:Program)(cs:Ψ Qd)(call:SN)(ops:Array Oper)(gs:Ψ Nat)(sk:Bool):Ψ Oper->Nat->Bf->Ar->(Bf->Ar->Ω R)->Ω R
 |[],_,env,H,k=>k env H
 |o::r,j,env,H,k=>
  match sk with
  |true=>AAC P cs call ops gs η r (j+1) env H k
  |false=>
   match AGd o r with
   |some (d,t,x,lo)=>AIw P H t (Jr env x) (Jr env lo) λH'=>AAC P cs call ops gs ζ r (j+1) (env.put d VZ) H' k
   |none=>
    match iI ops o.guard env with
    |some ζ=>
     match Iq (mh cs env H o.op) env H with
     |(env1,H1)=>rR P cs call env1 H1 o.op λv H'=>force (Ja j gs) v λv'=>AAC P cs call ops gs η r (j+1) (env1.putO o.dst v') H' k
    |some η=>AAC P cs call ops gs η r (j+1) (env.putO o.dst (.tup [])) H k
    |none=>ε
end
def pE(H:Ar)(v:TV):Prop:=∀id ver t n,Bu.own id ver t n∈v.refs->∀t' l n' ver',H[id]? ≠Z (.buf η t' l n' ver')
structure EL(A:List Nat)(env:Bf)(H:Ar)(env':Bf)(H':Ar):Prop where
 step:CE H H'
 same:∀t,t∉A->pE H (env.get t)->env'.get t=env.get t
def pE.step(h:CE F b)(d:e.ok F)(k:pE F e):pE b e:=by intro id a t n c;have hr:=d (.own id a t n) c;exact h.nb id hr.1 (k id a t n c)
theorem EL.refl(A:Ψ Nat)(env:Bf)(H:Ar):EL A env H env H:=⟨CE.refl H,λ_ _ _=>rfl⟩
def EL.trans{A B}{d g i:Bf}{c e f:Ar}(ok:∀p∈d,p.2.ok c)(a:EL A d c g e)(b:EL B g e i f):EL (A++B) d c i f:=by refine⟨a.step.trans b.step,λt l k=>?_⟩;have j:=a.same t (λh=>l (G2 _ h)) k;rw[b.same t (λh=>l (NA _ h)) (by rw[j];exact k.step a.step (ka ok t)),j]
def EL.mono{B:Ψ Nat}(a:EL M g b W F)(h:∀t,t∈M->t∈B):EL B g b W F:=⟨a.step,λt A f=>a.same t (λq=>A (h t q)) f⟩
def sg{t u:Nat}(h:u≠t):∀env:Bf,(Bf.del t env).get u=env.get u
 |[]=>rfl
 |(k,v)::r=>by simp only[Bf.del];by_cases a:k=t;subst a;rw[Hk];simp only[Bf.get,beq_false (O3 h)];exact sg h r;rw[beq_false a];simp only[Bf.get];rw[sg h r]
def pP(h:n≠N):(g.put N e).get n=g.get n:=by simp_all[Bf.put,Bf.get,beq_false,O3,sg]
theorem yC{p:Nat×TV}{t:Nat}:∀{env:Bf},p∈Bf.del t env->p∈env
 |(k,v)::r,h=>by simp only[Bf.del]at h;split at h;exact Ch _ (yC h);rcases Aw.1 h with rfl|h;simp;exact Ch _ (yC h)
theorem bv{d:Ω Nat}(h:∀p∈g,p.2.ok b)(H:e.ok b):∀p∈g.putO d e,p.2.ok b:=by
 cases d with
 |none=>exact h
 |some t=>intro p a;rcases Aw.1 a with rfl|a;exact H;grind[yC]
def oy{l:Ψ t.D}(g:b[N]?=Z (.buf η t l n T))(j:∀a f e d,v=.own a f e d->∀i l2 h c,b[a]? ≠Z (.buf η i l2 h c)):Nq N T t l v=v:=by
 cases v with
 |own a f e d=>simp only[Nq];split<;>simp_all
 |_=>rfl
mutual
theorem uU{H:Ar}{id n k:Nat}{t:Ty}{l:Ψ t.D}(d:H[id]?=Z (.buf η t l n k)):∀{v:TV},pE H v->oz id k t l v=v
 |.c z,h=>by simp only[oz];rw[oy d λa j i f e=>h a j i f (by simp[TV.refs,e])]
 |.g b,h=>by
  simp only[oz,TV.g.injEq];have:∀b:Ψ Bu,(∀a j i f,Bu.own a j i f∈b->∀s l2 q m,H[a]? ≠Z (.buf η s l2 q m))->b.map (Nq id k t l)=b:=by
   intro b;induction b with
   |nil=>intro _;rfl
   |cons z r p=>intro h;rw[CQ,p λa j i f o=>h a j i f (by simp[o]),oy d λa j i f e=>h a j i f (by simp[e])]
  exact this b h
 |.tup vs,h=>by simp only[oz];rw[rV d (vs:=vs) h]
 |.aptr ..,_=>rfl
 |.bptr ..,_=>rfl
 |.vw ..,_=>rfl
 |.vptr ..,_=>rfl
theorem rV{H:Ar}{id n c:Nat}{t:Ty}{l:Ψ t.D}(b:H[id]?=Z (.buf η t l n c)):∀{vs:Ψ TV},pE H (.tup vs)->ga id c t l vs=vs
 |[],_=>rfl
 |v::r,h=>by simp only[ga];rw[uU b (v:=v) λa g f e d=>h a g f e (by simp only[TV.refs,TV.refsL,Am];exact .inl d),rV b (vs:=r) λa g f e d=>h a g f e (by simp only[TV.refs,TV.refsL,Am]at d⊢;exact .inr d)]
end
def AB9{f:TV->TV}(a:f VZ=VZ)(t:Nat):∀env:Bf,Bf.get (env.map λp=>(p.1,f p.2)) t=f (env.get t)
 |[]=>a.symm
 |(k,v)::r=>by simp only[CQ,Bf.get];split;rfl;exact AB9 a t r
def AEk(h:frz N g b=Z (W,F))(t:Nat)(d:pE b (g.get t)):W.get t=g.get t:=by unfold frz at h;split at h;rename_i e l n H a;obtain⟨rfl,rfl⟩:=h;rw[AB9 (f:=oz N H e l) rfl];exact uU a d;cases h
def RZ:∀(a:Ψ Nat){env:Bf}{H:Ar},N3 env H→N3 (Iq a env H).1 (Iq a env H).2∧EL [] env H (Iq a env H).1 (Iq a env H).2∧
  ∀N,Fb N (BK H).length (By env) (BK H) (By (Iq a env H).1) (BK (Iq a env H).2)
 |[],env,H,ok=>⟨ok,EL.refl _ _ _,λN=>Fb.refl N _ _⟩
 |id::r,env,H,ok=>by simp only[Iq];split;rename_i e h b;obtain⟨f,c,j⟩:=AI4 ok b;obtain⟨g,i,k⟩:=RZ r f;refine⟨g,(EL.trans (A:=[]) (B:=[]) ok.env ⟨c,λt _ d=>AEk b t d⟩ i),λN=>(j N).trans ((k N).of_le (by rw[CZ,CZ];exact c.len))⟩;exact RZ r ok
section
variable {P:Program}{N:Nat}{R:Type}
def yr(P:Program)(args:Ψ Ad)(H:Au)(v:Ad)(H':Au):Tgt->Prop
 |.fn F=>Ei P F args H (DT v H')
 |.yd id=>∀(N:Nat)(o:Oper)(c:Call)(f:Operand)(env:Env),o.op=.call c->c.callee=.value f->BP env f=.yf id->c.args.toList.map (BP env)=args->Jq P N o env H (DT v H')
def We(P:Program)(call:SN):Prop:=∀{R:Type} tg vs H (k:TV->Ar->Ω R) r,(∀v∈vs,v.ok H)->(∀e∈H,e.ok H)->call tg vs H k=Z r->
 ∃v H',yr P (vs.map TV.enc) (BK H) v.enc (BK H') tg/\k v H'=Z r/\v.ok H'/\(∀e∈H',e.ok H')/\CE H H'
theorem ke(h:iI j q g=Z ζ){B:Prop}(a:U):YV j q (By g) U B:=by unfold iI at h;grind[YV,W6,Uu,TV.enc,Bu.one]
theorem pC(h:iI j q g=Z η){B:Prop}(b:B):YV j q (By g) U B:=by unfold iI at h;unfold YV;split at h;cases h;rename_i a want;unfold W6;split at h;rename_i d e;simp only[e,Uu];split at h;grind[TV.enc,Bu.one];rename_i c;simp[c];exact b;cases h;cases h
theorem xu(e:∀d b,g.get d=.c (.bl b)->W.get d=.c (.bl b))(h:iI j q g=Z ζ):iI j q W=Z ζ:=by cases q<;>grind[iI]
theorem uN:∀{a:Ψ Qd}{F:FuncId}{c:Qd},wV a F=Z c->c∈a/\c.f=F
 |d::r,F,c,h=>by simp only[wV]at h;split at h;simp_all;obtain⟨b,e⟩:=uN h;grind
theorem uO:∀{a:Ψ Qd}{F:FuncId}{b:Ψ TV}{c:Qd},oi a F b=Z c->c∈a/\c.f=F
 |d::r,F,b,c,h=>by simp only[oi]at h;split at h;simp_all;obtain⟨e,g⟩:=uO h;grind
theorem oW{e}(h:aA g e=Z (Q,m)):Go.Ab.callT (BP (By g)) e=Z (.inl (Q,m.map TV.enc))/\∀H,(∀p∈g,p.2.ok H)->∀v∈m,v.ok H:=by
 unfold aA at h;split at h;rename_i c;split at h;rename_i f d;split at h;rename_i G first a F
 simp at h;obtain⟨rfl,rfl⟩:=h;have j:BP (By g) f=.fn (.func G) first a:=by rw[Lg,F];rfl
 have k:∀l:Ψ Ad,(l.map tvA).map TV.enc=l:=by
  intro l;conv=>rhs;rw[<-fJ l]
  grind[List.map_congr_left,iZ]
 refine⟨?_,λH b v i=>?_⟩;simp_all[Go.Ab.callT,Lg];simp at i;grind[lD,gW];cases h;cases h;cases h
theorem AAO{c}(h:vR g c=Z (N,m)):(∃f,c.callee=.value f/\BP (By g) f=.yf N/\c.args.toList.map (BP (By g))=m.map TV.enc)/\∀H,(∀p∈g,p.2.ok H)->∀v∈m,v.ok H:=by unfold vR at h;split at h;rename_i f a;split at h;rename_i i b;injection h with h;injection h with d e;subst d e;refine⟨⟨f,a,by rw[Lg,b];rfl,?_⟩,λH j v k=>?_⟩;grind[List.map_congr_left,Lg];grind[gW];cases h;cases h
def AJX{k:TV->Ar->Ω R}{r:R}(ok:N3 g b)(h:quT P g b o.op (k · b)=Z r):∀F,ml P N o g b F k r:=by intro F;obtain⟨v,a,H,c⟩:=xC ok h;exact⟨v,b,Dw a ⟨rfl,rfl⟩,H,c,ok.heap,CE.refl b,Frame.refl F b⟩
theorem ve(H:Ar):BK (H.map D0.lock)=BK H:=by grind[BK,List.map_congr_left,pH]
theorem zj(h:∀e∈b,e.ok b):∀e∈b.map D0.lock,e.ok (b.map D0.lock):=by
 have f:∀id a t n,S9 b id a t n->S9 (b.map D0.lock) id a t n:=λid a t n q=>by
  refine⟨by simpa using q.1,λro y l w k c=>?_⟩;rw[CR]at c;cases j:b[id]? with
  |none=>grind
  |some e=>
   rw[j]at c;simp at c;cases e<;>simp only[D0.lock]at c<;>first|(cases c;done)|skip
   injection c with _ m v o p;subst m o p;exact q.2 _ _ _ _ _ j
 have d:∀x:Bu,x.ok b->x.ok (b.map D0.lock):=λx i=>by
  cases x with
  |own id a t n=>exact f _ _ _ _ i
  |_=>trivial
 intro e c;obtain⟨u,r,rfl⟩:=Bn.1 c;have g:=h u r;cases u with
 |dead=>trivial
 |live H s=>exact λx i=>d x (g x i)
 |buf=>exact g
 |lp=>exact g
 |mp=>exact g
theorem AEG(L: ∀e∈b,e.ok b)(st:CE (b.map D0.lock) F)(H: ∀e∈F,e.ok F):
  (∀v:TV,v.ok F->v.ok (Xi b F))/\(∀e∈Xi b F,e.ok (Xi b F))/\CE b (Xi b F)/\ ∀x:Cx,TM x x (BK F) (BK (Xi b F)):=by
 have K:b.length<=F.length:=by simpa using st.len
 have c:(Xi b F).length=F.length:=by grind[Xi,n?,List.length_drop]
 have o: ∀j,j<b.length->(Xi b F)[j]? =b[j]? :=λj p=>CW p;have I: ∀j,b.length<=j->(Xi b F)[j]? =F[j]? :=λj p=>by grind[Xi]
 have keep: ∀(j:Nat) (e:D0),b[j]? =some e->e≠ .dead->F[j]? =some e.lock:=λj e p G=>by apply st.ro j e.lock (by rw[CR,p];rfl);cases e<;>first|rfl|exact(G rfl).elim
 have A: ∀id f t n,S9 F id f t n->S9 (Xi b F) id f t n:=λid f t n q=>by refine⟨by rw[c];exact q.1,λro P l O D d=>?_⟩;rcases Ay id b.length with h|h;rw[o id h]at d;exact q.2 _ _ _ _ _ (keep id _ d q!);rw[I id h]at d;exact q.2 _ _ _ _ _ d
 have k: ∀x:Bu,x.ok F->x.ok (Xi b F):=λx C=>by
  cases x with
  |own id f t n=>exact A _ _ _ _ C
  |_=>trivial
 have B:CE b (Xi b F):=by refine⟨by rw[c];exact K,λid f t n q=>⟨by rw[c];exact DE q.1 K,λro P l O D d=>?_⟩,λid e d _=>?_,λid w h=>by rw[o id w];exact h,λid w _ _ _ _ _ _ _ _ h=>by rw[o id w]at h;exact⟨_,_,h⟩⟩;rw[o id q.1]at d;exact q.2 _ _ _ _ _ d;grind
 refine⟨λv N x C=>k x (N x C),λe d=>?_,B,λx=>⟨by rw[CZ,CZ,c],λj Q p=>?_⟩⟩;rcases Am.1 d with d|d;exact B.ent (L e d);have E:=H e (TO d);cases e with
 |dead=>trivial
 |live a s=>exact λx C=>k x (E x C)
 |buf=>exact E
 |lp=>exact E
 |mp=>exact E
 rw[EO]at p;cases J:(Xi b F)[j]? with
 |none=>grind
 |some y=>
  rw[J]at p;simp at p;subst p;have same:(BK F)[j]? =some y.enc->y.enc= .dead\/(∃g s u,(BK F)[j]? =some (.live g s)/\y.enc= .live g u/\u.length=s.length/\ ∀(i:Nat) (z:Ad),u[i]? =some z-> ∃v,s[i]? =some v/\Conv x x v z)\/((BK F)[j]? =some y.enc/\ ∀g s,y.enc≠ .live g s):=λh=>by
   cases y with
   |dead=>exact .inl rfl
   |live a s=>exact .inr (.inl ⟨_,_,_,h,rfl,rfl,λi z h=>⟨z,h,λ_ r=>r⟩⟩)
   |buf a t l m f=>exact .inr (.inl ⟨_,_,_,h,rfl,rfl,λi z h=>⟨z,h,λ_ r=>r⟩⟩)
   |lp=>exact .inr (.inr ⟨h,λ_ _ h=>by cases h⟩)
   |mp=>exact .inr (.inr ⟨h,λ_ _ h=>by cases h⟩)
  rcases Ay j b.length with h|h;rw[o j h]at J;by_cases M:y= .dead;subst M;exact .inl rfl;grind[EO,pH];grind[EO]
theorem rS{u:Ψ Qd}(y:∀c∈u,c.Ok P){i}(l:We P i){k:TV->Ar->Ω R}{r:R}(ok:N3 g b)(h:rR P u i g b o.op k=Z r):ml P N o g b (uF u g b o.op) k r:=by
 have s:∀t,o.op=t->quT P g b t (k · b)=Z r->∀F,ml P N o g b F k r:=λt e h=>AJX ok k!;generalize a:o.op=t at h;unfold rR at h;split at h;exact xY ok a h;exact AAk ok a h;exact ya ok a h;exact oK ok a h;exact qh ok a h;grind[ut];exact qi ok a h;grind[vq];split at h;exact vP ok a h;grind;rename_i c;split at h;rename_i F q m;obtain⟨K,C⟩:=oW m;split at h;rename_i x;split at h;rename_i L n;obtain⟨M,O⟩:=uO n;obtain⟨v,d,q1,q2,q3,q4,q5,q6⟩:=zC (y L M) (C b ok.env) ok.heap h;rw[O]at q1;exact⟨v,d,kq k! x q1,q2,q3,q4,q5,by simp only[uF,m,n];exact q6⟩;rename_i n;split at h;rename_i W;have A:q=[]:=by cases q<;>first|rfl|cases W
 subst A;obtain⟨v,d,q1,q2,q3,q4,q5⟩:=l (.fn F) [] (b.map D0.lock) _ r (λv Q=>by cases Q) (zj ok.heap) h;obtain⟨E,G,I,J⟩:=AEG ok.heap q5 q4;have B:Ei P F [] (BK b) (DT v.enc (BK d)):=by grind[yr,ve]
 refine⟨v,Xi b d,Jq.after (kq k! x B) λX H w _=>?_,q2,E v q3,G,I,?_⟩;have hr:=(J (cx X H (BK d) w)).onto;exact⟨hr,λc r=>r.later hr.later⟩;simp only[uF,m,n];exact λj p _=>CW p;rename_i W;obtain⟨v,d,q1,q2,q3,q4,q5⟩:=l (.fn F) q b k r (C b ok.env) ok.heap h;have z:=W;exact⟨v,d,kq (by rw[a];exact K) x q1,q2,q3,q4,q5,by simp only[uF,m,n,z];exact λj p hn=>(hn (IK.2 p)).elim⟩;cases h;rename_i m;split at h;rename_i id q D;obtain⟨⟨f,S,T,U⟩,V⟩:=AAO D;obtain⟨v,d,q1,q2,q3,q4,q5⟩:=l (.yd id) q b k r (V b ok.env) ok.heap h;exact⟨v,d,q1 N o c f (By g) a S T U,q2,q3,q4,q5,by simp only[uF,m,D];exact λj p hn=>(hn (IK.2 p)).elim⟩;grind[vW,Nat.eq_of_beq_eq_true,uF];grind
theorem nZ{k:TV->Ω R}{r:R}(h:force A e k=Z r):k e=Z r:=by unfold force at h;grind
def oe(ops:Ψ Oper):Ψ Nat:=ops.filterMap (·.dst)
def tz{b}{d:Nat}(h:ABy o b=Z (d,a,J,c)):o.dst=Z d/\o.op=.slice a J (Z c) ε ε/\o.guard=ε/\b.dst=ε/\b.op=.call {callee:=.builtin .clear,args:= #[.tmp d],argTypes:= #[a]}/\b.guard=ε:=by unfold ABy at h;split at h;rename_i e f g i j k;split at h<;>simp_all;cases h
def wW{a:Ty}{z:Ψ Ad}{b:a.D}(h:Dq z (a.enc b).cells):∀n:Nat,Dq (ς n z).flatten (a.E.cl (ς n b))
 |0=>Dq.refl _
 |n+1=>by exact Dq.append h (wW h n)
theorem AAo{o1 o2:Oper}{d:Nat}{t:TypeId}{x lo:Operand}{env:Bf}{H:Ar}{k:Ar→Option R}{r:R}(ok:N3 env H)(hc:ABy o1 o2=some (d,t,x,lo))(h:AIw P H t (Jr env x) (Jr env lo) k=some r):
  ∃v G,Jq P N o1 (By env) (BK H) (DT v (BK H))/\Jq P N o2 ((By env).put d v) (BK H) (DT (.tup []) (BK G))/\k G=some r/\(∀e∈G,e.ok G)/\CE H G:=by
 obtain⟨_,c2,_,c4,U,_⟩:=tz hc;unfold AIw at h;split at h;rename_i id c t0 n0 kk i hx Z;split at h;rename_i a l b ap y;split at h;rename_i te e ax hb al F;split at h;rename_i S;split at h;rename_i z hz;split at h;rename_i zd ao;obtain⟨w,o,h⟩:=Dn.1 h;have T:=DD hb;subst T;have u:=Ty.beq_eq _ _ S;injection u with u;subst u;have B:(Ty.cast S l:List a.D)=l:=rfl;rw[B]at o;have hr:S9 H id c t0 n0:=by have:=gW ok.env x;rw[hx]at this;exact this (.own id c t0 n0) (by simp[TV.refs])
 obtain⟨_,q⟩:=hr.2 _ _ _ _ _ y;obtain⟨rfl,rfl⟩:=q rfl;have hn:b=l.length:=ok.heap _ (BN y);obtain⟨e',I,M⟩:=kH al;rw[I]at F;injection F with F;injection F with _ F;injection F with X Y;subst X Y;obtain⟨z1,z2⟩:=ZW hz;have p:=F5 ao;have C:(lvs z).length=a.sz:=by rw[<-p.1,a.enc_len]
 unfold vp at o;split at o;rename_i hi;injection o with o;have O:CE H (H.set id (.buf false a w b c)):=CE.set y rfl λ_ _ _ _ _ e=>k!
 have J:D0.ok (H.set id (.buf false a w b c)) (.buf false a w b c):=by show b=w.length;grind
 have m:(BK H)[id]? =some (.live b (a.E.cl l)):=by rw[EO,y];rfl
 have A:id<(BK H).length:=k!
 have ex:BP (By env) x= .sl id b a.sz 0 b:=by rw[Lg,hx];rfl
 have el:BP (By env) lo= .int kk i:=by rw[Lg,Z];rfl
 have W:Tl (BK H) id b=true:=by simp[Tl,m]
 have s: ∀v,BP ((By env).put d v) (.tmp d)=v:=λv=>by simp[BP,Env.put,Env.get]
 have j:=a.E.clen l;have Q:a.E.sz=a.sz:=rfl;rw[Q]at j;have ad:Cg P (By env) (BK H) o1.op=some (if i.toNat=0 then .sl id b a.sz 0 b else if i.toNat=b then .vs a.sz []else .sl id b a.sz (0+i.toNat*a.sz) (b-i.toNat)):=by
  rw[c2];have b1:XL 0 (some (Ad.int kk i))=some i.toNat:=by grind[XL,uw]
  have b2: ∀n,XL n none=some n:=λ_=>rfl;simp only[Cg,ex,el,Bs,nG,iU,b1,b2,I];rw[if_pos ⟨trivial,a.sz_pos,o!,Al _,Al _,W,q!⟩];grind
 have g: ∀V,a.E.cl l=V->(BK H).set id (.live b V)=BK H:=λV ar=>by apply JR;grind
 have f:Dq (XC (a.E.cl l) (i.toNat*a.sz) (List.replicate (b-i.toNat) (lvs z)).flatten) (a.E.cl w):=by
  have e1:a.E.cl w=a.E.cl (l.take i.toNat)++a.E.cl (List.replicate (b-i.toNat) zd):=by grind[SO.cl]
  have e2:(a.E.cl l).take (i.toNat*a.sz)=a.E.cl (l.take i.toNat):=by
   have e3:a.E.cl l=a.E.cl (l.take i.toNat)++a.E.cl (l.drop i.toNat):=by grind[List.take_append_drop,SO.cl]
   have e4:(a.E.cl (l.take i.toNat)).length=i.toNat*a.sz:=by rw[a.E.clen,BQ,Q];grind
   grind
  have e5:(a.E.cl l).drop (i.toNat*a.sz+(List.replicate (b-i.toNat) (lvs z)).flatten.length)=[]:=by apply lO;simp[C];rw[<-EB];grind
  unfold XC;rw[e1,e2,e5,Do];exact(Dq.refl _).append (wW p _)
 have L:Jq P N o2 ((By env).put d (if i.toNat=0 then .sl id b a.sz 0 b else if i.toNat=b then .vs a.sz []else .sl id b a.sz (0+i.toNat*a.sz) (b-i.toNat))) (BK H) (DT (.tup []) (BK (H.set id (.buf false a w b c)))):=by
  have e6:BK (H.set id (.buf false a w b c))=(BK H).set id (.live b (a.E.cl w)):=by rw[LJ];rfl
  rw[e6];by_cases h0:i.toNat=0;rw[if_pos h0];refine Jq.set_less A ?_ f;have:=Jq.clear (N:=N) (K:=DT (.tup []) _) U c4 I M z1 C (s (.sl id b a.sz 0 b)) m (by rw[j,hn];omega) ⟨rfl,rfl⟩;grind;rw[if_neg h0];by_cases h1:i.toNat=b;rw[if_pos h1];have e7:w=l:=t!
  rw[e7,g _ rfl];exact sR U (Qw I).1 (s _) ⟨rfl,rfl⟩;rw[if_neg h1];refine Jq.set_less A ?_ f;have:=Jq.clear (N:=N) (K:=DT (.tup []) _) U c4 I M z1 C (s (.sl id b a.sz (0+i.toNat*a.sz) (b-i.toNat))) m (by rw[j,<-hn,DZ,<-EB];apply NB;omega) ⟨rfl,rfl⟩;grind
 exact⟨_,_,Dw ad ⟨rfl,rfl⟩,L,h,Rg O ok.heap J,O⟩;grind;cases h;cases h;cases h;cases h;cases h;cases h
def AFw:Fb N (BK b).length ((By g).put n u) (BK b) (By (g.put n VZ)) (BK b):=by
 refine Wg rfl λX H w s=>⟨TM.refl _ _,λt f m=>?_⟩
 rw[kJ]at m;rcases Aw.1 m with e|m;injection e with a d;subst a d;exact⟨u,KW,λc _=>.any c⟩;exact⟨f,Ch _ m,λ_ r=>r⟩
theorem iR{J:Ψ Qd}(m:∀c∈J,c.Ok P){p}(l:We P p){D:Array Oper}{gs:Ψ Nat}:∀(os:Ψ Oper)(j:Nat)(env:Bf)(H:Ar)(k:Bf→Ar→Ω R)(r:R),N3 env H→AAC P J p D gs η os j env H k=δ r→
  ∃f i,XJ P N D os (By env) (BK H) (λe h=>e=By f/\h=BK i)/\k f i=δ r/\N3 f i/\EL (oe os) env H f i
 |[],j,env,H,k,r,ok,h=>⟨env,H,⟨_,_,Fb.refl _ _ _,rfl,rfl⟩,h,ok,EL.refl _ _ _⟩
 |o::os,j,env,H,k,r,ok,h=>by
  simp only[AAC]at h;have B:∀{e:Bf}{h:Ar}{v:TV},EL (oe [o]) e h (e.putO o.dst v) h:=by
   intro e h v;refine⟨CE.refl h,λt U _=>?_⟩;cases hd:o.dst with
   |none=>rfl
   |some d=>refine pP λe=>U ?_;simp[oe,hd,e]
  have z:∀t,t∈oe [o]++oe os->t∈oe (o::os):=by grind[oe]
  split at h;rename_i d t x lo y;cases os with
  |nil=>cases y
  |cons o2 E=>
   have hc:=y;obtain⟨c1,c2,c3,c4,c5,c6⟩:=tz hc;obtain⟨v,C,M,w2,T,W,st⟩:=AAo (N:=N) ok hc h;have g:N3 (env.put d VZ) C:=⟨bv (d:=δ d) (st.env ok.env) iY,W⟩
   obtain⟨f,i,L,Y,F,G⟩:=iR m l E (j+1+1) _ C k r g T;refine⟨f,i,⟨By env,BK H,Fb.refl N _ _,?_⟩,Y,F,?_⟩;rw[c3];apply Jq.mono M;rintro u _ ⟨rfl,rfl⟩;rw[c1];refine⟨(By env).put d u,BK H,Fb.refl N _ _,?_⟩;rw[c6];apply Jq.mono w2;rintro _ _ ⟨rfl,rfl⟩;rw[c4];exact XJ.weak AFw L;have Z:EL (oe [o]) env H (env.put d VZ) C:=by exact⟨st,λu hu _=>pP λe=>hu (by simp[oe,c1,e])⟩
   refine(EL.trans ok.env Z G).mono λu hu=>?_;grind[oe,List.mem_cons_of_mem]
  split at h;rename_i S;obtain⟨K,t1,M⟩:=RZ (mh J env H o.op) ok;generalize Iq (mh J env H o.op) env H=q at h K t1 M;obtain⟨env1,C⟩:=q;obtain⟨v,I,e1,e2,e3,e4,e5,_⟩:=rS (N:=N) m l K h;have O:=nZ e2;have g:N3 (env1.putO o.dst v) I:=⟨bv (e5.env K.env) e3,e4⟩
  obtain⟨f,i,L,E,F,G⟩:=iR m l os (j+1) _ I k r g O;refine⟨f,i,?_,E,F,?_⟩;refine⟨By env1,BK C,M N,ke ?_ ?_⟩;exact xu (λd b hb=>by rw[t1.same d (λh=>by cases h) (by rw[hb];intro id al t n hm;simp[TV.refs]at hm),hb]) S;exact λrr X h0 a w s Q=>Wc (e1 rr X h0 a w s Q) (by rintro a' w' ⟨c,u,h',ad,ha,⟨rfl,rfl⟩,V,hs,hx⟩;exact⟨c,_,h',_,ha,by show XJ P N D os ((By env1).putO o.dst v.enc) (BK I) _;rw[<-YP];exact L,V,hs,hx⟩);have Z:EL (oe [o]) env1 C (env1.putO o.dst v) I:=by exact⟨e5,λt U T=>(B (h:=C)).same t U T⟩
  have:=(EL.trans (A:=[]) ok.env t1 (EL.trans K.env Z G))
  exact this.mono z;rename_i S;have g:N3 (env.putO o.dst (.tup [])) H:=⟨bv ok.env (Rf λv V=>by cases V),ok.heap⟩
  obtain⟨f,i,L,E,F,G⟩:=iR m l os (j+1) _ H k r g h;refine⟨f,i,⟨By env,BK H,Fb.refl N _ _,pC S ?_⟩,E,F,(EL.trans ok.env B G).mono z⟩;have:(By env).putO o.dst (.tup [])=By (env.putO o.dst (.tup [])):=by rw[YP];rfl
  grind;cases h
end
end Go.Ab
