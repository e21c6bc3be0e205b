/- Parts of the proof; nothing is assumed. -/
import Derived.Test.YtdbincbpjobdpaaGreatK2
import Derived.KernelRfl
import Derived.ProofKit
import Derived.Shelf.SlSortCmp.InsertionK
noncomputable section
set_option linter.all false
open Option renaming some->Z
open List renaming length->W
open Go renaming Ψ->S
open Bool renaming false->X
open Bool renaming true->E
open Option renaming none->D
open Go renaming Ω->V
open Option renaming some->δ,none->ε,bind->σ
open Bool renaming true->ζ,false->η
open List renaming length->θ,replicate->ς
open Go.IntKind renaming wrap->ι
open Sum renaming elim->ν
open Nat renaming beq->ξ
open Decidable renaming decide->τ
namespace Go.Ab
def AKC(P:Program)(fn:Func)(te:Ty)(rs:S Ty):Exit->Bj->As->V (DL (rs++[.list te])):=λe env H=>
 match zm e with
 |true=>
  match oR P env H fn.results.toList with
  |some vs0=>
   match IM ((rW vs0).filter λi=>! ξ i 0) env H with
   |(ef,hf)=>
    match oR P ef hf fn.results.toList,(hf[0]? :V Dx)with
    |some vs,Z (.buf _ t l _ _)=>if h:(Ty.list t).beq (Ty.list te)=E then(match inp rs vs with|some y=>Z (ux (.list te) rs y (Ty.cast h l))|none=>D)else D
    |_,_=>D
  |none=>D
 |false=>D
def fnC:Ad->Bool
 |.fn (.func _) [] []=>E
 |_=>X
def zF(te:Ty)(ds:S Ty)(post:S Ad)(l:S te.D)(x:DL ds):S TV:=.c (.own 0 0 te (W l))::(yn ds x++post.map λv=>.c (.raw v))
noncomputable def AEa(P:Program)(cs:S Qi)(hs:FuncId->S Hint)(n:Nat)(F:FuncId)(te:Ty)(ds rs:S Ty)(post:S Ad)(l:S te.D)(x:DL ds):V (DL (rs++[.list te])):=
 match P.funcs[F]? with
 |some fn=>
  match fn.body with
  |some c=>
   match Nat.ble (zF te ds post l x).length fn.ntmps&&post.all fnC with
   |true=>tG P cs (sA P cs hs n) fn.ntmps F (hs F) c (eE 0 (zF te ds post l x)) [.buf X te l (W l) 0] (AKC P fn te rs)
   |false=>D
  |none=>D
 |none=>D
theorem AJA{v}(h:fnC v=E):∃F,v=.fn (.func F) [] []:=by unfold fnC at h;grind
def AEz{v}(h:fnC v=E):Pure v:=by obtain⟨F,rfl⟩:=AJA h;rfl
variable {P:Program}{cs:S Qi}{hs:FuncId->S Hint}{n:Nat}{F:FuncId}{ds rs:S Ty}{te:Ty}{post:S Ad}
def AC5(l:S te.D)(x:DL ds):(zF te ds post l x).map TV.enc=.sl 0 (W l) te.sz 0 (W l)::(nu ds x++post):=by
 have e:(post.map λv=>TV.c (.raw v)).map TV.enc=post:=by
  rw[PM];conv=>rhs;rw[<-fi post]
  exact NT λv _=>rfl
 simp only[zF,B4,Ke,ag,e];rfl
theorem Rt{g:Ψ te.D->DL ds->Ω (DL (rs++[.list te]))}(t:∀c∈cs,c.Ok P)(hg:∀l x,g l x=AEa P cs hs n F te ds rs post l x):(Qi.c2 F te ds rs post g).Ok P:=by
 intro l x y k d H id C;rw[hg]at k;have key:∃r m,y=ux (.list te) rs r m/\(∀v∈post,Pure v)/\Ek P F (.sl 0 (θ l) te.sz 0 (θ l)::(nu ds x++post)) [.live (θ l) (te.E.cl l)] (DO (rP (nu rs r)) [.live (θ m) (te.E.cl m)]):=by
  unfold AEa at k;split at k;rename_i fn hf;split at k;rename_i c hb;split at k;rename_i hn;simp only[Ba]at hn;have b:∀v∈post,Pure v:=λv a=>AEz (GL.1 hn.2 v a);have w:([Dx.buf X te l (θ l) 0]:As)[0]?=Z (.buf X te l (θ l) 0):=rfl;have K:OO (eE 0 (zF te ds post l x)) [.buf X te l (θ l) 0]:=by refine⟨lE λv a=>?_,λe B=>?_⟩;rcases Av.1 a with rfl|a;exact Jw (Wx w);rcases Ak.1 a with a|a;grind[oU];obtain⟨u,_,rfl⟩:=Bs.1 a;exact Jw trivial;rw[A5.1 B];exact rfl
  obtain⟨e,s,W,a1,k1,L,U⟩:=re (N:=fn.ntmps) t (kq t n) F (hs F) c _ _ _ y K k;unfold AKC at k1;split at k1;rename_i B;split at k1;rename_i O ad;generalize T:((rW O).filter _)=ids at k1;obtain⟨o,M,Q⟩:=QO ids L;generalize IM ids s W=fz at k1 o M Q;obtain⟨ef,hh⟩:=fz;simp only at k1 o M Q;split at k1;rename_i vs X_ q l1 J V a R;split at k1;rename_i z;split at k1;rename_i r hr;injection k1 with k1;have i:=Ty.beq_eq _ _ z;injection i with i;subst i;have p:(Ty.cast z l1:Ψ q.D)=l1:=rfl;rw[p]at k1;have I:J=θ l1:=o.heap _ (BO R);refine⟨r,l1,k1.symm,b,?_⟩;have Y:BL [.buf X q l (θ l) 0]=[.live (θ l) (q.E.cl l)]:=rfl;have Z_:BL [.buf X q l1 J V]=[.live (θ l1) (q.E.cl l1)]:=by rw[<-I];rfl
  rw[<-Y,<-Z_,<-AC5];apply Kl hf hb (by rw[BT];exact PO hn.1);rw[<-eF];refine J9.after (a1.awp.mono ?_);rintro _ _ _ ⟨rfl,rfl,rfl⟩;have G:1<=θ hh:=Cl U.step.len M.step.len;refine⟨_,_,(Q _).of_le (by rw[Cb,Cb];exact U.step.len),AI8 B o a ?_⟩;rw[Cb];refine vU (H2:=[.buf X q l1 J V]) G (λj e' _ h=>?_) rfl (Xl (Zb hr)) (Yg (P3 rs r));match j,h with
  |0,h=>simp only[cy,Ar]at h;subst h;exact⟨_,R,.inr (.inr (.inl ⟨_,_,_,_,_,_,_,rfl,rfl⟩))⟩
  |j+1,h=>simp at h
  cases k1;cases k1;cases k1;cases k1;cases k1;cases k;cases k;cases k
 obtain⟨r,m,rfl,b,key⟩:=key;rw[jK]at d⊢;simp only at d⊢;rw[<-d];rw[<-d]at C key;have f:∀v∈nu ds x++post,Pure v:=λv a=>(Ak.1 a).elim (P3 ds x v) (b v);have ha:Ad.renL ([id].getD · 0) (.sl 0 (θ m) te.sz 0 (θ m)::(nu ds x++post))=.sl id (θ m) te.sz 0 (θ m)::(nu ds x++post):=by simp only[Ad.renL,rS f];rfl
 exact Ek.frame (H:=H) [id] key (G4.2 ⟨q!,RE⟩) rfl rfl (λj X_ e A S=>by
   match j,A,S with
   |0,A,S=>grind[List.getElem?_cons_zero,Option.some.injEq]
   |j+1,A,_=>simp at A) (λe h=>by
   rw[A5.1 h];exact(Dv _ _).2 (xm te l)) (λe h=>by
   rw[A5.1 h];exact(Dv _ _).2 (xm te m)) (Yg (P3 rs r)) ha ((Dv _ _).2 λv a=>by
   rcases Av.1 a with rfl|a;rfl;exact(f v a).all _)
def uR{f:(S te.D×DL ds→V (DL (rs++[.list te])))→S te.D×DL ds→V (DL (rs++[.list te]))}(a:∀c∈cs,c.Ok P)
  (d:∀g l x,f g (l,x)=AEa P (.c2 F te ds rs post (λl x=>g (l,x))::cs) hs n F te ds rs post l x):(Qi.c2 F te ds rs post λl x=>tB f (l,x)).Ok P:=by
 have key:∀m,(Qi.c2 F te ds rs post λl x=>pI f m (l,x)).Ok P:=by
  intro m;induction m with
  |zero=>intro l x y b;cases b
  |succ m h=>exact Rt (cs:=.c2 F te ds rs post (λl x=>pI f m (l,x))::cs) (A9 h a) λl x=>d (pI f m) l x
 intro l x y b;obtain⟨m,e⟩:=eG b;exact key m l x y e
end Go.Ab
namespace Go.Ab
def clW(fn:Func):Nat->String:=λi=>
 match fn.body with
 |some (.seq (.region _ a _) (.seq (.seq (.region _ b _) (.cond _ (.seq (.region _ c _) _) _)) (.seq (.region _ d _) _)))=>(((a++b++c++d)[i]?).map (·.pos)).getD default
 |_=>default
def ADB(t b:TypeId)(w:Nat->String):Code:=
 .seq (.region 0 #[⟨Z 2,.assign (.const (.slice D 0 0)),t,w 0, #[],D⟩] X)
  (.seq (.seq (.region 1 #[⟨Z 3,.move (.tmp 0),t,w 1, #[],D⟩,⟨Z 4,.binOp .eql t (.tmp 3) (.const (.slice D 0 0)) t,b,w 2, #[⟨0,.data⟩],D⟩] X)
    (.cond (.tmp 4) (.seq (.region 2 #[⟨Z 2,.assign (.const (.slice D 0 0)),t,w 3, #[],D⟩] X) .ret) .skip))
   (.seq (.region 3 #[⟨Z 5,.buildSlice t 0 #[],t,w 4, #[],D⟩,⟨Z 6,.move (.tmp 0),t,w 5, #[],D⟩,
     ⟨Z 7,.call {callee:=.builtin .append,args:= #[.tmp 5,.tmp 6],argTypes:= #[t,t]},t,w 6, #[⟨0,.data⟩,⟨1,.data⟩],D⟩,
     ⟨Z 2,.assign (.tmp 7),t,w 7, #[⟨2,.data⟩,⟨2,.chain⟩,⟨0,.phase⟩,⟨1,.phase⟩,⟨2,.phase⟩],D⟩] X) .ret))
def PE.none{n0:Nat}{H:Aw}{id g sz off:Nat}(hn:n0<=W H)(b:id<W H)(k:0<sz):PE n0 (.sl id g sz off 0) H (.vs sz []) (H.set id .dead):=by
 refine⟨by simpa using hn,λX_ h w c s r=>?_⟩;obtain⟨p,t⟩:=s.kill b;refine⟨h,p,?_,λ_ _=>⟨rfl,rfl,rfl⟩,λB o=>?_⟩;cases r with
 |sl l m n q=>obtain⟨a,cap,rfl⟩:=n;exact Bv.vs (rows:=[]) (λ_ _=>undef) (BV _) k (λj e h=>by simp at h) (λh=>(h rfl).elim) (λj e i v h=>by simp at h)
 obtain⟨i,e,l,d,m⟩:=o;rcases Jv b l with⟨_,f⟩|⟨rfl,rfl⟩;exact⟨i,e,f,d,m⟩;exact(d rfl).elim
variable {a e:Type}{F:FuncId}{n:Nat}{P:Program}{b:Int}{c:World}{d:Bool}{f:IntKind}{g:Value}
theorem AEe{P:Program}{F:FuncId}{t b:TypeId}{a:Ty}(o:(P.funcs[F]?).map (λx=>(x.body,x.ntmps,x.results))=some (some (ADB t b (((P.funcs[F]?).map clW).getD (λ_=>default))),8, #[.tmp 2]))(I:elT P t=some a)(j:jG 0 a #[] []=true):(Qi.cl F a).Ok P:=by
 generalize ((P.funcs[F]?).map clW).getD (λ_=>default)=w at o;obtain⟨x,T,B⟩:=Tu.1 o;injection B with O B;injection B with hn hr;intro l H U;obtain⟨e,A,u⟩:=kz I;have J:=(QB A).1;have z: ∀env,Tb P env t 0 #[]=some (a.sz,[]):=by intro env;unfold Tb;simp only[A];refine if_pos ⟨a.sz_pos,u,rfl,rfl,BV _,?_⟩;unfold jG at j;simp only[Ba]at j;exact PO j.2
 have main: ∀Q:Ad→Aw→Prop,(l=[]→Q (.vs a.sz []) (BL (H++[.dead])))→(∀r,l≠ []→app [] l=some r→Q (.sl H.length r.length a.sz 0 r.length) (BL (H++[.buf false a r r.length 0])))→
   (l=[]\/ ∃r,app [] l=some r)->Ek P F [.vs a.sz (l.map a.enc)] (BL H) Q:=by
  intro Q L M f;refine Kl T O (by rw[hn];simp) ?_;rw[hn];refine J9.seq (Fz rfl (Xh.cons rfl (Du (v:=.nils) rfl (Xh.nil (J9.seq (J9.seq (Fz rfl (Xh.cons rfl (Du (v:=.vs a.sz (l.map a.enc)) rfl (Xh.cons rfl (ue (sz:=a.sz) (rows:=l.map a.enc) rfl J rfl λK S=>Xh.nil ?_)))))))))));have k:K=true->l=[]:=λh=>by by_cases i:l=[]<;>simp_all
  have d:(BL H++[Fw.live 0 []]).set (BL H).length Fw.dead=BL (H++[.dead]):=by simp_all[Tq,Al,G5,BL,Dx.enc]
  refine J9.cond (b:=K) rfl (λy=>?_) (λR=>?_)
  ·refine J9.seq (Fz rfl (Xh.cons rfl (Du (v:=.nils) rfl (Xh.nil (J9.weak (Fa.virt (t:=2) (sz:=a.sz) rfl) (J9.ret (⟨.sl (BL H).length 0 a.sz 0 0,.vs a.sz [],(BL H++[Fw.live 0 []]).set (BL H).length Fw.dead,by simp[jW,hr,Tk,oS,Env.putO,Env.put,Env.get],PE.none (by simp) (by simp) a.sz_pos,?_⟩)))))));rw[d];exact L (k y)
  ·refine J9.skip (J9.seq (Fz rfl (Xh.cons rfl (UX (sz:=a.sz) (vs:=[]) rfl (z _) (Xh.cons rfl (Du (v:=.vs a.sz (l.map a.enc)) rfl (Xh.cons rfl ?_)))))));have G:ID (BL H++[Fw.live 0 []]) a.sz (.vs a.sz (l.map a.enc))=some (l.length,a.E.cl l):=by simp only[ID,if_true,BT];rfl
   have p:0+l.length<=16777216:=by
    rcases f with rfl|⟨r,hr⟩
    ·simp
    ·obtain⟨M,_⟩:=kK hr;simpa using M
   refine Sl (sx:=.tmp 5) (xx:=.tmp 6) (H:=BL H++[Fw.live 0 []]) (id:=(BL H).length) (g:=0) (g':=l.length) (n:=0) (cs:=[]) (m:=l.length) (news:=a.E.cl l) rfl A a.sz_pos u rfl (by simp) (by simp) G p (by
    rcases Ts l.length with q|q
    ·exact .inr ⟨q,q⟩
    ·exact .inl q) ?_
   refine Xh.cons rfl (Du (v:=.sl (BL H).length l.length a.sz 0 (0+l.length)) rfl (Xh.nil (J9.ret ?_)));have N:(BL H++[Fw.live 0 []]).set (BL H).length (.live l.length ([]++a.E.cl l))=BL (H++[.buf false a l l.length 0]):=by simp_all[Tq,Al,G5,BL,Dx.enc]
   by_cases i:l=[]
   ·subst i;refine⟨.sl (BL H).length 0 a.sz 0 0,.vs a.sz [],(BL H++[Fw.live 0 []]).set (BL H).length Fw.dead,by simp[jW,hr,Tk,oS,Env.putO,Env.put,Env.get],?_,?_⟩
    ·have:=PE.none (n0:=(BL H).length) (H:=BL H++[Fw.live 0 []]) (id:=(BL H).length) (g:=0) (off:=0) (by simp) (by simp) a.sz_pos;have e:(BL H++[Fw.live 0 []]).set (BL H).length (.live ([]:List a.D).length ([]++a.E.cl []))=BL H++[Fw.live 0 []]:=by rw[Tq _ _ (Al _),G5];rfl
     rw[e];exact this
    ·rw[d];exact L rfl
   ·rcases f with h|⟨r,c⟩
    ·exact(i h).elim
    ·obtain⟨_,C⟩:=kK c;have s:l=r:=by simpa using C.symm
     subst s;refine⟨.sl (BL H).length l.length a.sz 0 l.length,_,_,by simp[jW,hr,Tk,oS,Env.putO,Env.put,Env.get],PE.refl _ _ (by simp),?_⟩;grind[Cb]
 refine⟨λi=>?_,λr i hr=>?_⟩
 ·subst i;exact main _ (λ_=>⟨rfl,rfl⟩) (λr h=>(h rfl).elim) (.inl rfl)
 ·exact main _ (λh=>(i h).elim) (λV _ c=>by rw[hr]at c;injection c with c;subst c;exact⟨rfl,rfl⟩) (.inr ⟨r,hr⟩)
abbrev i64:Ty:=.int .i64
abbrev hn(k i:Nat)(s:S PF)(e:S (Exit×S PF)):Hint:=⟨k,i,[],[],[],[],s,e⟩
def k0{P:Program}{e:S Qi}{a d:S Ty}{g:DL a→V (DL d)}(l:S (Nat×S Hint))(b:∀c∈e,c.Ok P)
  (f:g=λx=>ACA P e (iz l) 13 F a d x:=by kernel_rfl):(Qi.c0 F a d g).Ok P:=ACL b λx=>congrFun f x
def k1{P:Program}{h:S Qi}{a:Ty}{d f:S Ty}{g:a.D→DL d→V (DL (f++[a]))}(l:S (Nat×S Hint))(e:∀c∈h,c.Ok P)
  (i:g=λb x=>AEZ P h (iz l) 13 F n a d f b x:=by kernel_rfl):(Qi.c1 F n a d f g).Ok P:=AGy e λb x=>congrFun (congrFun i b) x
noncomputable def ACm{α:Type}(key:α->Int)(l:S α):V (S α):=if(l.map key).Nodup/\W l<=16777216 then Z (l.mergeSort λa b=>decide (key a<=key b))else D
def ABr{key:a->Int}{l m:S a}(hn:(l.map key).Nodup)(p:m.Perm l)(t:m.Pairwise λq b=>key q<=key b):m=l.mergeSort λq b=>decide (key q<=key b):=by
 have d:(l.mergeSort λq b=>decide (key q<=key b)).Perm l:=List.mergeSort_perm _ _;have o:(l.mergeSort λq b=>decide (key q<=key b)).Pairwise λq b=>key q<=key b:=by refine(List.pairwise_mergeSort (le:=λq b=>decide (key q<=key b)) ?_ ?_ l).imp λh=>N! h;intro q b c d o;simp only[K!]at*;omega;intro q b;simp only[UH,K!];omega
 refine qK (le:=λq b=>key q<=key b) ?_ t o (p.trans d.symm);intro q b r s q1 q2;have e:key q=key b:=o!
 have f:=p.subset r;have g:=d.subset s;obtain⟨i,k⟩:=DW f;obtain⟨j,n⟩:=DW g;have:=(qS (l:=l.map key) (i:=i) (j:=j) (by rw[BT];exact(EX.1 k).1) hn).1 (by simp[k,n,e]);subst this;rw[k]at n;exact BY n
noncomputable def AAV{α:Type}(key:α->Int)(l:S α):V (S α):=open Classical in if(∀a∈l,∀b∈l,key a=key b->a=b)/\W l<=16777216 then Z (l.mergeSort λa b=>decide (key a<=key b))else D
def AFz{key:a->Int}{l:S a}(hn:(l.map key).Nodup):∀f∈l,∀b∈l,key f=key b->f=b:=by intro f g b h e;obtain⟨i,c⟩:=DW g;obtain⟨j,d⟩:=DW h;have:=(qS (l:=l.map key) (i:=i) (j:=j) (by rw[BT];exact(EX.1 c).1) hn).1 (by simp[c,d,e]);subst this;rw[c]at d;exact BY d
def ABs{key:a->Int}{l m:S a}(hn:∀g∈l,∀b∈l,key g=key b->g=b)(f:m.Perm l)(k:m.Pairwise λg b=>key g<=key b):m=l.mergeSort λg b=>decide (key g<=key b):=by
 have d:(l.mergeSort λg b=>decide (key g<=key b)).Perm l:=List.mergeSort_perm _ _;have e:(l.mergeSort λg b=>decide (key g<=key b)).Pairwise λg b=>key g<=key b:=by refine(List.pairwise_mergeSort (le:=λg b=>decide (key g<=key b)) ?_ ?_ l).imp λh=>N! h;intro g b c d e;simp only[K!]at*;omega;intro g b;simp only[UH,K!];omega
 refine qK (le:=λg b=>key g<=key b) ?_ k e (f.trans d.symm);intro g b i j q1 q2;exact hn g (f.subset i) b (d.subset j) o!
theorem w64(h: -9223372036854775808<=b/\b<=9223372036854775807):ι .i64 b=b:=by grind[IntKind.wrap_i64]
def ADW{body:a->V (Step a e)}(I:a->Prop)(Q:e->Prop)(b:a->Nat)(i:∀s,I s->(∃r,body s=Z (.done r)/\Q r)\/∃S,body s=Z (.next S)/\I S/\b S<b s){s:a}(h:I s):∃r,Ai body s=Z r/\Q r:=by
 have key:∀(n:Nat)(s:a),b s<n->I s->∃r,Ai body s=Z r/\Q r:=by
  intro n;induction n with
  |zero=>intro s j;omega
  |succ n k=>intro s j g;rcases i s g with⟨r,c,d⟩|⟨S,c,d,l⟩;exact⟨r,by rw[HX,c],d⟩;obtain⟨r,R,f⟩:=k S o! d;exact⟨r,by rw[HX,c];exact R,f⟩
 exact key (b s+1) s o! h
theorem AHI{l:S a}{x:a}(h:l[n]?=Z x):ix l (n:Int)=Z x:=by unfold ix;grind[s?]
def AKJ{l:S a}(i:0<=b)(c:b<W l):∃x,ix l b=Z x/\l[b.toNat]?=Z x:=by
 obtain⟨n,rfl⟩:=EG i;have hn:n<W l:=o!
 exact⟨l[n],AHI (Au hn),by simp[hn]⟩
def AIs{l b:S a}(h:W l+W b<=16777216):app l b=Z (l++b):=C! h
theorem AGf(b:GK n a){i:Nat}(h:i<n):G2 b (i:Int)=Z (b ⟨i,h⟩):=by grind[G2]
def An(o:V a)(Q:a->Prop):Prop:=∃r,o=Z r/\Q r
section
variable {α β γ:Type}
theorem AB{r:α}{Q:α->Prop}(h:Q r):An (.some r) Q:=⟨r,rfl,h⟩
def An.mono{o}{P Q:α->Prop}(h:An o P)(c:∀r,P r->Q r):An o Q:=by obtain⟨r,a,b⟩:=h;exact⟨r,a,c r b⟩
theorem AA{o}{k:α->V β}{P:α->Prop}{Q:β->Prop}(h:An o P)(b:∀r,P r->An (k r) Q):An (σ o k) Q:=by obtain⟨r,rfl,a⟩:=h;exact b r a
theorem D7{o}{k:α->V β}{P:α->Prop}{Q:β->Prop}(h:An o P)(b:∀r,o=.some r->P r->An (k r) Q):An (σ o k) Q:=by obtain⟨r,rfl,a⟩:=h;exact b r rfl a
def AM{o}{k:α->V β}{P:α->Prop}{Q:β->Prop}(a:∀r,P r->An (k r) Q)(h:An o P):An (σ o k) Q:=AA h a
def AK{a b}{Q:α->Prop}(c:d=E->An a Q)(e:d=X->An b Q):An (bif d then a else b) Q:=by
 cases d with
 |true=>exact c rfl
 |false=>exact e rfl
def AC{p:Prop}{_:Decidable p}{a b}{Q:α->Prop}(c:p->An a Q)(d:¬p->An b Q):An (bif decide p then a else b) Q:=AK (λh=>c (N! h)) (λh=>d (of_decide_eq_false h))
theorem AP{a b}{Q:α->Prop}(c:d=X->An a Q)(e:d=E->An b Q):An (bif !d then a else b) Q:=by
 cases d with
 |true=>exact e rfl
 |false=>exact c rfl
theorem AO{_:BEq e} [LawfulBEq e] {x y:e}{a b}{Q:α->Prop}(c:x=y->An a Q)(d:x≠y->An b Q):An (bif x==y then a else b) Q:=AK (λh=>c (eq_of_beq h)) (λh=>d (ne_of_beq_false h))
theorem AL{_:BEq e} [LawfulBEq e] {x y:e}{a b}{Q:α->Prop}(c:x≠y->An a Q)(d:x=y->An b Q):An (bif x !=y then a else b) Q:=by refine AK (λh=>c λβ=>?_) (λh=>d ?_);subst β;simp at h;simpa using h
def Bo{a b:V α}{k:α->V β}{Q:β->Prop}(h:An (bif d then σ a k else σ b k) Q):An (σ (bif d then a else b) k) Q:=by cases d<;>exact h
theorem BJ{a:α}{k:α->V β}{Q:β->Prop}(h:An (k a) Q):An (σ (.some a) k) Q:=h
def B6{o:V α}{f:α->V β}{k:β->V γ}{Q:γ->Prop}(h:An (σ o λv=>σ (f v) k) Q):An (σ (σ o f) k) Q:=by cases o<;>exact h
def Nc{f:α->V γ}{g:β->V γ}{o:α⊕β}{k:γ->V a}{Q:a->Prop}(h:An (ν (λu=>σ (f u) k) (λu=>σ (g u) k) o) Q):An (σ (ν f g o) k) Q:=by cases o<;>exact h
theorem BF{u:α}{f:α->V γ}{g:β->V γ}{Q:γ->Prop}(h:An (f u) Q):An (ν f g (.inl u)) Q:=h
theorem Ay{u:β}{f:α->V γ}{g:β->V γ}{Q:γ->Prop}(h:An (g u) Q):An (ν f g (.inr u)) Q:=h
theorem BH{f:α->V γ}{g:β->V γ}{o:α⊕β}{Q:γ->Prop}(a:∀u,o=.inl u->An (f u) Q)(b:∀u,o=.inr u->An (g u) Q):An (ν f g o) Q:=by
 cases o with
 |inl u=>exact a u rfl
 |inr u=>exact b u rfl
def An.get{o}{Q:α->Prop}{r:α}(h:An o Q)(e:o=.some r):Q r:=by obtain⟨s,a,b⟩:=h;rw[e]at a;injection a with a;rw[a];exact b
def An.and{o}{P Q:α->Prop}(h:An o P)(g:An o Q):An o λr=>P r/\Q r:=by obtain⟨r,a,b⟩:=h;exact⟨r,a,b,g.get a⟩
theorem AI{l:List α}{i:Int}(b:0<=i:=by omega)(c:i<l.length:=by omega):An (ix l i) λx=>l[i.toNat]? = .some x/\x∈l:=by obtain⟨x,d,a⟩:=AKJ b c;exact⟨x,d,a,BO a⟩
theorem AZ{l a:S α}(h:W l+W a<=16777216):An (app l a) λr=>r=l++a/\W r=W l+W a/\W r<=16777216:=⟨_,AIs h,rfl,q!,w!⟩
theorem CN{a b:Bd}(h:W a+W b<=9223372036854775807):An (sapp a b) λr=>r=a++b/\W r=W a+W b:=by refine⟨a++b,?_,rfl,q!⟩;unfold Go.Ab.sapp;rw[C! h]
theorem CW{s:Bd}{lo hi:Int}(a:0<=lo:=by omega)(b:lo<=hi:=by omega)(c:hi<=s.length:=by omega):An (R4 s lo hi) λr=>r=(s.drop lo.toNat).take (hi.toNat-lo.toNat)/\(r.length:Int)=hi-lo:=by refine⟨_,if_pos ⟨a,b,c⟩,rfl,?_⟩;rw[BP,C5];omega
theorem BU{s:List α}{lo hi:Int}(a:0<=lo:=by omega)(b:lo<=hi:=by omega)(c:hi<=s.length:=by omega):An (Sr s lo hi) λr=>r=(s.drop lo.toNat).take (hi.toNat-lo.toNat)/\(r.length:Int)=hi-lo:=by refine⟨_,if_pos ⟨a,b,c⟩,rfl,?_⟩;rw[BP,C5];omega
def Ru{s:Bd}{i:Int}(a:0<=i)(c:i<W s):An (six s i) λb=>0<=b/\b<256:=by
 obtain⟨n,rfl⟩:=EG a;have hn:n<W s:=o!
 refine⟨(s[n].toNat:Int),?_,o!,?_⟩;unfold Go.Ab.six;simp[hn];have:=s[n].toNat_lt;omega
def De{a:GK n α}(i:0<=b)(c:b<n):An (G2 a b) λx=>x=a ⟨b.toNat,o!⟩:=by obtain⟨k,rfl⟩:=EG i;exact⟨_,AGf a o!,rfl⟩
theorem za{z:α}(a:0<=b)(n:b<=16777216):An (mk z b b) λr=>r=ς b.toNat z/\(θ r:Int)=b:=by refine⟨ς b.toNat z,?_,rfl,w!⟩;unfold Go.Ab.mk;rw[C! ⟨a,Ae _,n⟩]
def AW{body:a→V (Step a e)}(I:a→Prop)(b:a→Nat){Q:e→Prop}{s:a}(c:I s)
  (f:∀s,I s->An (body s) λst=>match st with|.next S=>I S/\b S<b s|.done r=>Q r):An (Ai body s) Q:=by
 obtain⟨r,d,R⟩:=ADW (body:=body) I Q b (λs g=>by
  obtain⟨st,q1,q2⟩:=f s g;cases st with
  |next S=>exact .inr ⟨S,q1,q2.1,q2.2⟩
  |done r=>exact .inl ⟨r,q1,q2⟩) c
 exact⟨r,d,R⟩
theorem Xe(n:Int):ι .u64 n=n%18446744073709551616:=by simp[ι,IntKind.bits,IntKind.signed]
theorem xT(n:Int):ι .u32 n=n%4294967296:=by simp[ι,IntKind.bits,IntKind.signed]
def AH6(n:Int):ι .u8 n=n%256:=by simp[ι,IntKind.bits,IntKind.signed]
def bd{Q:α->Prop}(h:False):An .none Q:=h.elim
theorem AY{x:Int}(h: -9223372036854775808<=x/\x<=9223372036854775807:=by omega):wi x=x:=w64 h
theorem l!{P:Prop}(h:P:=by (try dsimp[len]at*);(try first|omega|assumption|grind[AY])):P:=h
theorem i!{P:Prop}(h:P:=by simp only[len];omega):P:=h
theorem x!{P:Prop}(h:P:=by (repeat' with_reducible first|intro a|apply AC|apply AP|(apply BF;try dsimp only)|apply AL|apply AO|(apply BJ;try dsimp only)|apply AK|(apply Ay;try dsimp only)|(apply BH<;>(intro u a;try subst a))|(refine AM ?_ (Oq ?_);intro r hr)|apply Bo|(apply AA (Bb);intro r hr)|(apply AA (Md);intro r hr)|(refine AM ?_ (bg ?_);intro r hr)|(refine AM ?_ (Xv ?_);intro r hr)|(apply AA (TM);intro r hr)|(refine AM ?_ (Z4 ?_);intro r hr)|(refine AM ?_ (Z1 ?_);intro r hr)|(refine AM ?_ (Xr ?_);intro r hr)|(apply AA (iY);intro r hr)|apply Nc|(apply AA (Ea);intro r hr)|apply AB|apply B6|(refine AM ?_ (Nn ?_);intro r hr)|apply bd|(refine AM ?_ (GQ ?_ ?_);intro r hr)|(refine AM ?_ (fG ?_);intro r hr)|(refine AM ?_ (ZG ?_);intro r hr)|(refine AM ?_ (IV ?_);intro r hr)|(refine AM ?_ (RS ?_);intro r hr)|(rw[w _ _ rfl rfl];apply BJ;dsimp only)|(refine AM ?_ (IZ ?_);intro r hr)|(apply AA (D0);intro r hr)|(apply AA (Oi);intro r hr)|(apply AA (pS);intro r hr)|(refine AM ?_ (Dk ?_);intro r hr)|(refine AM ?_ (N9 ?_ ?_);intro r hr)|(refine AM ?_ (FV ?_);intro r hr)|(apply AA (GW);intro r hr)|(refine AM ?_ (KT ?_);intro r hr)|(refine AM ?_ (ZP ?_);intro r hr)|(apply AA (Fo);intro r hr)|(refine AM ?_ (bh ?_);intro r hr)|(refine AM ?_ (Cp ?_);intro r hr)|(refine AM ?_ (XQ ?_);intro r hr)|(refine AM ?_ (Vb ?_);intro r hr)|(refine AM ?_ (TU ?_);intro r hr)|(refine AM ?_ (SH ?_);intro r hr)|(apply AA (Mn);intro r hr)|(apply AA (VZ);intro r hr)|(refine AM ?_ (Pj ?_);intro r hr)|(refine AM ?_ (YS ?_);intro r hr)|(refine AM ?_ (ZC ?_);intro r hr)|(apply AA (fC);intro r hr)|(refine AM ?_ (Z3 ?_);intro r hr)|(apply AA (eW);intro r hr)|(refine AM ?_ (jv ?_);intro r hr)|(apply AA (HJ);intro r hr)|(apply AA (pT);intro r hr)|(refine AM ?_ (ZM ?_);intro r hr)|(apply AA (GO);intro r hr)|(apply AA (Oc);intro r hr)|(refine AM ?_ (RT ?_);intro r hr)|(refine AM ?_ (ZN ?_);intro r hr)|(refine AM ?_ (ZL ?_);intro r hr)|(refine AM ?_ (ZQ ?_);intro r hr)|(refine AM ?_ (XS ?_ ?_);intro r hr)|(refine AM ?_ (YO ?_);intro r hr)|(refine AM ?_ (Z2 ?_);intro r hr)|(apply AA (qu);intro r hr)|(apply AA (Cc);intro r hr)|(refine AM ?_ (QH ?_);intro r hr)|(apply AA (jz);intro r hr)|(refine AM ?_ (YM ?_);intro r hr)|(refine AM ?_ (Z7 ?_);intro r hr)|(apply AA (pU);intro r hr)|(refine AM ?_ (ZB ?_);intro r hr)|(refine AM ?_ (Z5 ?_);intro r hr)|(refine AM ?_ (ZH ?_);intro r hr)|(refine AM ?_ (Vv ?_);intro r hr)|(refine AM ?_ (Z9 ?_);intro r hr)|(refine AM ?_ (bf ?_);intro r hr)|(apply AA (TK);intro r hr)|(refine AM ?_ (ZJ ?_);intro r hr)|(refine AM ?_ (ZD ?_);intro r hr)|(refine AM ?_ (bj ?_);intro r hr)|(apply AA (Eo);intro r hr)|(refine AM ?_ (RR ?_);intro r hr)|(apply AA (CT);intro r hr)|(refine AM ?_ (AI ?_ ?_);rintro r ⟨hr,b⟩)|(refine AM ?_ (Oe ?_ ?_);intro r hr)|(apply AA (Ky);intro r hr)|(refine AM ?_ (ZI ?_);intro r hr)|(refine AM ?_ (ZS ?_);intro r hr)|(refine AM ?_ (Gq ?_);intro r hr)|(refine AM ?_ (Ru ?_ ?_);rintro r ⟨hr,b⟩)|(refine AM ?_ (YQ ?_);intro r hr)|(refine AM ?_ (eU ?_);intro r hr)|(refine AM ?_ (AZ ?_);rintro r ⟨hr,b,c⟩)|(refine AM ?_ (CW ?_ ?_ ?_);rintro r ⟨hr,b⟩)|(refine AM ?_ (YP ?_);intro r hr)|(refine AM ?_ (YN ?_);intro r hr)|(refine AM ?_ (Xu ?_);intro r hr)|(apply AA (um);intro r hr)|(refine AM ?_ (CN ?_);rintro r ⟨hr,b⟩)|(apply AA (Uc);intro r hr)|(apply AA (bo);intro r hr)|(refine AM ?_ (De ?_ ?_);intro r hr)|(refine AM ?_ (ZF ?_);intro r hr)|(refine AM ?_ (RV ?_);intro r hr)|(refine AM ?_ (Xt ?_);intro r hr)|(refine AM ?_ (ZE ?_);intro r hr)|(refine AM ?_ (BU ?_ ?_ ?_);rintro r ⟨hr,b⟩)|(refine AM ?_ (ZT ?_);intro r hr)|(apply AA (eP);intro r hr));all_goals(first|((try dsimp[len]at*);first|omega|assumption|grind[AY])|grind|((try dsimp[len]at*);first|grind[CI,DI,Dh,Dh.last,GS,Ku,P2,SB,VK,Zm,aj,len,na,oV,qC,AY]|grind[AY,Dh]|grind[SB,VK,GS,P2]|grind[P2,Ku,qC,oV]|grind[Dh.last]|grind[CI]|grind[na]|grind[AY,aj]|grind[AY,Zm]|grind[DI]|((try simp (disch:=omega) only[AY,len]at*)<;>(try intros)<;>(try and_intros)<;>(try intros)<;>(first|omega|assumption|grind))))):P:=h
def AGE(x:Int):wi x=(x+9223372036854775808)%18446744073709551616-9223372036854775808:=by unfold wi;rw[IntKind.wrap_i64]
end
def MU(I:a->Prop)(μ:a->Nat)(m:Nat)(Q:e->Prop):Step a e->Prop
 |.next s'=>I s'/\μ s'<m
 |.done r=>Q r
def CQ{R:Type}{body:e->V (Step e R)}(I:e->Prop)(a:e->Nat){Q:R->Prop}{s:e}(b:I s)(c:∀s,I s->An (body s) (MU I a (a s) Q)):An (Ai body s) Q:=AW I a b λs d=>(c s d).mono λst h=>by cases st<;>exact h
theorem An.next{R:Type}{I:e->Prop}{a:e->Nat}{m:Nat}{Q:R->Prop}{s:e}(h:I s)(b:a s<m):An (Option.some (Step.next s)) (MU I a m Q):=⟨_,rfl,h,b⟩
theorem An.done{R:Type}{I:e->Prop}{a:e->Nat}{Q:R->Prop}{r:R}(h:Q r):An (Option.some (Step.done r)) (MU I a n Q):=⟨_,rfl,h⟩
theorem k?{S R:Type}{I:S->Prop}{a:S->Nat}{m:Nat}{Q:R->Prop}{r:R}(h:Q r):An (some (Step.done r)) (MU I a m Q):=⟨_,rfl,h⟩
theorem y!{S R:Type}{I:S->Prop}{a:S->Nat}{m:Nat}{Q:R->Prop}{s:S}(h:I s)(b:a s<m):An (some (Step.next s)) (MU I a m Q):=⟨_,rfl,h,b⟩
theorem y?{α:Type}{p:Prop}{r:α}{Q:α->Prop}(h:Q r):p->An (some r) Q:=fun _=>⟨r,rfl,h⟩
theorem h!{P:Prop}(h:P:=by kernel_rfl):P:=h
theorem b!{P:Prop}(h:P:=by simp[len];omega):P:=h
open Go.ChangeShapes Go.WideShapes Go.ChangeAt Go.RowKit
def gh0:Gh:=⟨λ_=>D,λ_=>0,λ_=>0⟩
def cx0(w:World):Cx:=cx (λ_=>False) gh0 [] w
def ALM(w:World):JT (λ_=>False) gh0 [] w where
 out B h:=h.elim
 live id g cs h:=by simp at h
 lp id L h:=by simp at h
 inj id id' e e' B h:=by simp at h
 bld id e h:=by simp at h
theorem ABT:¬(cx0 c).O n:=by rintro(h|⟨id,e,h,_⟩);exact h;grind
def aU{args:S Ad}{Q:Ad→Aw→Prop}(h:Ek P F args [] Q){w:World}{cargs:Array Value}(hn:cargs.size=W args)
  (d:∀(j:Nat)(v:Ad)(c:Value),args[j]?=Z v->cargs[j]?=Z c->Bv (cx0 w) v c):
  Calls P F cargs w λe b=>∃c v x a,e=.returned c/\Q v a/\Bv x v c/\Below w.heap.size w b:=by
 refine(h (λ_=>False) gh0 w cargs (ALM w) hn d).mono ?_;rintro e b ⟨c,v,i,a,rfl,q,_,r,x⟩;refine⟨c,v,_,a,rfl,q,r,x.os,x.tape,x.output,x.size,λk g=>x.keep k g ?_⟩;rintro⟨id,e,f,_⟩;simp at f
def ADx{a:Addr}{cap:Nat}{b:S Int}(A:n≤cap)(D_:W b=cap)(t:∀i,i<W b→c.cell? (a.add i)=Z (.int f (b.getD i 0)))(q:a.block<c.heap.size∨n=0):
  Bv (cx0 c) (.vs 1 ((b.take n).map λF=>.int f F)) (.slice (Z a) n cap):=by
 have d:((b.take n).map λF=>Ad.int f F).length=n:=w!
 have g:∀(j:Nat)(e:Ad),((b.take n).map λF=>Ad.int f F)[j]?=Z e->j<n/\e=.int f (b.getD j 0):=by
  intro j e h;rw[CU]at h;cases w:(b.take n)[j]? with
  |none=>rw[w]at h;cases h
  |some F=>
   rw[w]at h;simp only[Bt,Ar]at h;subst h;have p:j<(b.take n).length:=by rcases A0 j (b.take n).length with h|h;exact h;rw[Ct h]at w;cases w
   simp only[BP]at p;rw[KD o!]at w;exact⟨o!,by rw[Rp,w];rfl⟩
 have key:=Bv.vs (x:=cx0 c) (sz:=1) (rows:=(b.take n).map λF=>.int f F) (a:=Z a) (cap:=cap) (λj _=>.int f (b.getD j 0)) (by rw[d];exact A) o!
  (λj e h=>by rw[(g j e h).2];rfl)
  (λr=>by
   have C:0<n:=by rcases Ts n with h|h;subst h;simp at r;exact h
   have m:a.spot=D:=by have:=t 0 o!;unfold World.cell? at this;split at this;split at this;cases this;rename_i u;simp only[Addr.add,if_true]at u;simpa using u;cases this
   obtain⟨B,s,E_⟩:=a;simp only at m;subst m;refine⟨B,s,rfl,ABT,?_,λj e i v w l=>?_⟩;rcases q with h|h;exact h;omega;obtain⟨y,o⟩:=g j e w;subst o;have k:i=0:=by
    simp only[Ad.cells]at l;cases i with
    |zero=>rfl
    |succ i=>simp at l
   subst k;refine⟨?_,rfl⟩;have:=t j o!;simp only[Nat.mul_one,NV];show c.cell? _=_;rw[<-this];unfold Addr.add;split;rename_i z;subst z;rfl;rfl)
  (λj e i v w l=>by
   obtain⟨y,o⟩:=g j e w;subst o;have k:v=.int f (b.getD j 0):=by
    simp only[Ad.cells]at l;cases i with
    |zero=>simpa using l.symm
    |succ i=>simp at l
   subst k;exact .int _ _)
 rw[d]at key;exact key
def AGB:Bv (cx0 c) (.vs 1 []) (.slice D 0 0):=Bv.vs (x:=cx0 c) (sz:=1) (rows:=[]) (a:=D) (cap:=0) (λ_ _=>.nilFunc) q! o! (λj e h=>by simp at h) (O! rfl ·) (λj e i v h=>by simp at h)
open Go.RowKit
def rk{args:S Ad}{v}(h:∀w(a:Array Value),a.size=W args→(∀(j:Nat)(u:Ad)(c:Value),args[j]?=Z u→a[j]?=Z c→ ∃x,Bv x u c)→
  Calls P F a w λe i=>∃c,e=.returned c/\(∀x,Bv x v c)/\Below w.heap.size w i) (H:Aw):Ek P F args H (DO v H):=by
 intro X_ g w a s p hr;refine(h w a p λj u c m n=>⟨_,hr j u c m n⟩).mono ?_;rintro e i ⟨c,rfl,q,b⟩;have l:G1 g H w g H i:=⟨b.os,b.tape,b.output,b.size,λB d _=>b.block B d,Al _,λ_ _=>Al _,λ_ _ _=>⟨rfl,rfl⟩,λB o=>.inl o,λB r hr=>⟨r,(b.block B (by rcases A0 B w.heap.size with h|h;exact h;simp[uE h]at hr)).trans hr⟩⟩
 exact⟨c,v,g,H,rfl,⟨rfl,rfl⟩,s.of_ext l (λid e k f=>.inl ⟨k,rfl,rfl,rfl,λB d=>b.block B (s.io_at k f d)⟩) s.inj,q _,l⟩
def AAb{x}{s:S UInt8}(h:Bv x (.str s) g):g=.string ⟨s.toArray⟩:=by cases h;rename_i t h;subst h;rfl
def mB{x}(h:Bv x (.int f b) g):g=.int f b:=by cases h;rfl
open Go.Proofs Go.Sort
def nO{a:Ty}{l:S a.D}(h:n<W l*a.sz):∃e,l[n/a.sz]?=Z e/\(a.E.cl l)[n]?=(a.enc e).cells[n%a.sz]? :=by
 have g:=a.sz_pos;induction l generalizing n with
 |nil=>simp at h
 |cons x r j=>
  have i:(a.enc x).cells.length=a.sz:=a.enc_len x;have e:a.E.cl (x::r)=(a.enc x).cells++a.E.cl r:=rfl;rw[e];by_cases b:n<a.sz;exact⟨x,by rw[Nat.div_eq_of_lt b];rfl,by rw[Tt b,CY o!]⟩;have c:n-a.sz<W r*a.sz:=by rw[Bh,D5,Nat.one_mul]at h;omega
  obtain⟨y,d,f⟩:=j c;refine⟨y,?_,?_⟩;rw[Nat.div_eq_sub_div g o!,mN];exact d;rw[Cn o!,i,f,Nat.mod_eq_sub_mod (show n>=a.sz by omega)]
def mR{te:Ty}(l:S te.D):(te.E.cl l).length=W l*te.sz:=by
 induction l with
 |nil=>simp[Sg.cl]
 |cons x r a=>have e:te.E.cl (x::r)=(te.enc x).cells++te.E.cl r:=rfl;rw[e,Aa,a,te.enc_len,Bh,D5,Nat.one_mul,Ys]
def xW(x0:Cx)(te:Ty):Type:={p:te.D×S Value//W p.2=te.sz/\(∀v∈p.2,v.oneCell'=E)/\∀(j:Nat)(v:Ad)(c:Value),(te.enc p.1).cells[j]?=Z v->p.2[j]?=Z c->Bv x0 v c}
def ALP(key:a->Int):SWO (ltOf (λ(x y:a)=>Lib.compareInt (key x) (key y))):=by
 have e:∀x y,ltOf (λ(x y:a)=>Lib.compareInt (key x) (key y)) x y=τ (key x<key y):=λx y=>by unfold ltOf Lib.compareInt;by_cases c:key x<key y;simp[c];by_cases b:key y<key x<;>simp[c,b]
 exact⟨λx=>by rw[e];simp,λx y z c b=>by rw[e]at*;simp at*;omega,λx y z c b=>by rw[e]at*;simp at*;omega⟩
def _root_.List.set_getElem?_self'{l:S a}{x:a}(h:l[n]?=Z x):l.set n x=l:=by obtain⟨b,rfl⟩:=EX.1 h;exact List.set_getElem_self b
def AAW{g:FuncId}{o:Ty}(key:o.D→Int)(a9:∀e,(o.enc e).cells[0]?=Z (.int .i64 (key e))){sD:Ψ o.D→Ω (Ψ o.D)}
  (ca:∀{l y},sD l=Z y->(∀a∈l,∀b∈l,key a=key b->a=b)/\θ l<=16777216/\y=l.mergeSort λa b=>decide (key a<=key b))
  (R:∀a b(r s:Ψ Value)(W:World),θ r+1=o.sz->θ s+1=o.sz->Calls P g #[.agg (Value.int .i64 a::r).toArray,.agg (Value.int .i64 b::s).toArray] W λe w'=>e=.returned (.int .i64 (Lib.compareInt a b))/\∃q cc,w'=grow (W.drewN q) cc)
  (hS:∀{α:Type} [Inhabited α] (Q:α->Ψ Value) (_:∀x,(Q x).length=o.sz) (_:∀x,∀v∈Q x,v.oneCell'=E) (cf:α->α->Int) (_:SWO (ltOf cf)) (N cap:Nat) (d:Array α) (w:World),CmpLays P g #[] Q o.sz cf N 0 d.size w->HoldsK Q o.sz w N 0 d->N<w.heap.size->d.size<4611686018427387904->Calls P F #[.slice (Z ⟨N,0,D⟩) d.size cap,.func (.func g) #[] #[]] w λe w'=>e=.returned (.tuple #[])/\∃z n os,PermIn 0 d.size d z/\SortedIn (ltOf cf) 0 d.size z/\w'=sortWorldK Q o.sz w N 0 n z os)
  (hN:∀p cap(fv:Value)(w:World),Calls P F #[.slice p 0 cap,fv] w λe w'=>e=.returned (.tuple #[])/\w'=w):
  (Qi.c2 F o [] [] [.fn (.func g) [] []] λl _=>sD l).Ok P:=by
 intro l x y hy Y H id ap X_ h w O s hs hr;obtain⟨hn,ce,bt⟩:=ca hy;obtain⟨c0,c1,rfl⟩:∃c0 c1,O= #[c0,c1]:=by
  obtain⟨a⟩:=O;match a,hs with
  |[a,b],_=>exact⟨a,b,rfl⟩
 have r0:=hr 0 _ c0 rfl rfl;have r1:=hr 1 _ c1 rfl rfl;obtain⟨hg,a6⟩:=s.live id _ _ ap;have bN:c1=.func (.func g) #[] #[]:=by
  cases r1 with
  |fn A I _ _=>rw[tu A,tu I]
 subst bN;by_cases hl:l=[];subst hl;have cb:y=[]:=by rw[bt];simp
 obtain⟨a,cap,rfl⟩:∃a cap,c0=.slice a 0 cap:=by
  cases r0 with
  |sl _ _ A _=>exact A
 apply (hN a cap _ w).mono;rintro e w' ⟨rfl,rfl⟩;refine⟨_,.tup [],h,H,rfl,⟨rfl,?_⟩,s,.tup rfl (λj v c C=>by simp at C),G1.refl h H w'⟩;rw[show(Lq (.list o) [] y).2=[]from cb];exact(List.set_getElem?_self' ap).symm;have hk:=o.sz_pos;have bb:0<θ l:=List.length_pos_iff.2 hl;rcases a6 with⟨_,b1⟩|⟨B,G,T,fz,f,V,hb,a4,b4,a7,J⟩;have:=mR (te:=o) l;rw[b1,Bi]at this;exact O! this.symm (Nat.ne_of_gt (Nat.mul_pos bb hk));obtain⟨cap,rfl⟩:∃cap,c0=.slice (Z ⟨B,0,D⟩) (θ l) cap:=by
  cases r0 with
  |sl _ _ _ hc=>rcases hc hg with⟨A,_⟩|⟨B',cap,A,_,_,h4⟩;rw[V]at A;cases A;rw[V]at A;injection A with A;subst A;exact⟨cap,h4⟩
 have ad:∀i (t:i<θ l) c,c<o.sz->∃v,(o.enc l[i]).cells[c]?=Z v/\(o.E.cl l)[i*o.sz+c]?=Z v:=λi t c hc=>by
  have K:i*o.sz+c<θ l*o.sz:=by have:=NW o.sz (show i+1<=θ l from t);rw[D5,Nat.one_mul]at this;omega
  obtain⟨e,A,I⟩:=nO K;have d1:(i*o.sz+c)/o.sz=i:=(blk_iff o.sz i _ hk).1 o!;have d2:(i*o.sz+c)%o.sz=c:=by rw[Nat.mod_eq_sub_div_mul,d1];omega
  rw[d1,Au t]at A;rw[d2]at I;have Y:=o.enc_len e;rw[<-BY A]at I Y;exact⟨_,Au o!,by rw[I];exact Au o!⟩
 let mk:∀i,i<θ l->xW (cx X_ h H w) o:=λi t=>⟨(l[i],(List.range o.sz).map λc=>f (i*o.sz+c)),q!,λv hv=>by
  obtain⟨c,hc,rfl⟩:=Bs.1 hv;obtain⟨u,_,I⟩:=ad i t c (IH.1 hc);exact(J _ _ I).2.1,λj v c C hc=>by
  rw[CU]at hc;obtain⟨j',S,rfl⟩:=Tu.1 hc;have ar:=(EX.1 S).1;rw[List.length_range]at ar;rw[Rq ar]at S;injection S with S;subst S;obtain⟨u,A,I⟩:=ad i t j ar;dsimp only at C;rw[A]at C;injection C with C;subst C;exact(J _ _ I).2.2⟩
 let dl:Ψ (xW (cx X_ h H w) o):=List.ofFn λi:Fin (θ l)=>mk i.val i.isLt;have bG:θ dl=θ l:=List.length_ofFn;have a2:∀i (t:i<θ l),dl[i]?=Z (mk i t):=λi t=>by rw[List.getElem?_ofFn,dif_pos t]
 have:Inhabited (xW (cx X_ h H w) o):=⟨mk 0 bb⟩
 let d:=dl.toArray;have L:d.size=θ l:=bG;have dg:∀i (t:i<θ l),d[i]! =mk i t:=λi t=>by
  have A:=a2 i t;have I:d[i]?=Z (mk i t):=by rw[ff];exact A
  rw[getElem!_def,I]
 have hd:d.toList.map (·.1.1)=l:=by refine JX λi=>?_;rw[CU];show Option.map _ dl[i]?=_;by_cases t:i<θ l;rw[a2 i t,Bt,Au t];rw[Ct o!,Ct o!,nq]
 have ao:HoldsK (λp:xW (cx X_ h H w) o=>p.1.2) o.sz w B 0 d:=by
  intro j C;rw[size_flatK,L]at C;rw[get_flatK _ _ _ _ (by rw[L];exact C)];have t:j/o.sz<θ l:=Nat.div_lt_of_lt_mul (by rw[Nat.mul_comm];exact C);have hm:=Yt j hk;have a8:j/o.sz*o.sz+j%o.sz=j:=Nat.div_add_mod' j o.sz;obtain⟨u,_,I⟩:=ad _ t _ hm;rw[a8]at I;have ha:=(J _ _ I).1;have K:j<G.size:=(cz.1 ha).1;rw[dg _ t];have hx:(((List.range o.sz).map λc=>f (j/o.sz*o.sz+c))[j%o.sz]!)=f j:=by rw[getElem!_def,CU,Rq hm,Bt,a8]
  refine⟨?_,?_⟩;show w.cell? ⟨B,0+j,D⟩=Z ((((List.range o.sz).map λc=>f (j/o.sz*o.sz+c))[j%o.sz]!));rw[hx];unfold World.cell?;rw[show w.heap[B]?=Z (.cells G T fz)from hb];simpa using ha;unfold World.frozen?;rw[show w.heap[B]?=Z (.cells G T fz)from hb];simpa using a7 j K
 have hB:B<w.heap.size:=(cz.1 hb).1;have a5:CmpLays P g #[] (λp:xW (cx X_ h H w) o=>p.1.2) o.sz (λx y=>Lib.compareInt (key x.1.1) (key y.1.1)) B 0 d.size w:=by
  intro m os dk hs x y;have hx:∀p:xW (cx X_ h H w) o,∃r:Ψ Value,p.1.2=Value.int .i64 (key p.1.1)::r/\θ r+1=o.sz:=λp=>by
   obtain⟨⟨e,vs⟩,A,I,h3⟩:=p;dsimp only at A I h3;cases vs with
   |nil=>rw[Bi]at A;omega
   |cons v r=>have:=h3 0 _ v (a9 e) rfl;cases this;exact⟨r,rfl,A⟩
  obtain⟨r,b7,b8⟩:=hx x;obtain⟨s',b9,b'⟩:=hx y;have:=R (key x.1.1) (key y.1.1) r s' (sortWorldK (λp:xW (cx X_ h H w) o=>p.1.2) o.sz w B 0 m dk os) b8 b';rw[<-b7,<-b9]at this;exact this
 have Z_:=hS (λp:xW (cx X_ h H w) o=>p.1.2) (·.2.1) (·.2.2.1) (λx y=>Lib.compareInt (key x.1.1) (key y.1.1)) (ALP λp:xW (cx X_ h H w) o=>key p.1.1) B cap d w a5 ao hB (by rw[L];omega);rw[L]at Z_;apply Z_.mono;rintro e w' ⟨rfl,z,n,os,U,a1,rfl⟩;have M:=U.1;rw[L]at M;have b6:z.toList.Perm d.toList:=by have:=U.2.2;rwa [<-L,<-(show z.size=d.size by omega),oh,M,<-L,oh]at this
 have bz:z.toList.map (·.1.1)=y:=by rw[bt];apply ABs hn (by rw[<-hd];exact b6.map _);rw[EL];intro i j t C b2;rw[BT,Dy]at t C;have:=a1 i j (BV _) b2 o!;rw[getElem!_pos z j C,getElem!_pos z i t]at this;simp only[List.getElem_map,Array.getElem_toList];unfold ltOf Lib.compareInt at this;simp only[decide_eq_false_iff_not]at this;by_cases c1:key (z[j]).1.1<key (z[i]).1.1;simp[c1]at this;omega
 have R:(o.E.cl y).length=θ l*o.sz:=by rw[mR,<-bz,BT,Dy,M]
 have b0:∀(j:Nat)(v:Ad),(o.E.cl y)[j]?=Z v->∃c:Value,(flatK (λp:xW (cx X_ h H w) o=>p.1.2) o.sz z)[j]! =c/\c.oneCell'=E/\Bv (cx X_ h H w) v c:=by
  intro j v C;have K:=(EX.1 C).1;rw[R]at K;have t:j/o.sz<z.size:=by rw[M];exact Nat.div_lt_of_lt_mul (by rw[Nat.mul_comm];exact K)
  have hm:=Yt j hk;rw[get_flatK _ _ _ _ (by rw[M];exact K),getElem!_pos z _ t];generalize hq:z[j/o.sz]=q;obtain⟨⟨e,vs⟩,A,I,h3⟩:=q;dsimp only at A I h3;have b3:j<θ y*o.sz:=by rw[<-mR];exact(EX.1 C).1
  obtain⟨e',g1,g2⟩:=nO b3;rw[<-bz,CU,QJ,OR t,hq]at g1;have g1:e=e':=BY g1;subst g1;rw[C]at g2;have ax:j%o.sz<θ vs:=o!
  refine⟨vs[j%o.sz],getElem!_pos vs _ ax,I _ (F8 ax),h3 _ v _ g2.symm (Au ax)⟩
 have a':θ l*o.sz<=G.size:=by rw[<-mR];exact b4
 have cd:(flatK (λp:xW (cx X_ h H w) o=>p.1.2) o.sz z).size=θ l*o.sz:=by rw[size_flatK,M]
 have al:(sortWorldK (λp:xW (cx X_ h H w) o=>p.1.2) o.sz w B 0 n z os).heap=w.heap.modify B (onCells (putCells (λv=>v) 0 (flatK (λp:xW (cx X_ h H w) o=>p.1.2) o.sz z)))++os:=rfl;have a3:(sortWorldK (λp:xW (cx X_ h H w) o=>p.1.2) o.sz w B 0 n z os).heap[B]?=Z (.cells (putCells (λv=>v) 0 (flatK (λp:xW (cx X_ h H w) o=>p.1.2) o.sz z) G) T fz):=by rw[al,Yv (by rw[Array.size_modify];exact hB),cq,C! rfl,show w.heap[B]?=Z (.cells G T fz)from hb];rfl
 have bl:∀k,k<w.heap.size->k≠B->(sortWorldK (λp:xW (cx X_ h H w) o=>p.1.2) o.sz w B 0 n z os).heap[k]?=w.heap[k]? :=λk hk b5=>by rw[al,Yv (by rw[Array.size_modify];exact hk),cq,D! (PP b5)]
 have a0:(putCells (λv=>v) 0 (flatK (λp:xW (cx X_ h H w) o=>p.1.2) o.sz z) G).size=G.size:=by unfold putCells;rw[Array.size_mapIdx]
 have hh:Holds (cx X_ h H w) (o.E.cl y) (putCells (λv=>v) 0 (flatK (λp:xW (cx X_ h H w) o=>p.1.2) o.sz z) G) fz:=by refine⟨λj=>(flatK (λp:xW (cx X_ h H w) o=>p.1.2) o.sz z)[j]!,by rw[a0,R];exact a',λi t=>a7 i (by rw[a0]at t;exact t),λj v C=>?_⟩;obtain⟨c,e1,e2,e3⟩:=b0 j v C;have K:=(EX.1 C).1;rw[R]at K;dsimp only;rw[e1];refine⟨?_,e2,e3⟩;unfold putCells;rw[Array.getElem?_mapIdx,OR (show j<G.size by omega),Bt,C! ⟨BV _,o!⟩,Wa,e1]
 have bm:=s.upd ap (g':=θ l) (B:=B) (cs':=o.E.cl y) (Al _) (λ_=>⟨V,a4.symm.trans a0.symm⟩) (.inl V) a3 bl rfl rfl rfl (by rw[al];simp) hh;refine⟨_,.tup [],_,_,rfl,⟨rfl,?_⟩,bm.1,.tup rfl (λj v c C=>by simp at C),bm.2⟩;rfl
def AF1{g:FuncId}{te:Ty}(key:te.D→Int)(i:∀e,(te.enc e).cells[0]?=Z (.int .i64 (key e)))
  (t:∀a b(r s:S Value)(W:World),θ r+1=te.sz->θ s+1=te.sz->Calls P g #[.agg (Value.int .i64 a::r).toArray,.agg (Value.int .i64 b::s).toArray] W λe j=>e=.returned (.int .i64 (Lib.compareInt a b))/\∃q u,j=grow (W.drewN q) u)
  (C:∀{k:Type} [Inhabited k] (f:k->S Value) (_:∀x,(f x).length=te.sz) (_:∀x,∀v∈f x,v.oneCell'=E) (m:k->k->Int) (_:SWO (ltOf m)) (c cap:Nat) (d:Array k) (w:World),CmpLays P g #[] f te.sz m c 0 d.size w->HoldsK f te.sz w c 0 d->c<w.heap.size->d.size<4611686018427387904->Calls P F #[.slice (Z ⟨c,0,D⟩) d.size cap,.func (.func g) #[] #[]] w λe j=>e=.returned (.tuple #[])/\∃o n os,PermIn 0 d.size d o/\SortedIn (ltOf m) 0 d.size o/\j=sortWorldK f te.sz w c 0 n o os)
  (B:∀p cap(A:Value)(w:World),Calls P F #[.slice p 0 cap,A] w λe j=>e=.returned (.tuple #[])/\j=w):
  (Qi.c2 F te [] [] [.fn (.func g) [] []] λl _=>ACm key l).Ok P:=
 AAW key i (λ{l y} h=>by unfold ACm at h;split at h;rename_i z;exact⟨AFz z.1,z.2,(BY h).symm⟩;cases h) t C B
def AF0{g:FuncId}{te:Ty}(key:te.D→Int)(i:∀e,(te.enc e).cells[0]?=Z (.int .i64 (key e)))
  (t:∀a b(r s:S Value)(W:World),θ r+1=te.sz->θ s+1=te.sz->Calls P g #[.agg (Value.int .i64 a::r).toArray,.agg (Value.int .i64 b::s).toArray] W λe j=>e=.returned (.int .i64 (Lib.compareInt a b))/\∃q u,j=grow (W.drewN q) u)
  (C:∀{k:Type} [Inhabited k] (f:k->S Value) (_:∀x,(f x).length=te.sz) (_:∀x,∀v∈f x,v.oneCell'=E) (m:k->k->Int) (_:SWO (ltOf m)) (c cap:Nat) (d:Array k) (w:World),CmpLays P g #[] f te.sz m c 0 d.size w->HoldsK f te.sz w c 0 d->c<w.heap.size->d.size<4611686018427387904->Calls P F #[.slice (Z ⟨c,0,D⟩) d.size cap,.func (.func g) #[] #[]] w λe j=>e=.returned (.tuple #[])/\∃o n os,PermIn 0 d.size d o/\SortedIn (ltOf m) 0 d.size o/\j=sortWorldK f te.sz w c 0 n o os)
  (B:∀p cap(A:Value)(w:World),Calls P F #[.slice p 0 cap,A] w λe j=>e=.returned (.tuple #[])/\j=w):
  (Qi.c2 F te [] [] [.fn (.func g) [] []] λl _=>AAV key l).Ok P:=
 AAW key i (λ{l y} h=>by unfold AAV at h;split at h;rename_i z;exact⟨z.1,z.2,(BY h).symm⟩;cases h) t C B
end Go.Ab
