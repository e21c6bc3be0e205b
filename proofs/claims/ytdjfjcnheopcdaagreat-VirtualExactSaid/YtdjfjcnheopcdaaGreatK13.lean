/- Texts of wip, joined and shortened by wip/tools/pack.py; nothing is assumed. -/
import Derived.Test.YtdjfjcnheopcdaaGreatK12
import Derived.Test.YtdjfjcnheopcdaaGreatProg
import Derived.Lib.Builder
import Derived.Lib.FrozenHead
import Derived.Lib.FrozenHead2
import Derived.Lib.AppendStr
import Derived.Lib.UnsafeStr
import Derived.Lib.Repeat
import Derived.Lib.RepeatB
import Derived.Lib.Walk
import Derived.WalkKit
import Derived.Laws.Externs
import Derived.Shelf.RegionOpenPlain
import Derived.Lib.MakeNoZero
import Derived.Laws.IdiomCopy
import Derived.Deep.LoopGhost
import Derived.Deep.DeepCutAuto
import Derived.Deep.DeepFit
import Derived.Deep.CutBlock
noncomputable section
set_option linter.all false
namespace Go.Pm
open Go Go.Ab
set_option maxRecDepth 100000
noncomputable section

end
set_option maxHeartbeats 400000
variable {a:AK}
def AEF(h:CX a):As (Lm a ()) λr=>CX r.2:=by refine AA (AY h g!) λd b=>AQ (λ_=>AB b.1) (λ_=>AA (KD b.1) λe c=>?_);dsimp[len];refine AA (CQ (Ae _) ?_ ?_) λf _=>AB c;split<;>omega;split<;>omega
def yo{x:AT}(h:CX a):As (Jw a x) λr=>CX r.2:=by
 refine AA (AY h g!) λm b=>?_;have f: ∀{v:Int},0<=v/\(v=0\/v<16)->0<=v/\v<16:=λl=>o!
 refine AA (P:=λ(r:AK×AT)=>CX r.1) ?_ λr hr=>AB hr;refine AQ (λ_=>AA (Ks b.1) λk c=>AB c) (λ_=>AA (P:=λ(r:AK×AT)=>CX r.1) ?_ λr hr=>AB hr);refine AQ (λ_=>AA (Ks b.1) λk c=>AB c) (λ_=>AA (P:=λ(r:AK×AT)=>CX r.1) ?_ λr hr=>AB hr);refine AQ (λ_=>?_) (λ_=>AA (P:=λ(r:AK×AT)=>CX r.1) ?_ λr hr=>AB hr);refine AA (AY b.1 g!) λn d=>AA (AY d.1 g!) λo g=>AA (KD g.1) λp i=>?_;have:=f d.2;exact AA (CM this.1 this.2) λ_ _=>AA (CM this.1 this.2) λ_ _=>AB i;refine AQ (λ_=>?_) (λ_=>AB b.1);refine AA (AY b.1 g!) λq e=>AA (AEF e.1) λs j=>?_;have:=f e.2;exact AA (CM this.1 this.2) λ_ _=>AA (CM this.1 this.2) λ_ _=>AB j
theorem zn(h:CX a):As (LC a ()) λr=> ∃(L:List EN) (d B n:Int) (m:Nat),1<=m/\m<=4/\(m:Int)=r.1/\r.2.1.2.1=r.1/\AR L r.2.1/\AG r.2.1/\SF r.2.1 B/\r.2.1.2.2.2.1<=4097/\Qk L r.2.2.1/\Il L/\LI n L/\CX r.2.2.2.2/\r.2.2.2.1.length<=8/\ ∀f∈r.2.2.2.1,FI L d m f:=by unfold LC;refine AA ((gH h (x:=25) o!).and (wH h (x:=25) o!)) λb v=>?_;have⟨⟨c0,C,F,c,n,l⟩,D,g⟩:=v;refine AA (oQ (x:=(b.1,b.2.1)) c0 ⟨C,d!⟩ c) λG w=>?_;have⟨s,e,p,_,q,o,u,_⟩:=w;dsimp only at e o u;have j:=c.2.2.1;have⟨m,k⟩:=EM (show 0<=b.1 by omega);have K:=e.vb.2.1;refine AA (P:=λr=>CX r.2/\r.1.length<=8/\ ∀f∈r.1,FI b.2.1.2.1 b.2.1.2.2 m f) (by rw[k];exact AAD s l (c.num g) e (VZ c) o! o! o!) λH y=>?_;have⟨t,z,A⟩:=y;refine AA (AY t (x:=2) o!) λI E=>AA (P:=λ(r:AK×Af)=>CX r.1/\Qk b.2.1.2.1 r.2) ?_ λJ i=>AB ⟨b.2.1.2.1,b.2.1.2.2,_,n,m,o!,o!,k.symm,o,e,p,q,d!,i.2,(c.num g),l,i.1,z,A⟩;grind[AQ,AB,VZ,AA,AY,Aa,AFb]
def oX{x:List Int×Int×Int}(h: ∀c∈x.1,0<=c/\c<256):As (Jx x) λr=>r=true:=by
 unfold Jx;rw[ACV,AD,Cm,cond_false];refine AA (AAi h) λv2 R=>AA (zn R) λb h3=>?_;obtain⟨L,d,mm,n,m,m1,m4,hm,hp,hA,hG,Z,hx,f,B,hL,a,i8,iF⟩:=h3;have a4:=f.len;rw[<-hm,pr o!,AD];refine AA (wF B o! ⟨m1,o!⟩ i8 iF) λv5 h5=>AA (P:=λ(r:AK×BN)=>CX r.1/\ ∃(M:Int) (j:Nat),1<=M/\M<=1073741824/\r.2=(M,((m:Int),K5 (L.take j) m))) ?_ λv8 h8=>?_;refine AC (λad=>?_) (λ_=>AB ⟨a,1,0,g!,g!,rfl⟩);simp[len]at ad;refine AA (AY a (by have:=h5.1;simp[len];omega)) λv6 h6=>?_;obtain⟨q1,q2,q3⟩:=h6;simp[len]at q3;refine AA (AI q2) λv7 h7=>?_;obtain⟨j,_,x1,x2,xe⟩:=h5.2 v7 h7.2;exact AB ⟨q1,v7.1,j,x1,x2,xe⟩;have⟨c8,M,j,g1,g2,e8⟩:=h8;refine AA (AY c8 (x:=4) o!) λv9 h9=>AA (P:=λ(r:AK×AJ)=>CX r.1/\AR L r.2/\r.2.2.2.2.1<=4097) ?_ λa6 O=>?_;refine AQ (λ_=>?_) (λ_=>AB ⟨h9.1,hA,hx⟩);exact AA (yl hA hG h9.1 Z) λa5 t=>AB ⟨t.1,t.2.1,hx⟩;have⟨N,z,C⟩:=O;refine AA FT λao u=>?_;have u:=u f.vl;have l1:=f.vl.1;have l2:=f.vl.2.1;have l3:=f.vl.2.2.1;rw[Aa (x:=ao+1)];refine AA (AY N o!) λa7 Q=>AA (P:=λr=> ∃c,r= .inr c/\CX c) ?_ λr hr=>?_
 ·refine Cv (λ(s:Int×AK)=>0<=s.1/\s.1<=3/\CX s.2) (λs=>(3-s.1).toNat) ⟨Ae _,d!,Q.1⟩ ?_;rintro⟨i,c⟩ ⟨g,i1,ic⟩;dsimp only at g i1 ic;unfold NH;dsimp only;refine AC (λa=>?_) (λ_=>As.done ⟨c,rfl,ic⟩);have a:i<3:=a;refine AA (AI g a) λF _=>?_;rw[Aa (x:=i+1)];refine AA (P:=λr=>r= .inr ()) ?_ λr hr=>by
   rw[hr];refine A4 (AA (P:=λr=> ∃c,r= .inr c/\CX c) ?_ λr hr=>?_)
   ·refine Cv (λ(s:Int×AK)=>0<=s.1/\s.1<=m/\CX s.2) (λs=>((m:Int)-s.1).toNat) ⟨Ae _,d!,ic⟩ ?_;rintro⟨p,c⟩ ⟨p0,p1,pc⟩;dsimp only at p0 p1 pc;unfold NJ;dsimp only;rw[<-hm];refine AC (λa=>?_) (λ_=>As.done ⟨c,rfl,pc⟩);rw[e8,xE B o! ⟨g1,g2⟩ ⟨m1,o!⟩ ⟨p0,a⟩,AD,Aa (x:=p+1)];refine AA (AY pc (x:=3) o!) λa9 v=>AA (P:=λ(r:AK×AT)=>CX r.1) ?_ λax T=>?_;exact AQ (λ_=>AA (yo v.1) λa' S=>AB S) (λ_=>AB v.1);have⟨w,I,J,_⟩:=AAJ (x:=ax.2) (k:=F) hL B z f C;rw[I,J,AD,AD,bne_self_eq_false,cond_false,sL,Cm,cond_false];exact As.next ⟨d!,d!,T⟩ d!
   ·obtain⟨c,rfl,a⟩:=hr;exact A4 (As.next ⟨d!,d!,a⟩ d!)
  refine Cv (λ(s:Int)=>0<=s/\s<=2) (λs=>(2-s).toNat) ⟨Ae _,g!⟩ (λs hI=>?_);have⟨s1,s2⟩:=hI;unfold NI;refine AC (λa=>?_) (λ_=>As.done rfl);have a:s<2:=a;rw[Aa (x:=s+1)];refine AA (AI s1 a) λa8 _=>AA (AI s1 a) λar _=>?_;have⟨w,I,J,w3⟩:=AEL (s:=ar) (k:=F) (j:=j) hL B z f C ⟨m1,o!⟩ ⟨g1,g2⟩;rw[e8,I,J,AD,AD,bne_self_eq_false,cond_false,AFM _ o!,AD,Cm,cond_false];exact As.next o! o!
 ·obtain⟨c,rfl,a⟩:=hr;refine A4 (AA (AY a o!) λq U=>?_);have⟨q1,q2,q3⟩:=U;rw[show Fj q.1=some (st (L.take 0) q.1)from rfl,AD];have hv:Ex (st (L.take 0) q.1):=Vz B ⟨q2,o!⟩ o! 0;refine AA (P:=λ(r:List AE×AK)=>r.1.length<=4096/\ ∀e∈r.1,Io e) ?_ λa3 Y=>?_
  ·refine Cv (λ(s:Int×List AE×AK)=>0<=s.1/\s.1<=b.2.2.1.2.1.length/\s.2.1.length<=s.1/\(∀e∈s.2.1,Io e)/\CX s.2.2) (λs=>((b.2.2.1.2.1.length:Int)-s.1).toNat) ⟨Ae _,d!,Ae _,λe K=>by simp at K,q1⟩ ?_;rintro⟨i,A,c⟩ ⟨g,i1,i2,D,E⟩;dsimp only at g i1 i2 D E;unfold NK;dsimp[len];refine AC (λa=>?_) (λ_=>As.done ⟨d!,D⟩);rw[Aa (x:=i+1)];have l: ∀c,CX c->As (some (Step.next (i+1,(A,c))):Option (Step (Int×List AE×AK) (List AE×AK))) (Nb (λ(s:Int×List AE×AK)=>0<=s.1/\s.1<=b.2.2.1.2.1.length/\s.2.1.length<=s.1/\(∀e∈s.2.1,Io e)/\CX s.2.2) (λs=>((b.2.2.1.2.1.length:Int)-s.1).toNat) ((b.2.2.1.2.1.length:Int)-i).toNat λ(r:List AE×AK)=>r.1.length<=4096/\ ∀e∈r.1,Io e):=λc a=>As.next ⟨d!,d!,d!,D,a⟩ d!
   have o: ∀(c:Int×AK),CX c.2->As (Option.bind ((bif decide (c.1>0)then Option.bind (ix b.2.2.1.2.1 i) λG=>Option.bind (app A ([G]:List EN)) λH=>some H else some A):Option (List AE)) λa1=>some (Step.next (i+1,(a1,c.2))):Option (Step (Int×List AE×AK) (List AE×AK))) (Nb (λ(s:Int×List AE×AK)=>0<=s.1/\s.1<=b.2.2.1.2.1.length/\s.2.1.length<=s.1/\(∀e∈s.2.1,Io e)/\CX s.2.2) (λs=>((b.2.2.1.2.1.length:Int)-s.1).toNat) ((b.2.2.1.2.1.length:Int)-i).toNat λ(r:List AE×AK)=>r.1.length<=4096/\ ∀e∈r.1,Io e):=λc al=>by
    refine AA (P:=λ(r:List AE)=>r.length<=A.length+1/\ ∀e∈r,Io e) ?_ λr hr=>As.next ⟨d!,d!,by have:=hr.1;dsimp only;omega,hr.2,al⟩ d!
    refine AC (λ_=>AA (AI g a) λG W=>AA (Ac w!) λH y=>AB ⟨by rw[y.2.1];simp,λe K=>?_⟩) (λ_=>AB ⟨o!,D⟩);rw[y.1]at K;rcases Ao.1 K with w|w;exact D e w;rw[BC.1 w];have⟨k,hk⟩:=D7.1 W.2;exact(f.vl.2.2.2.2.2 k _ hk).2
   refine AA (AI g a) λbb _=>AQ (λ_=>AA (AI g a) λbl _=>AQ (λ_=>AA (AY E (x:=9) o!) λa0 V=>o a0 V.1) (λ_=>AA (AI g a) λbt _=>AQ (λ_=>AA (AY E (x:=9) o!) λa2 X=>o a2 X.1) (λ_=>l c E))) (λ_=>l c E)
  have⟨w,I,J,_⟩:=AAM (es:=a3.1) hv Y.2 o!;rw[I,J,AD,AD,beq_self_eq_true,cond_true,sL];exact AB rfl
end Go.Pm
namespace Go.Proofs.YtdjfjcnheopcdaaGreat
open Go.RowKit Go.Ab Go.Pm
def xl: ∃j,Tryz.prog.info? 187=some j/\j.size=2:=by
 have h:(Tryz.prog.info? 187).map (·.size)=some 2:=by kernel_rfl
 exact SC.1 h
def ACZ:liesAt Tryz.prog Tryz.prog.depth 187 (2/Tryz.prog.cellsOf 187) 0 187 1=true:=by kernel_rfl
set_option maxHeartbeats 1000000 in
set_option maxRecDepth 100000 in
def qe(b:Nat)(w:World)(d:w.cell? ⟨b,0,none⟩=some (.pointer (some ⟨b,0,none⟩))):
  Calls Tryz.prog 158 #[.pointer (some ⟨b,0,none⟩)] w λe c=>e= .returned (.tuple #[])/\c=w:=by
 obtain⟨j,a,_⟩:=xl;go_enter Tryz.func158,Tryz.ntmps158;go_wp2;rw[Lib.run_neq_ptr_same w _ Tryz.underlying185 a];go_wp2;go_end0;exact⟨rfl,rfl⟩
set_option maxHeartbeats 1000000 in
set_option maxRecDepth 100000 in
def fT(b:Nat)(w:World)(h:w.cell? ⟨b,0,none⟩=some (.pointer none))(a:w.shape? b=some (187,2))(f:w.frozen? ⟨b,0,none⟩=false):
  Calls Tryz.prog 158 #[.pointer (some ⟨b,0,none⟩)] w λe g=>e= .returned (.tuple #[])/\g=w.setCell ⟨b,0,none⟩ (.pointer (some ⟨b,0,none⟩)):=by
 obtain⟨j,d,c⟩:=xl;go_enter Tryz.func158,Tryz.ntmps158;go_wp2;rw[Lib.run_to_unsafe w ⟨b,0,none⟩ Tryz.underlying185 Tryz.underlying281 d (by rw[c];decide) a (Nat.zero_lt_succ 1)];simp only[Result.andThen];rw[Oper.upon_value];go_wp2;rw[run_callFunc_extern Tryz.func195 (by kernel_rfl) (by kernel_rfl) (by kernel_rfl) (e:=Extern.AbiNoEscape.same) (by kernel_rfl)];rw[Lib.run_noEscape];simp only[Result.andThen];rw[Oper.upon_value];go_wp2;rw[Lib.run_from_unsafe w ⟨b,0,none⟩ Tryz.underlying281 Tryz.underlying185 d a ACZ];simp only[Result.andThen];rw[Oper.upon_value];go_wp2;go_end0;exact⟨rfl,rfl⟩
def uh(B b:Nat)(bs:List Value)(w:World)(h:Lib.IsBuilderF 187 5 B b bs w):
  Calls Tryz.prog 158 #[.pointer (some ⟨b,0,none⟩)] w λe a=>e= .returned (.tuple #[])/\Lib.BuilderAtF 187 5 B b (.pointer (some ⟨b,0,none⟩)) bs a/\Below B w a:=by
 rcases h with h|h;apply (fT b w h.cell0 h.shape h.frozen0).mono;rintro e a ⟨rfl,rfl⟩;exact⟨rfl,h.used _,(Below.refl B w).setCell (p:=⟨b,0,none⟩) h.1 _⟩;apply (qe b w h.cell0).mono;rintro e a ⟨rfl,rfl⟩;exact⟨rfl,h,Below.refl B _⟩
def xk: ∃i,Tryz.prog.info? 5=some i/\i.zero=some (.int .u8 0)/\i.size=1/\i.bytes=1:=by
 have h:(Tryz.prog.info? 5).map (λi=>(i.zero,i.size,i.bytes))=some (some (.int .u8 0),1,1):=by kernel_rfl
 obtain⟨i,b,a⟩:=SC.1 h;simp only[Du]at a;exact⟨i,b,a.1,a.2.1,a.2.2⟩
def oo{B b:Nat}{p:Value}{bs:List Value}{w:World}(h:Lib.BuilderAtF 187 5 B b p bs w): ∃v,w.heap[b]? =some (.cells #[p,v] 187 (0,0))/\w.cell? ⟨b,1,none⟩=some v/\w.ownsRowF B 5 1 v bs.length bs/\v.ownBlock≠some b:=by obtain⟨e,v,a,c,d⟩:=h;exact⟨v,a,by rw[Lib.cell_of_heap a];rfl,c,d⟩
set_option maxHeartbeats 1000000 in
set_option maxRecDepth 100000 in
def AEf(B b:Nat)(bs:List Value)(w:World)(h:Lib.IsBuilderF 187 5 B b bs w):
  Calls Tryz.prog 121 #[.pointer (some ⟨b,0,none⟩)] w λe l=>e= .returned (.int .i64 bs.length)/\l=w:=by
 obtain⟨p,j⟩: ∃p,Lib.BuilderAtF 187 5 B b p bs w:=h.elim (λh=>⟨_,h⟩) (λh=>⟨_,h⟩);obtain⟨v,k,m,a,_⟩:=oo j;obtain⟨d,cap,rfl⟩: ∃d cap,v= .slice d bs.length cap:=by rcases a.2 with⟨c,i⟩|⟨g,cap,f,n,c,_⟩;exact⟨none,0,by rw[c,i]⟩;exact⟨_,_,c⟩
 go_enter Tryz.func121,Tryz.ntmps121
 go_wp2
 go_ret
 exact⟨rfl,rfl⟩
set_option maxHeartbeats 2000000 in
set_option maxRecDepth 100000 in
def sn(B b:Nat)(bs:List Value)(c:Int)(w:World)(h:Lib.IsBuilderF 187 5 B b bs w)(C:bs.length+1≤140737488355328)(H:B≤w.heap.size):
  Calls Tryz.prog 116 #[.pointer (some ⟨b,0,none⟩),.int .u8 c] w λe E=>e= .returned .nilIface/\Lib.BuilderAtF 187 5 B b (.pointer (some ⟨b,0,none⟩)) (bs++[.int .u8 c]) E/\Below B w E:=by
 obtain⟨M,I,t,x,y⟩:=xk;go_enter Tryz.func116,Tryz.ntmps116;go_wp2_with (go_at_call 158;apply (uh B b bs _ h).mono)
 rintro e F ⟨rfl,m,l⟩;have A:=m.1;have r:=m.lt;have c0:=m.cell0;obtain⟨v,q,z,i,s⟩:=oo m;have K:=l.size;go_wp2_with (at_builtin;apply wpList_append_ownF _ rfl _ _ 22 rfl B 5 M (.int .u8 0) 1 1 Tryz.underlying22 I t x y rfl g! _ _ _ rfl (i.alloc _) ⟨F.heap.size,0,none⟩ 1 1 [.int .u8 c] rfl rfl ?z ?c2 ?c3 ?c4 ?c5)
 case z=>
  intro j u n;match j,n with
  |0,n=>simp at n;subst n;simp[Addr.add]
 case c2=>intro u D;simp at D;subst D;rfl
 case c3=>unfold maxLen;omega
 case c4=>omega
 case c5=>simp;omega
 intro N o d a _;have f:o.heap[b]? =some (.cells #[.pointer (some ⟨b,0,none⟩),v] 187 (0,0)):=by rw[a.block b w! (λe=>s e.symm),Lib.alloc_old F _ b r];exact q
 have O:o.cell? ⟨b,0,none⟩=some (.pointer (some ⟨b,0,none⟩)):=by rw[Lib.cell_of_heap f];rfl
 have P:o.cell? ⟨b,1,none⟩=some v:=by rw[Lib.cell_of_heap f];rfl
 have Q:o.frozen? ⟨b,1,none⟩=false:=Lib.frozen_of_heap f 1;obtain⟨g,cap,rfl⟩: ∃g cap,N= .slice (some ⟨g,0,none⟩) (bs.length+1) cap:=by rcases d.2 with⟨_,S⟩|⟨g,cap,G,R,L,_⟩;omega;exact⟨g,cap,L⟩
 go_wp2
 go_ret
 refine⟨rfl,?_,?_⟩;exact Lib.BuilderAtF.put (T:=187) (e:=5) A f (bs':=bs++[.int .u8 c]) (by simpa using d) g!;exact((l.alloc o! _).grown a w! (λk J=>(i.lt k J).1)).setCell (p:=⟨b,1,none⟩) A _
set_option maxHeartbeats 2000000 in
set_option maxRecDepth 100000 in
def Wm(B b:Nat)(bs:List Value)(s:ByteArray)(w:World)(h:Lib.IsBuilderF 187 5 B b bs w)(z:bs.length+s.size≤140737488355328)(E:B≤w.heap.size):
  Calls Tryz.prog 115 #[.pointer (some ⟨b,0,none⟩),.string s] w λe C=>e= .returned (.tuple #[.int .i64 s.size,.nilIface])/\Lib.BuilderAtF 187 5 B b (.pointer (some ⟨b,0,none⟩)) (bs++Lib.strCells s) C/\Below B w C:=by
 obtain⟨I,F,r,t,u⟩:=xk;go_enter Tryz.func115,Tryz.ntmps115;go_wp2_with (go_at_call 158;apply (uh B b bs _ h).mono)
 rintro e P ⟨rfl,j,i⟩;have y:=j.1;have n:=j.lt;have c0:=j.cell0;obtain⟨v,m,K,f,o⟩:=oo j;have H:=i.size;go_wp2_with (at_builtin;apply Lib.wpList_append_own_stringF _ rfl _ _ 22 9 rfl B 5 I Tryz.underlying22 Tryz.underlying9 F r t u _ _ _ rfl f s rfl ?c3 ?c4 ?c5)
 case c3=>unfold maxLen;omega
 case c4=>omega
 case c5=>omega
 intro J l c a _;have d:l.heap[b]? =some (.cells #[.pointer (some ⟨b,0,none⟩),v] 187 (0,0)):=by rw[a.block b n (λe=>o e.symm)];exact m
 have L:l.cell? ⟨b,0,none⟩=some (.pointer (some ⟨b,0,none⟩)):=by rw[Lib.cell_of_heap d];rfl
 have M:l.cell? ⟨b,1,none⟩=some v:=by rw[Lib.cell_of_heap d];rfl
 have N:l.frozen? ⟨b,1,none⟩=false:=Lib.frozen_of_heap d 1;obtain⟨x,A,cap,rfl⟩: ∃x A cap,J= .slice x A cap:=by rcases c.2 with⟨q,_⟩|⟨g,cap,D,O,q,_⟩;exact⟨_,_,_,q⟩;exact⟨_,_,_,q⟩
 go_wp2
 go_ret2
 refine⟨rfl,?_,?_⟩;exact Lib.BuilderAtF.put (T:=187) (e:=5) y d (bs':=bs++Lib.strCells s) (by simpa[Lib.strCells_length]using c) g!;exact(i.grown a o! (λk G=>(f.lt k G).1)).setCell (p:=⟨b,1,none⟩) y _
set_option maxHeartbeats 1000000 in
set_option maxRecDepth 100000 in
def rL(B b:Nat)(l:List UInt8)(w:World)(h:Lib.IsBuilderF 187 5 B b (Lib.byteCells l) w)(y:l≠ []):
  Calls Tryz.prog 117 #[.pointer (some ⟨b,0,none⟩)] w λe z=>e= .returned (.string ⟨l.toArray⟩)/\Lib.IsBuilderF 187 5 B b (Lib.byteCells l) z/\Below B w z:=by
 obtain⟨p,K,k⟩: ∃p,(p= .pointer none\/p= .pointer (some ⟨b,0,none⟩))/\Lib.BuilderAtF 187 5 B b p (Lib.byteCells l) w:=h.elim (λh=>⟨_,.inl rfl,h⟩) (λh=>⟨_,.inr rfl,h⟩);obtain⟨D,v,i,c,t⟩:=k;have s:l.length≠0:=by simpa using y
 rw[Lib.byteCells_length]at c;obtain⟨g,cap,a,f,rfl,n,I,H,J,o,G,u⟩: ∃g cap a f,v= .slice (some ⟨g,0,none⟩) l.length cap/\B<=g/\w.heap[g]? =some (.cells a 5 f)/\f.2<=l.length*1/\l.length<=cap/\cap<=maxLen/\a.size=cap*1/\a.toList.take (l.length*1)=Lib.byteCells l:=by rcases c.2 with⟨_,N⟩|⟨g,cap,a,f,L,r⟩;exact absurd N s;exact⟨g,cap,a,f,L,r⟩
 have A:w.drew.cell? ⟨b,1,none⟩=some (.slice (some ⟨g,0,none⟩) l.length cap):=by have:w.drew.heap[b]? =some (.cells #[p,.slice (some ⟨g,0,none⟩) l.length cap] 187 (0,0)):=i;rw[Lib.cell_of_heap this];rfl
 have E:(Builtin.unsafeSliceData_ #[22] 239 #[.slice (some ⟨g,0,none⟩) l.length cap]).run Tryz.prog w.drew= .ok (.pointer (some ⟨g,0,none⟩)) w.drew:=Lib.run_unsafeSliceData_row _ _ _ _ _ _ o!;have F:(Builtin.unsafeString_ #[239,3] 9 #[.pointer (some ⟨g,0,none⟩),.int .i64 l.length]).run Tryz.prog w.drew= .ok (.string ⟨l.toArray⟩) (w.drew.freeze ⟨g,0,none⟩ l.length):=by apply Lib.run_unsafeString_row w.drew 239 3 9 5 Tryz.underlying239 (by kernel_rfl) g a.size (by have q:w.drew.heap[g]? =some (.cells a 5 f):=I;simp[World.shape?,q]) l y o! (by unfold maxLen at o;omega);intro j x M;exact c.cells (g:=g) rfl j (.int .u8 x.toNat) (by simp[Lib.byteCells,M])
 have d:Lib.IsBuilderF 187 5 B b (Lib.byteCells l) (w.drew.freeze ⟨g,0,none⟩ l.length):=by
  have C:Lib.BuilderAtF 187 5 B b p (Lib.byteCells l) w.drew:=⟨D,_,i,by rw[Lib.byteCells_length];exact c,t⟩
  have m:=C.froze (g:=g) (cap:=cap) (by rw[Lib.byteCells_length];exact A);rw[Lib.byteCells_length]at m;rcases K with rfl|rfl;exact .inl m;exact .inr m
 go_enter Tryz.func117,Tryz.ntmps117
 go_wp2
 go_region
 all_goals (go_wp2;go_ret;exact⟨rfl,d,Lib.below_freeze (Below.drew (Below.refl B w)) (p:=⟨g,0,none⟩) n _⟩)
set_option maxHeartbeats 2000000 in
set_option maxRecDepth 1000000 in
def AAd(B b n:Nat)(w:World)(p:B≤b)(a:w.heap[b]? =some (.cells #[.pointer (some ⟨b,0,none⟩),.slice none 0 0] 187 (0,0)))(j:B≤w.heap.size)(hn:n≤281474976710656):
  Calls Tryz.prog 162 #[.pointer (some ⟨b,0,none⟩),.int .i64 n] w λe o=>e= .returned (.tuple #[])/\Lib.BuilderAt 187 5 B b (.pointer (some ⟨b,0,none⟩)) [] o/\Below B w o:=by
 obtain⟨c,h,q,g⟩:=Lib.run_makeNoZero (P:=Tryz.prog) w.drew #[3] 22 5 Tryz.underlying22 n hn;have m:IntKind.i64.wrap (IntKind.i64.wrap 0+(n:Int))=n:=by rw[IntKind.wrap_i64,IntKind.wrap_i64];omega
 have k:(callFunc 196 #[.int .i64 (IntKind.i64.wrap (IntKind.i64.wrap 0+(n:Int)))]).run Tryz.prog w.drew= .ok (.value (.slice (some ⟨w.drew.heap.size,0,none⟩) n c.size)) (w.drew.drew.drew.alloc (.cells c 5)):=by rw[m,run_callFunc_extern Tryz.func196 (by kernel_rfl) (by kernel_rfl) (by kernel_rfl) (e:=Extern.BytealgMakeNoZero.makeNoZero #[3] #[22]) (by kernel_rfl),h];rfl
 have f:b<w.heap.size:=by rcases Aw b w.heap.size with i|i;exact i;simp[oi i]at a
 have r:w.drew.cell? ⟨b,1,none⟩=some (.slice none 0 0):=by have:w.drew.heap[b]? =_:=a;rw[Lib.cell_of_heap this];rfl
 have s:(w.alloc (.cells c 5)).cell? ⟨b,1,none⟩=some (.slice none 0 0):=by have:(w.alloc (.cells c 5)).heap[b]? =_:=(Lib.alloc_old w _ b f).trans a;rw[Lib.cell_of_heap this];rfl
 have t:(w.alloc (.cells c 5)).frozen? ⟨b,1,none⟩=false:=Lib.frozen_of_heap ((Lib.alloc_old w _ b f).trans a) 1;have l: ∀W:World,(Builtin.copy_ #[22,22] 3 #[.slice (some ⟨w.heap.size,0,none⟩) 0 c.size,.slice none 0 0]).run Tryz.prog W= .ok (goInt 0) W:=λW=>run_copy_none W 22 22 3 5 _ _ 0 c.size 0 0 Tryz.underlying22 (by kernel_rfl) rfl;clear m;have d:=Lib.grown_fresh (T:=187) (e:=5) (cs:=c) p a j (g (by unfold maxLen;omega)) g!;rw[World.setCell_alloc_past _ _ _ _ f]at d;go_enter Tryz.func162,Tryz.ntmps162;go_wp2;go_region;all_goals (go_wp2;go_end0;exact⟨rfl,d⟩)
set_option maxHeartbeats 2000000 in
set_option maxRecDepth 1000000 in
def ACY(B b n:Nat)(w:World)(g:B≤b)(c:w.heap[b]? =some (.cells #[.pointer none,.slice none 0 0] 187 (0,0)))(h:B≤w.heap.size)(hn:n≤281474976710656):
  Calls Tryz.prog 120 #[.pointer (some ⟨b,0,none⟩),.int .i64 n] w λe f=>e= .returned (.tuple #[])/\Lib.BuilderAt 187 5 B b (.pointer (some ⟨b,0,none⟩)) [] f/\Below B w f:=by
 have a:(w.setCell ⟨b,0,none⟩ (.pointer (some ⟨b,0,none⟩))).heap[b]? =some (.cells #[.pointer (some ⟨b,0,none⟩),.slice none 0 0] 187 (0,0)):=by simp[World.setCell,Zo,c]
 have i:(w.setCell ⟨b,0,none⟩ (.pointer (some ⟨b,0,none⟩))).cell? ⟨b,1,none⟩=some (.slice none 0 0):=by rw[Lib.cell_of_heap a];rfl
 have d:Below B w (w.setCell ⟨b,0,none⟩ (.pointer (some ⟨b,0,none⟩))):=(Below.refl B w).setCell (p:=⟨b,0,none⟩) g _;have m:Lib.BuilderAt 187 5 B b (.pointer (some ⟨b,0,none⟩)) [] (w.setCell ⟨b,0,none⟩ (.pointer (some ⟨b,0,none⟩))):=⟨g,.slice none 0 0,a,World.ownsRow_nil _ _ _ _,by simp[Value.ownBlock]⟩
 have j:(w.setCell ⟨b,0,none⟩ (.pointer (some ⟨b,0,none⟩))).drew.cell? ⟨b,1,none⟩=some (.slice none 0 0):=i;go_enter Tryz.func120,Tryz.ntmps120;go_wp2_with (go_at_call 158;apply (fT b w (by rw[Lib.cell_of_heap c];rfl) (by simp[World.shape?,c]) (Lib.frozen_of_heap c 0)).mono;rintro e f ⟨rfl,rfl⟩)
 go_region
 all_goals go_wp2_with (go_at_call 162;apply (AAd B b n (w.setCell ⟨b,0,none⟩ (.pointer (some ⟨b,0,none⟩))).drew g a (by simpa[World.setCell,World.drew,-World.drew_eq]using h) hn).mono;rintro e f ⟨rfl,k,l⟩)
 all_goals first
  |(go_end0;exact⟨rfl,k,d.drew.trans l⟩)
  |(go_end0;exact⟨rfl,m.drew,d.drew⟩)
end Go.Proofs.YtdjfjcnheopcdaaGreat
