/- Texts of wip, joined and shortened by wip/tools/pack.py; nothing is assumed. -/
import Derived.Test.YtdjfjcnheopcdaaGreatDoorK16
noncomputable section
set_option linter.all false
namespace Go.Pm
open Go Go.Ab
set_option maxRecDepth 100000
noncomputable section
def AJM(a b:A9):Bool:=(a.1.1==b.1.1)&&((a.1.2.1==b.1.2.1)&&(List.finRange 16).foldr (λi r=>((a.1.2.2 i).1==(b.1.2.2 i).1)&&(((a.1.2.2 i).2==(b.1.2.2 i).2)&&r)) ((a.2.1==b.2.1)&&((a.2.2.1==b.2.2.1)&&((a.2.2.2==b.2.2.2)&&true))))
def qEq(a b:Tp):Bool:=(List.finRange 8).foldr (λi r=>(a.1 i==b.1 i)&&r) ((a.2.1==b.2.1)&&((a.2.2==b.2.2)&&true))
def UK(x:(List AE)×(List AE)):Lp Int (Bool ⊕ Unit):=λa=>bif a<len x.1 then(ix x.1 a).bind λb=>letI f:=b.2.2.2;letI d:=f.2.2.2;letI h:=d.1.2.2;(ix x.2 a).bind λc=>letI g:=c.2.2.2;letI e:=g.2.2.2;letI i:=e.1.2.2;bif !((b.1==c.1)&&((b.2.1==c.2.1)&&((b.2.2.1==c.2.2.1)&&((f.1==g.1)&&((f.2.1==g.2.1)&&((f.2.2.1==g.2.2.1)&&((d.1.1==e.1.1)&&((d.1.2.1==e.1.2.1)&&((h.1.1==i.1.1)&&((h.1.2==i.1.2)&&((h.2.1==i.2.1)&&((h.2.2==i.2.2)&&((d.2==e.2)&&true)))))))))))))then some (.done (.inl false))else some (.next (wi (a+1)))else some (.done (.inr ()))
def MU(x:(List AE)×(List AE)):Option Bool:=bif len x.1 !=len x.2 then some false else(AZ (UK x) 0).bind λa=>Sum.elim some (λb=>some true) a
def MV(x:Ae×Ae):Option Bool:=bif x.1.1==x.2.1 then bif x.1.2.2==x.2.2.2 then(MU (x.1.2.1,x.2.2.1)).bind λa=>some a else some false else some false
def OR(x:BY×BY):Lp Int (Bool ⊕ Unit):=λa=>bif a<len x.1.2.1 then(ix x.1.2.1 a).bind λb=>(ix x.2.2.1 a).bind λc=>bif !(AJM b c)then some (.done (.inl false))else some (.next (wi (a+1)))else some (.done (.inr ()))
def Mc(x:BY×BY):Option Bool:=bif x.1.1 !=x.2.1 then some false else bif x.1.2.2 !=x.2.2.2 then some false else bif len x.1.2.1 !=len x.2.2.1 then some false else(AZ (OR x) 0).bind λa=>Sum.elim some (λb=>some true) a
def Ot(x:(List Ao)×(List Ao)):Lp Int (Bool ⊕ Unit):=λa=>bif a<len x.1 then(ix x.1 a).bind λb=>(ix x.2 a).bind λc=>bif !((b.1==c.1)&&((b.2.1.1==c.2.1.1)&&((b.2.1.2==c.2.1.2)&&((b.2.2==c.2.2)&&true))))then some (.done (.inl false))else some (.next (wi (a+1)))else some (.done (.inr ()))
def Ht(x:(List Ao)×(List Ao)):Option Bool:=bif len x.1 !=len x.2 then some false else(AZ (Ot x) 0).bind λa=>Sum.elim some (λb=>some true) a
def MY(x:A5×A5):Option Bool:=(Ht (x.1.1,x.2.1)).bind λa=>bif a then(Ht (x.1.2,x.2.2)).bind λb=>some b else some false
def UQ(x:(List Int)×(List Int)):Lp Int (Bool ⊕ Unit):=λa=>bif a<len x.1 then(ix x.1 a).bind λb=>(ix x.2 a).bind λc=>bif b !=c then some (.done (.inl false))else some (.next (wi (a+1)))else some (.done (.inr ()))
def FC(x:(List Int)×(List Int)):Option Bool:=bif len x.1 !=len x.2 then some false else(AZ (UQ x) 0).bind λa=>Sum.elim some (λb=>some true) a
def UP(x:(List Ai)×(List Ai)):Lp Int (Bool ⊕ Unit):=λa=>bif a<len x.1 then(ix x.1 a).bind λb=>letI f:=b.2.2;(ix x.2 a).bind λc=>letI g:=c.2.2;bif b.1 !=c.1 then some (.done (.inl false))else bif b.2.1 !=c.2.1 then some (.done (.inl false))else bif f.1 !=g.1 then some (.done (.inl false))else bif f.2.1 !=g.2.1 then some (.done (.inl false))else(FC (f.2.2.1,g.2.2.1)).bind λd=>bif !d then some (.done (.inl false))else(FC (f.2.2.2,g.2.2.2)).bind λe=>bif !e then some (.done (.inl false))else some (.next (wi (a+1)))else some (.done (.inr ()))
def Mf(x:(List Ai)×(List Ai)):Option Bool:=bif len x.1 !=len x.2 then some false else(AZ (UP x) 0).bind λa=>Sum.elim some (λb=>some true) a
def UN(x:BV×BV):Lp Int (Bool ⊕ Unit):=λa=>bif a<len x.1 then(ix x.1 a).bind λb=>(ix x.2 a).bind λc=>bif !((b.1==c.1)&&((b.2.1==c.2.1)&&((b.2.2==c.2.2)&&true)))then some (.done (.inl false))else some (.next (wi (a+1)))else some (.done (.inr ()))
def Md(x:BV×BV):Option Bool:=bif len x.1 !=len x.2 then some false else(AZ (UN x) 0).bind λa=>Sum.elim some (λb=>some true) a
def Pw(x:(List Ag)×(List Ag)):Lp Int (Bool ⊕ Unit):=λa=>bif a<len x.1 then(ix x.1 a).bind λb=>(ix x.2 a).bind λc=>bif !((b.1==c.1)&&((b.2.1==c.2.1)&&((b.2.2==c.2.2)&&true)))then some (.done (.inl false))else some (.next (wi (a+1)))else some (.done (.inr ()))
def IP(x:(List Ag)×(List Ag)):Option Bool:=bif len x.1 !=len x.2 then some false else(AZ (Pw x) 0).bind λa=>Sum.elim some (λb=>some true) a
def Mi(x:AP×AP):Option Bool:=letI h:=x.2.2.2.2;letI g:=x.1.2.2.2;bif x.1.1==x.2.1 then bif x.1.2.1==x.2.2.1 then(MV (x.1.2.2.1,x.2.2.2.1)).bind λa=>bif a then(Mc (g.1,h.1)).bind λb=>bif b then(MY (g.2.1,h.2.1)).bind λc=>bif c then(Mf (g.2.2.1,h.2.2.1)).bind λd=>bif d then(Md (g.2.2.2.1,h.2.2.2.1)).bind λe=>bif e then(IP (g.2.2.2.2,h.2.2.2.2)).bind λf=>some f else some false else some false else some false else some false else some false else some false else some false
def OG(x:BP×BP):Lp Int (Bool ⊕ Unit):=λa=>bif a<len x.1.1 then(ix x.1.1 a).bind λb=>(ix x.2.1 a).bind λc=>bif b !=c then some (.done (.inl false))else some (.next (wi (a+1)))else some (.done (.inr ()))
def OH(x:BP×BP):Lp Int (Bool ⊕ Unit):=λa=>bif a<len x.1.2.2.1 then(ix x.1.2.2.1 a).bind λb=>(ix x.2.2.2.1 a).bind λc=>bif b !=c then some (.done (.inl false))else some (.next (wi (a+1)))else some (.done (.inr ()))
def OI(x:BP×BP):Lp Int (Bool ⊕ Unit):=λa=>bif a<len x.1.2.2.2.2 then(ix x.1.2.2.2.2 a).bind λb=>letI d:=b.2.2;(ix x.2.2.2.2.2 a).bind λc=>letI e:=c.2.2;bif !((b.1==c.1)&&((b.2.1==c.2.1)&&((d.1==e.1)&&((d.2.1==e.2.1)&&((d.2.2.1==e.2.2.1)&&((d.2.2.2==e.2.2.2)&&true))))))then some (.done (.inl false))else some (.next (wi (a+1)))else some (.done (.inr ()))
def MS(x:BP×BP):Option Bool:=letI h:=x.2.2;letI g:=x.1.2;bif len x.1.1 !=len x.2.1 then some false else bif g.1 !=h.1 then some false else bif !(g.2.2.1==h.2.2.1)then some false else bif len g.2.1 !=len h.2.1 then some false else bif len g.2.2.2 !=len h.2.2.2 then some false else(AZ (OG x) 0).bind λa=>Sum.elim some (λb=>(AZ (OH x) 0).bind λc=>Sum.elim some (λd=>(AZ (OI x) 0).bind λe=>Sum.elim some (λf=>some true) e) c) a
def Py(x:(List AT)×(List AT)):Lp Int (Bool ⊕ Unit):=λa=>bif a<len x.1 then(ix x.1 a).bind λb=>(ix x.2 a).bind λc=>bif !((b.1==c.1)&&((b.2.1==c.2.1)&&((b.2.2==c.2.2)&&true)))then some (.done (.inl false))else some (.next (wi (a+1)))else some (.done (.inr ()))
def Ga(x:(List AT)×(List AT)):Option Bool:=bif len x.1 !=len x.2 then some false else(AZ (Py x) 0).bind λa=>Sum.elim some (λb=>some true) a
def Mq(x:AO×AO):Option Bool:=letI d:=x.2.2;letI c:=x.1.2;bif c.1==d.1 then bif c.2.2.1==d.2.2.1 then bif c.2.2.2==d.2.2.2 then(FC (x.1.1,x.2.1)).bind λa=>bif a then(Ga (c.2.1,d.2.1)).bind λb=>some b else some false else some false else some false else some false
def Mt(x:er×er):Option Bool:=bif x.1.2==x.2.2 then(JW (x.1.1,x.2.1)).bind λa=>some a else some false
def Ue(x:Qq×Qq):Lp Int (Bool ⊕ Unit):=λa=>bif a<len x.1.2.1 then(ix x.1.2.1 a).bind λb=>(ix x.2.2.1 a).bind λc=>bif !(b==c)then some (.done (.inl false))else some (.next (wi (a+1)))else some (.done (.inr ()))
def Uf(x:Qq×Qq):Lp Int (Bool ⊕ Unit):=λa=>bif a<len x.1.2.2 then(ix x.1.2.2 a).bind λb=>(ix x.2.2.2 a).bind λc=>bif b !=c then some (.done (.inl false))else some (.next (wi (a+1)))else some (.done (.inr ()))
def Mw(x:Qq×Qq):Option Bool:=bif !(x.1.1==x.2.1)then some false else bif len x.1.2.1 !=len x.2.2.1 then some false else bif len x.1.2.2 !=len x.2.2.2 then some false else(AZ (Ue x) 0).bind λa=>Sum.elim some (λb=>(AZ (Uf x) 0).bind λc=>Sum.elim some (λd=>some true) c) a
def Od(x:IF×IF):Lp Int (Bool ⊕ Unit):=λa=>bif a<len x.1.2.2.1 then(ix x.1.2.2.1 a).bind λb=>(ix x.2.2.2.1 a).bind λc=>bif !((b.1==c.1)&&((b.2==c.2)&&true))then some (.done (.inl false))else some (.next (wi (a+1)))else some (.done (.inr ()))
def Oe(x:IF×IF):Lp Int (Bool ⊕ Unit):=λa=>bif a<len x.1.2.2.2 then(ix x.1.2.2.2 a).bind λb=>(ix x.2.2.2.2 a).bind λc=>bif b !=c then some (.done (.inl false))else some (.next (wi (a+1)))else some (.done (.inr ()))
def Mx(x:IF×IF):Option Bool:=bif x.1.1 !=x.2.1 then some false else bif x.1.2.1 !=x.2.2.1 then some false else bif len x.1.2.2.1 !=len x.2.2.2.1 then some false else bif len x.1.2.2.2 !=len x.2.2.2.2 then some false else(AZ (Od x) 0).bind λa=>Sum.elim some (λb=>(AZ (Oe x) 0).bind λc=>Sum.elim some (λd=>some true) c) a
def Of(x:Wi×Wi):Lp Int (Bool ⊕ Unit):=λa=>bif a<len x.1.2 then(ix x.1.2 a).bind λb=>(ix x.2.2 a).bind λc=>bif !((b.1==c.1)&&((b.2.1==c.2.1)&&((b.2.2.1==c.2.2.1)&&((b.2.2.2==c.2.2.2)&&true))))then some (.done (.inl false))else some (.next (wi (a+1)))else some (.done (.inr ()))
def My(x:Wi×Wi):Option Bool:=bif x.1.1 !=x.2.1 then some false else bif len x.1.2 !=len x.2.2 then some false else(AZ (Of x) 0).bind λa=>Sum.elim some (λb=>some true) a
def HV(x:BN×BN):Option Bool:=letI m:=x.1.2.2;letI l:=x.2.2.2;letI k:=l.2.2.2;letI o:=k.2.2.2;letI j:=m.2.2.2;letI n:=j.2.2.2;(Mi (x.1.1,x.2.1)).bind λa=>bif a then(MS (x.1.2.1,x.2.2.1)).bind λb=>bif b then(Mq (m.1,l.1)).bind λc=>bif c then(Ga (m.2.1,l.2.1)).bind λd=>bif d then(Mt (m.2.2.1,l.2.2.1)).bind λe=>bif e then bif j.1==k.1 then(Mw (j.2.1,k.2.1)).bind λf=>bif f then(Mx (j.2.2.1,k.2.2.1)).bind λg=>bif g then(My (n.1,o.1)).bind λh=>bif h then bif qEq n.2.1 o.2.1 then(FC (n.2.2.1,o.2.2.1)).bind λi=>bif i then some (n.2.2.2==o.2.2.2)else some false else some false else some false else some false else some false else some false else some false else some false else some false else some false else some false
def Oq(x:(List Int)×Int)(a:List AT)(b:Int×AW):Lp Int (Bool ⊕ Unit):=λc=>bif c<len a then(ix a c).bind λd=>bif (d.1==wi (1+b.1))&&((d.2.1==wi x.2)&&((d.2.2==[])&&true))then(ix a c).bind λe=>bif e.2.2==[]then(ix a c).bind λf=>bif f.1==1 then some (.done (.inl true))else(ix a c).bind λg=>some (.done (.inl (g.1==2)))else some (.done (.inl false))else(ix a c).bind λh=>bif h.2.2 !=[]then(ix a c).bind λi=>bif i.2.2==[]then(ix a c).bind λj=>bif j.1==1 then some (.done (.inl true))else(ix a c).bind λk=>some (.done (.inl (k.1==2)))else some (.done (.inl false))else(ix a c).bind λm=>bif m.1 !=1 then(ix a c).bind λn=>bif n.1 !=2 then(ix a c).bind λo=>bif o.2.2==[]then(ix a c).bind λp=>bif p.1==1 then some (.done (.inl true))else(ix a c).bind λq=>some (.done (.inl (q.1==2)))else some (.done (.inl false))else some (.next (wi (c+1)))else some (.next (wi (c+1)))else some (.done (.inr ()))
def Kw(x:(List Int)×Int):Option Bool:=(Gq ()).bind λa=>bif !a then some false else(bif len x.1>500 then(br x.1 0 500).bind λb=>some b else some x.1:Option (List Int)).bind λc=>(Fj (c,0) ()).bind λd=>(ND d.1).bind λe=>(An d.2 2).bind λf=>(AZ (Oq x e f) 0).bind λg=>Sum.elim some (λh=>(HK f.2 d.1).bind λi=>(app [] i.1).bind λj=>(app j ([(wi (1+f.1),(wi x.2),[])]:List (Int×Int×BW))).bind λk=>(Ev (d.1,k)).bind λm=>(Ev (d.1,i.1)).bind λn=>bif m==n then(MH (d.1,[])).bind λo=>(HV (o,d.1)).bind λp=>some p else some false) g
end
set_option maxHeartbeats 400000
theorem uj{a:Type}{l:List a}{body:Int->Option (Step Int (Bool ⊕ Unit))}(g:l.length<=16777216)(h: ∀(s:Int) (v:a),s<l.length->ix l s=some v->v∈l->body s=some (.next (wi (s+1))))(f: ∀s:Int,¬s<l.length->body s=some (.done (.inr ()))):AZ body 0=some (.inr ()):=by
 suffices d:Ar (AZ body 0) λr=>r= .inr () by obtain⟨r,hr,rfl⟩:=d;exact hr
 refine Cf (λ(s:Int)=>0<=s/\s<=l.length) (λs=>((l.length:Int)-s).toNat) ⟨Ad _,o!⟩ (λs b=>?_);have⟨e,k⟩:=b;by_cases c:s<l.length
 ·have⟨v,j,_,i⟩:=AI e c;grind[AX,Ar.next]
 ·grind[Ar.done]
def yz{l:List Int}(a:l.length<=16777216):FC (l,l)=some true:=by grind[FC,uj,UQ]
def ACM{l:List AE}(a:l.length<=16777216):MU (l,l)=some true:=by grind[MU,uj,UK]
def ABT{l:List AT}(a:l.length<=16777216):Ga (l,l)=some true:=by grind[Ga,uj,Py]
def AFe{l:BV}(a:l.length<=16777216):Md (l,l)=some true:=by grind[Md,uj,UN]
def AG7{x:BP}(e:x.1.length<=16777216)(b:x.2.2.1=[])(d:x.2.2.2.2=[]):MS (x,x)=some true:=by unfold MS;rw[uj (l:=x.1) e (λs v c a _=>by simp[OG,len,c,a]) (λs c=>by simp[OG,len,c]),uj (l:=x.2.2.1) (by rw[b];exact Bi _) (λs v c a _=>by simp[OH,len,c,a]) (λs c=>by simp[OH,len,c]),uj (l:=x.2.2.2.2) (by rw[d];exact Bi _) (λs v c a _=>by simp[OI,len,c,a]) (λs c=>by simp[OI,len,c])];simp
theorem Xv{body:Int->Option (Step Int (Bool ⊕ Unit))}(h:body 0=some (.done (.inr ()))):AZ body 0=some (.inr ()):=by rw[Dv,h]
structure AGQ(x:BN):Prop where
 pool:x.1.2.2.2.1.2.1=[]
 locks:x.1.2.2.2.2.1=([],[])
 txs:x.1.2.2.2.2.2.1=[]
 index:x.1.2.2.2.2.2.2.1.length<=16777216
 dirty:x.1.2.2.2.2.2.2.2=[]
 dev:x.2.1.1.length<=16777216
 unr:x.2.1.2.2.1=[]
 faults:x.2.1.2.2.2.2=[]
 backup:x.2.2.2.2.1.1.2.2=[]
 media:x.2.2.2.2.2.2.1=(false,([],[]))
 places:x.2.2.2.2.2.2.2.1.2.2=([],[])
 scrub:x.2.2.2.2.2.2.2.2.1.2=[]
 lost:x.2.2.2.2.2.2.2.2.2.2.1=[]
def AEP(a:Tp):qEq a a=true:=by simp_all[qEq,List.finRange,List.foldr_cons]
def AGz{x:BN}(h:AGQ x)(l:x.1.2.2.1.2.1.length<=16777216)(m:x.2.2.1.1.length<=16777216)(n:x.2.2.1.2.2.1.length<=16777216)(o:x.2.2.2.1.length<=16777216):HV (x,x)=some true:=by
 have b:Mi (x.1,x.1)=some true:=by
  have i:Mc (x.1.2.2.2.1,x.1.2.2.2.1)=some true:=by unfold Mc;rw[Xv (body:=OR _) (by unfold OR;dsimp only;rw[h.pool];rfl)];simp
  have q:MY (x.1.2.2.2.2.1,x.1.2.2.2.2.1)=some true:=by rw[h.locks];unfold MY Ht;rw[Xv (body:=Ot _) rfl];rfl
  have j:Mf (x.1.2.2.2.2.2.1,x.1.2.2.2.2.2.1)=some true:=by rw[h.txs];grind[Mf,Xv,UP]
  have r:IP (x.1.2.2.2.2.2.2.2,x.1.2.2.2.2.2.2.2)=some true:=by rw[h.dirty];grind[IP,Xv,Pw]
  have p:MV (x.1.2.2.1,x.1.2.2.1)=some true:=by unfold MV;dsimp only;rw[ACM l];simp
  unfold Mi;dsimp only;rw[p,i,q,j,AFe h.index,r];simp
 have c:Mq (x.2.2.1,x.2.2.1)=some true:=by unfold Mq;dsimp only;rw[yz m,ABT n];simp
 have d:Mt (x.2.2.2.2.1,x.2.2.2.2.1)=some true:=by unfold Mt;dsimp only;rw[AHq _ (by rw[h.backup];exact Bi _)];simp
 have e:Mw (x.2.2.2.2.2.2.1,x.2.2.2.2.2.2.1)=some true:=by rw[h.media];unfold Mw;rw[Xv (body:=Ue _) rfl,Xv (body:=Uf _) rfl];rfl
 have f:Mx (x.2.2.2.2.2.2.2.1,x.2.2.2.2.2.2.2.1)=some true:=by have a:AZ (Od (x.2.2.2.2.2.2.2.1,x.2.2.2.2.2.2.2.1)) 0=some (.inr ()):=Xv (by unfold Od;dsimp only;rw[h.places];rfl);have k:AZ (Oe (x.2.2.2.2.2.2.2.1,x.2.2.2.2.2.2.2.1)) 0=some (.inr ()):=Xv (by unfold Oe;dsimp only;rw[h.places];rfl);unfold Mx;rw[a,k];simp
 have g:My (x.2.2.2.2.2.2.2.2.1,x.2.2.2.2.2.2.2.2.1)=some true:=by have a:AZ (Of (x.2.2.2.2.2.2.2.2.1,x.2.2.2.2.2.2.2.2.1)) 0=some (.inr ()):=Xv (by unfold Of;dsimp only;rw[h.scrub];rfl);unfold My;rw[a];simp
 unfold HV;dsimp only;rw[b,AG7 h.dev h.unr h.faults,c,ABT o,d,e,f,g,yz (by rw[h.lost];exact Bi _),AEP];simp
def AEN{a:Type}{l:List a}{f:a->AT}{body:Int×List AT->Option (Step (Int×List AT) (List AT))}{A:List AT}(p:l.length+A.length<=16777216)(h: ∀(s:Int) (B:List AT) (v:a),s<l.length->ix l s=some v->body (s,B)=Option.bind (app B [f v]) λw=>some (.next (wi (s+1),w)))(o: ∀(s:Int) (B:List AT),¬s<l.length->body (s,B)=some (.done B)):AZ body (0,A)=some (A++l.map f):=by
 suffices g:Ar (AZ body (0,A)) λr=>r=A++l.map f by obtain⟨r,hr,rfl⟩:=g;exact hr
 refine Cf (λ(s:Int×List AT)=>0<=s.1/\s.1<=l.length/\s.2=A++(l.take s.1.toNat).map f) (λs=>((l.length:Int)-s.1).toNat) ⟨Ad _,d!,k!⟩ ?_;rintro⟨i,B⟩ ⟨c,m,d⟩;dsimp only at c m d;by_cases b:i<l.length
 ·have⟨v,j,e,_⟩:=AI c b;have n:B.length<=A.length+i.toNat:=by grind[List.length_append,List.length_map,List.length_take]
  rw[h i B v b j,AX];refine AA (Ac w!) λw k=>Ar.next ⟨d!,d!,?_⟩ d!
  dsimp only;rw[k.1,d,show(i+1).toNat=i.toNat+1 by omega,Ce,e];simp
 ·grind[Ar.done,List.take_of_length_le]
def AGo{n d:Int}{L:List EN}{m:Nat}{k:BN}(h:DBx n d L m k):Ar (ND k) λr=>r.length<=300/\(∀y∈r,y.2.2=[]/\(y.1=1\/y.1=2))/\(∀e∈F9 k.2.2.1,(1,(e.2,[]))∈r)/\ ∀x,Qi L d m k.2.2.2.1 k.2.2.2.1.length x->(2,(x.1,[]))∈r:=by
 have S:=h.log.len;obtain⟨q,M,v,O,_,rfl,_,_⟩:=we h.ar.vb h.ar.ds (Uj h.ar.vb) h.ar.dis;have⟨V,H,v8,Y⟩:=qe h.num o! h.pn h.i8 (λf q=>.inl (h.fi f q));have N:v.length<=4:=by rw[O.length_eq];unfold F9;exact Cz (List.length_filterMap_le _ _) h.few
 have u: ∀(s:List Int),s.Perm (v.map (·.2))->let r:=(s.map λi=>((1,(i,[])):AT))++V.map λx=>((2,(x.1,[])):AT);r.length<=300/\(∀y∈r,y.2.2=[]/\(y.1=1\/y.1=2))/\(∀e∈F9 k.2.2.1,(1,(e.2,[]))∈r)/\ ∀x,Qi L d m k.2.2.2.1 k.2.2.2.1.length x->(2,(x.1,[]))∈r:=λs T=>by have b:=T.length_eq;rw[B5]at b;refine⟨by rw[Aa,B5,B5];omega,λy hy=>?_,λe J=>?_,λx Z=>?_⟩;rcases A1.1 hy with w|w;obtain⟨i,_,rfl⟩:=Bl.1 w;exact⟨rfl,.inl rfl⟩;obtain⟨i,_,rfl⟩:=Bl.1 w;exact⟨rfl,.inr rfl⟩;exact Gb _ (Bl.2 ⟨e.2,T.mem_iff.2 (Bl.2 ⟨e,O.mem_iff.2 J,rfl⟩),rfl⟩);exact M7 _ (Bl.2 ⟨x,(Y x).2 Z,rfl⟩)
 unfold ND;rw[M,AD];dsimp only[len];apply AC<;>intro W;have j:v=[]:=by rw[B5]at W;exact lV.1 o!
 subst j;have l2: ∀z:Int,AZ (WV (0,((len ([]:List Int)),(z,(true,true))))) (wi (0+1))=some ():=λz=>by rw[Dv];rfl
 have l1: ∀z:Int,AZ Kg (0,((len ([]:List Int)),(z,(true,true))))=some ():=λz=>by rw[Dv];unfold Kg;dsimp only;rw[decide_eq_true (show wi ((len ([]:List Int))-0)<=12 from by decide+kernel),cond_true,l2,AD]
 have l4:AZ WW (0,[])=some []:=by rw[Dv];rfl
 unfold IG;obtain⟨n,g,-,-⟩:=sF (x:=0) g!;rw[show(IntKind.wrap .u64 (([]:List Int).length:Int))=((0:Nat):Int)from rfl,g];simp only[AD];rw[show AZ Kg (0,((([]:List Int).length:Int),(n,(true,true))))=some ()from l1 n,AD,l4,AD,H,AD,AEN (l:=V) (f:=λx=>(2,(x.1,[]))) w! (λs B v c j=>by simp[Dk,len,c,j]) (λs B c=>by simp[Dk,len,c])];exact AB (u [] (lO _))
 ·have K:(v.map (·.2)).length=v.length:=B5 _;refine AA (Ac w!) λad E=>?_;have p:=E.1;rw[Cp]at p;subst p;refine AA (ABr (by rw[K];omega)) λa o=>?_;have b:=o.length_eq;rw[b,HB,cond_true];have t:=u a o;have step: ∀(body:Int×List AT->Option (Step (Int×List AT) (List AT))),(∀(s:Int) (B:List AT) (v:Int),s<a.length->ix a s=some v->body (s,B)=Option.bind (app B [((1,(v,[])):AT)]) λw=>some (.next (wi (s+1),w)))->(∀(s:Int) (B:List AT),¬s<a.length->body (s,B)=some (.done B))->AZ body (0,[])=some (a.map λi=>((1,(i,[])):AT)):=λbody D C=>AEN (l:=a) (f:=λi=>(1,(i,[]))) (by rw[b,K];simp;omega) D C;have G9: ∀(body:Int×List AT->Option (Step (Int×List AT) (List AT))) (A:List AT),A.length<=4->(∀(s:Int) (B:List AT) (v:Ak),s<V.length->ix V s=some v->body (s,B)=Option.bind (app B [((2,(v.1,[])):AT)]) λw=>some (.next (wi (s+1),w)))->(∀(s:Int) (B:List AT),¬s<V.length->body (s,B)=some (.done B))->AZ body (0,A)=some (A++V.map λx=>((2,(x.1,[])):AT)):=λbody A hA D C=>AEN (l:=V) (f:=λx=>(2,(x.1,[]))) o! D C;have U:(a.map λi=>((1,(i,[])):AT)).length<=4:=by rw[B5,b,K];exact N
  refine AC (λ_=>?_) (λC=>?_);rw[step (HJ (v.map (·.2)) a) (λs B w c j=>by
   rw[b]at c;unfold HJ;dsimp only;rw[decide_eq_true (show s<len (v.map (·.2))from c),cond_true,j,AD,AD]) (λs B c=>by
   rw[b]at c;unfold HJ;dsimp only;rw[decide_eq_false (show¬s<len (v.map (·.2))from c),cond_false]),AD,H,AD,G9 (Dk V) _ U (λs B v c j=>by simp[Dk,len,c,j]) (λs B c=>by simp[Dk,len,c])]
  exact AB t
  ·have nd:a.Nodup:=o.nodup_iff.2 ((O.map (·.2)).nodup_iff.2 (I0.2 ((wQ h.ar.vb).imp λh e=>o!)));refine AA (P:=λ_=>True) ?_ λax _=>?_
   ·refine Cf (λ(s:Int)=>1<=s/\s<=a.length) (λs=>((a.length:Int)-s).toNat) ⟨Ad _,by rw[b];omega⟩ (λs X=>?_);have⟨i0,i1⟩:=X;unfold dc;dsimp[len];refine AC (λI=>?_) (λ_=>Ar.done trivial);rw[<-b]at I;rw[AX (x:=s-1),AX (x:=s+1)];refine AA (AI o! I) λag _=>AA (AI o! I) λal F=>AA (AI) λao _=>AA (AI) λap G=>AQ (λJ=>?_) (λ_=>Ar.next o! o!);have Q:=F.1;have R:=G.1;rw[A4 o!]at Q R;have:=(HA.1 (I0.1 nd)) (s-1).toNat s.toNat o! o! o!
    rw[Ba Q,Ba R]at this;exact absurd J.symm this
   rw[step (HJ (v.map (·.2)) a) (λs B w c j=>by
   rw[b]at c;unfold HJ;dsimp only;rw[decide_eq_true (show s<len (v.map (·.2))from c),cond_true,j,AD,AD]) (λs B c=>by
   rw[b]at c;unfold HJ;dsimp only;rw[decide_eq_false (show¬s<len (v.map (·.2))from c),cond_false]),AD,H,AD,G9 (Dk V) _ U (λs B v c j=>by simp[Dk,len,c,j]) (λs B c=>by simp[Dk,len,c])]
   exact AB t
def AE3{n:Int}(h:1<=n/\n<=64):Ar (EH (n,1)) λr=>r.1.2.2.2.1.2.1=[]/\r.1.2.2.2.2.1=([],[])/\r.1.2.2.2.2.2.1=[]/\r.1.2.2.2.2.2.2.1.length<=16777216/\r.1.2.2.2.2.2.2.2=[]:=by have hn:IB ()=some (1,([],0)):=rfl;unfold EH;dsimp only;rw[decide_eq_false o!,cond_false,decide_eq_false o!,cond_false,decide_eq_false o!,cond_false,decide_eq_false o!,cond_false];refine AA LP λc a=>AA (P:=λr=>r.1.length<=16777216) ?_ λd b=>?_;unfold J9;rw[decide_eq_false o!,cond_false,decide_eq_false o!,cond_false];unfold Go.Ab.mk;rw[if_pos ⟨o!,Ad _,o!⟩,AD];grind[AB,List.length_replicate];grind[AB]
def AE4{n:Int}(h:1<=n/\n<=64):Ar (Gf (n,(1,(0,([0]:List Int))))) λr=>r.1.2.1.1.length<=16777216/\r.1.2.1.2.2.1=[]/\r.1.2.1.2.2.2.2=[]/\r.1.2.2.2.2.1.1.2.2=[]/\r.1.2.2.2.2.2.2.1=(false,([],[]))/\r.1.2.2.2.2.2.2.2.1.2.2=([],[])/\r.1.2.2.2.2.2.2.2.2.1.2=[]/\r.1.2.2.2.2.2.2.2.2.2.2.1=[]:=by unfold Gf;dsimp only;refine AA (pJ h) λi d=>AK (λa=>absurd d.1 a) (λ_=>?_);rw[AX,show n+0=n by omega];refine AA (P:=λr=>r.2=0/\r.1.1.length<=16777216/\r.1.2.2.1=[]/\r.1.2.2.2.2=[]) ?_ λj b=>AK (λa=>absurd b.1 a) (λ_=>?_);grind[El,AA,JC,AB];refine AA (sg (bd0 h)) λk e=>AK (λa=>absurd e.1 a) (λ_=>AA (P:=λr=>r.2=0/\(r.2=0->r.1.2.2=([],[]))) ?_ λl c=>AK (λa=>absurd c.1 a) (λ_=>A7 (AA (AA9 _) λm _=>AB ⟨b.2.1,b.2.2.1,b.2.2.2,rfl,rfl,c.2 c.1,rfl,rfl⟩)));refine((sh h).and (Q:=λr=>r.2=0->r.1.2.2=([],[])) ?_).mono λr hr=>hr;have⟨r,hr,g⟩:=sh h;refine⟨r,hr,λ_=>?_⟩;unfold KB at hr;cases f:Iq (n,(0,([],[])))<;>grind
def ACp{b:AW}{r:BN×AW}(s:CX b)(h:Fj b ()=some r):AGQ r.1:=by unfold Fj at h;have⟨e,p,⟨_,d,z,_⟩⟩:=Wv s (x:=20) o!;rw[p,AD]at h;have⟨A,q,a1,a2,a3,a4,a5⟩:=AE3 (n:=e.1) ⟨d,o!⟩;rw[q,AD]at h;have⟨y,a,f,g,i,j,k,l,m,o⟩:=AE4 (n:=e.1) ⟨d,o!⟩;simp only[Db]at h;have⟨B,_,C,_,D,_,E,_,u,_,v,_,w,c,t⟩:=h;rw[a]at c;cases c;cases t;exact⟨a1,a2,a3,a4,a5,f,g,i,j,k,l,m,o⟩
def qU(v:List AT):E2 [] v=v:=by unfold E2 Ow;simp
def ADC{n d:Int}{L:List EN}{a:AO}{l:Ae}{g s t:List AT}{k m c:Nat}{p:Int}(S:LI n L)(G:AR L a)(hr:RC a c)(H:Us L l)(hk:k<=L.length)(Y:0<=p/\p<a.2.1)(X: ∀f∈a.2.2.1,∀r,Good a f r->Ow t f=false->Ow s f=false)(T: ∀x,Qi L d m (E2 t g) (E2 t g).length x->Qi L d m (E2 s g) (E2 s g).length x)(h:OKp L d m (a.1,(a.2.1,(E2 t a.2.2.1,a.2.2.2))) l (E2 t g) k p):OKp L d m (a.1,(a.2.1,(E2 s a.2.2.1,a.2.2.2))) l (E2 s g) k p:=by
 have I:=H.len;obtain⟨a1,_,a3⟩:=G.less (Ug s _) hr;obtain⟨J,_,K⟩:=G.less (Ug t _) hr;obtain⟨D,U,Q,p1,O,q⟩:=h;obtain⟨ad,v,b,y,o,_,_⟩:=sY (p:=p) (i:=0) (j:=(k:Int)) (CPa 4096) g! S o! (Ad _) o! o! a1 H Y;have C:=p1.uniq J.vb.1 rfl rfl y;subst C;have u: ∀z,rp (a.1,(a.2.1,(E2 t a.2.2.1,a.2.2.2))) l D z->rp (a.1,(a.2.1,(E2 s a.2.2.1,a.2.2.2))) l D z:=λz Z=>by rcases Z with q|⟨e,M,N⟩;exact .inl q;obtain⟨f,R,A,E⟩:=(K e).1 M;obtain⟨B,F⟩:=Bk.1 R;refine .inr ⟨e,(a3 e).2 ⟨f,Bk.2 ⟨B,?_⟩,A,E⟩,N⟩;rw[P3]at F⊢;exact X f B _ A F
 obtain⟨f0,f2,P,f4⟩:=O;obtain⟨g0,A,E,B⟩:=id o;have V:b<=Q:=by rcases B with w|w;omega;refine RX λW=>w (u b (P b o! A))
 refine⟨D,v,b,y,o,?_⟩;rcases q with q|⟨x,x1,x2,x3⟩;exact .inl o!;exact .inr ⟨x,T x x1,x2,o!⟩
def wZ{x:List Int×Int}(h: ∀c∈x.1,0<=c/\c<256)(hx:0<=x.2/\x.2<256):Ar (Kw x) λr=>r=true:=by
 unfold Kw;rw[ABG,AD,Cg,cond_false];refine AA (yU h) λv2 I=>?_;have⟨b,e3,c3,n,d,L,m,a⟩:=wR I;have K:=ACp I e3;rw[e3,AD];refine AA (AGo a) λz h4=>AA (Ap c3 (x:=2) o!) λk h5=>?_;have⟨q1,q2,q3⟩:=h5;have⟨l4,f4,r4,i4⟩:=h4;rw[AX (x:=1+k.1),AX (x:=x.2)];refine AA (P:=λr=>r= .inl true\/(r= .inr ()/\ ∀y∈z,¬(y.1=1+k.1/\y.2.1=x.2))) ?_ λr hr=>?_
 ·refine Cf (λ(s:Int)=>0<=s/\s<=z.length/\ ∀y∈z.take s.toNat,¬(y.1=1+k.1/\y.2.1=x.2)) (λs=>((z.length:Int)-s).toNat) ⟨Ad _,o!,λy G=>by simp at G⟩ (λs hI=>?_);have⟨i0,i1,i2⟩:=hI;unfold Oq;dsimp[len];refine AC (λhc=>?_) (λhc=>Ar.done (.inr ⟨rfl,by rw[BK o!]at i2;exact i2⟩));rw[AX (x:=1+k.1),AX (x:=x.2),AX (x:=s+1)];have⟨v,hv,hq,hm⟩:=AI i0 hc;have⟨y1,y2⟩:=f4 v hm;have nx: ¬(v.1=1+k.1/\v.2.1=x.2)->Ar (some (Step.next (s+1)):Option (Step Int (Bool ⊕ Unit))) (MK (λ(s:Int)=>0<=s/\s<=z.length/\ ∀y∈z.take s.toNat,¬(y.1=1+k.1/\y.2.1=x.2)) (λs=>((z.length:Int)-s).toNat) ((z.length:Int)-s).toNat λr=>r= .inl true\/(r= .inr ()/\ ∀y∈z,¬(y.1=1+k.1/\y.2.1=x.2))):=λhn=>by
   refine Ar.next ⟨o!,o!,λy G=>?_⟩ o!
   rw[show(s+1).toNat=s.toNat+1 by omega,Ce,hq]at G;grind
  rw[hv];simp only[AD,y1];refine AJ (λ_=>?_) (λhb=>?_)
  ·rw[beq_self_eq_true,cond_true];refine AQ (λ_=>Ar.done (.inl rfl)) (λB=>?_);have S:v.1=2:=y2.resolve_left B;rw[S];exact Ar.done (.inl rfl)
  rw[bne_self_eq_false,cond_false];have hn: ¬(v.1=1+k.1/\v.2.1=x.2):=λw=>by rw[w.1,w.2]at hb;simp at hb
  refine AK (λB=>?_) (λ_=>nx hn);have S:v.1=2:=y2.resolve_left B;rw[S];exact nx hn
 rcases hr with rfl|⟨rfl,M⟩;exact BG (AB rfl);refine A3 (AA (AA3 a q1) λe u=>AA (Ac (by simp;have:=u.2;omega)) λa0 J=>AA (Ac (by rw[J.1];have:=u.2;simp;omega)) λi T=>?_);have H:i=e.1++[((1+k.1,(x.2,[])):AT)]:=by rw[T.1,J.1];rfl
 have ax:i.length<=302:=by rw[H,Aa];have:=u.2;simp;omega
 have ap:=u.2;have sv: ∀l:List AT,l.length<=1000->_:=λl hl=>zr (x:=(b.1,l)) a.li a.num a.ar a.log a.rc g! (Am _) a.dur a.pg a.pn a.i8 a.fi d!;have j: ∀f:AT,Ow i f=(Ow e.1 f||((1+k.1==f.1)&&(x.2==f.2.1))):=λf=>by unfold Ow;rw[H,List.any_append];simp
 have E: ∀f∈b.1.2.2.1.2.2.1,∀r,Good b.1.2.2.1 f r->Ow e.1 f=false->Ow i f=false:=λf o r Q hz=>by rw[j f,hz,Bool.false_or];refine Ts.2 λD=>?_;simp[BO,beq_iff_eq]at D;have hk:f.1=1:=Q.1;exact M _ (r4 (r,f.2.1) ((sQ a.ar _).2 ⟨f,o,Q,rfl⟩)) ⟨d!,D.2.symm⟩
 have F: ∀y,Qi L d m (E2 e.1 b.1.2.2.2.1) (E2 e.1 b.1.2.2.2.1).length y->Qi L d m (E2 i b.1.2.2.2.1) (E2 i b.1.2.2.2.1).length y:=λy G=>by
  have A:=zX (l:=[]) (more:=e.1) (λf o=>by simp[Ow]at o) G;rw[qU]at A;have X:=i4 y A;have⟨pi,f,o,R⟩:=pB.1 G;refine pB.2 ⟨pi,f,?_,R⟩;unfold E2 at o⊢;rw[Z7]at o⊢;rw[<-o];congr 1;funext g;rw[j g];by_cases Q:g.1=2/\g.2.1=y.1;have:((1+k.1==g.1)&&(x.2==g.2.1))=false:=Ts.2 λD=>by simp[BO,beq_iff_eq]at D;exact M _ X d!
  rw[this,Bool.or_false];have:(g.1==2&&g.2.1==y.1)=false:=Ts.2 λD=>by simp[BO,beq_iff_eq]at D;exact Q D
  rw[this,Bool.and_false,Bool.and_false]
 have bd: ∀p:Int,p<m->p<b.1.2.2.1.2.1:=λp hp=>by have:=a.pg;omega
 refine AA (sv i o!) λY U=>AA (sv e.1 o!) λZ V=>?_;have W:Y=Z:=by rw[Bool.eq_iff_iff,U,V];refine⟨λq p N O=>yE (t:=i) a.li a.ar a.rc a.log (Am _) ⟨N,bd p O⟩ (λf o=>?_) (q p N O),λq p N O=>ADC (t:=e.1) a.li a.ar a.rc a.log (Am _) ⟨N,bd p O⟩ E F (q p N O)⟩;dsimp only at o;rw[j f,o,Bool.true_or]
 rw[W,beq_self_eq_true,cond_true];have al:=a.i8;have ad:=a.few;have ao:=a.log.vl.2.2.1;have ag:=a.ar.vb.1.2.2.2.1;have C:HV (b.1,b.1)=some true:=AGz K o! o! o! o!;rw[vN (x:=(b.1,[])) (Bi _) d! d!,AD];dsimp only;rw[qU,qU];rw[show HV ((b.1.1,(b.1.2.1,((b.1.2.2.1.1,(b.1.2.2.1.2.1,(b.1.2.2.1.2.2.1,b.1.2.2.1.2.2.2))),(b.1.2.2.2.1,b.1.2.2.2.2)))),b.1)=some true from C,AD];exact AB rfl
end Go.Pm
