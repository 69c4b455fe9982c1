/-
  Parts of the proof, merged: PoseI, PoseK, CoupA, CoupB, CoupC, BurP, BurA, BurB, CoupD.
-/
import Derived.Test.YtneiiodebbmcaaaGreatDoorM9
set_option linter.unusedVariables false
set_option linter.unusedSimpArgs false
set_option maxRecDepth 100000
section
namespace Go.Num
open Go.Abs
abbrev CpQ:=V2×V2×Rat×Rat×Rat×Rat×Rat
def c0:CpQ:=((0,0),(0,0),0,0,0,0,0)
def timesQ(a b:V2):V2:=(a.1*b.1-a.2*b.2,a.1*b.2+a.2*b.1)
def barQ(a:V2):V2:=(a.1,-a.2)
def lnkC(A B:List V2)(m n:V2):Nat:=if m=n then 8 else if crV A=0 then 8 else if crV B=0 then 8 else if ciV A=ciV B then 8 else 0
def lnkQ(A B:List V2)(m n:V2):CpQ:=(ciV A,ciV B,sqQ (subQ (pt 0 A) (ciV A)),sqQ (subQ n m),sqQ (subQ (pt 0 B) (ciV B)),-(m.1*(subQ n m).1+m.2*(subQ n m).2) / sqQ (subQ n m),(m.1*(subQ n m).2-m.2*(subQ n m).1) / sqQ (subQ n m))
def lkC(l:List Ps)(m n:Arc):Nat:=if chkC l [m,n]≠0 then chkC l [m,n] else lnkC (imgs l m) (imgs l n) (av m) (av n)
end Go.Num
namespace Go.Abs
open Go.Num
variable {P:Program} {Γ:Nat->Spec}
def cqC(c:CpQ):List C:=[cb (rcan c.1.1),cn (rcan c.1.1),cd (rcan c.1.1),cb (rcan c.1.2),cn (rcan c.1.2),cd (rcan c.1.2),cb (rcan c.2.1.1),cn (rcan c.2.1.1),cd (rcan c.2.1.1),cb (rcan c.2.1.2),cn (rcan c.2.1.2),cd (rcan c.2.1.2),cb (rcan c.2.2.1),cn (rcan c.2.2.1),cd (rcan c.2.2.1),cb (rcan c.2.2.2.1),cn (rcan c.2.2.2.1),cd (rcan c.2.2.2.1),cb (rcan c.2.2.2.2.1),cn (rcan c.2.2.2.2.1),cd (rcan c.2.2.2.2.1),cb (rcan c.2.2.2.2.2.1),cn (rcan c.2.2.2.2.2.1),cd (rcan c.2.2.2.2.2.1),cb (rcan c.2.2.2.2.2.2),cn (rcan c.2.2.2.2.2.2),cd (rcan c.2.2.2.2.2.2)]
def cqA(c:CpQ):AV:=.agg (cqC c)
def cl(c:Cp):Nat:=max (al c.1) (max (al c.2.1) (max (rl c.2.2.1) (max (rl c.2.2.2.1) (max (rl c.2.2.2.2.1) (max (rl c.2.2.2.2.2.1) (rl c.2.2.2.2.2.2))))))
def ZY(l:List AV)(K:AV->Prop):Prop:=
 match l with
 | [a,b]=>onA (λp=>onA (λq=>al p<=100000000/\al q<=100000000/\K (pQ (timesQ (av p) (av q)))) b) a
 | _=>False
theorem kaf a b K:ZY [a,b] K=(onA (λp=>onA (λq=>al p<=100000000/\al q<=100000000/\K (pQ (timesQ (av p) (av q)))) b) a):=propext Iff.rfl
@[congr] theorem QbF{K}{l l'}(h:l=l'):ZY l K=ZY l' K:=by subst h;rfl
attribute [go_sem,go_sem ↓] kaf
def Xa9(l:List AV)(K:AV->Prop):Prop:=
 match l with
 | [a]=>onA (λp=>al p<=100000000/\vldR p.1=true/\K (pQ (barQ (av p)))) a
 | _=>False
theorem waS a K:Xa9 [a] K=(onA (λp=>al p<=100000000/\vldR p.1=true/\K (pQ (barQ (av p)))) a):=propext Iff.rfl
@[congr] theorem xbV{K}{l l'}(h:l=l'):Xa9 l K=Xa9 l' K:=by subst h;rfl
attribute [go_sem,go_sem ↓] waS
def xan(tE:Nat)(l:List AV)(K:AV->Prop):Prop:=
 match l with
 | [a,b,c]=>onPs (λl=>onA (λm=>onA (λn=>okPs 1000 l/\al m<=10000/\al n<=10000/\K (.tup [cqA (if lkC l m n=0 then lnkQ (imgs l m) (imgs l n) (av m) (av n) else c0),errV tE (lkC l m n)])) c) b) a
 | _=>False
theorem zax tE a b c K:xan tE [a,b,c] K=(onPs (λl=>onA (λm=>onA (λn=>okPs 1000 l/\al m<=10000/\al n<=10000/\K (.tup [cqA (if lkC l m n=0 then lnkQ (imgs l m) (imgs l n) (av m) (av n) else c0),errV tE (lkC l m n)])) c) b) a):=propext Iff.rfl
@[congr] theorem WbM tE{K}{l l'}(h:l=l'):xan tE l K=xan tE l' K:=by subst h;rfl
attribute [go_sem,go_sem ↓] zax
def jaj(l:List AV)(K:AV->Prop):Prop:=
 match l with
 | [a,b,c]=>onPs (λl=>onA (λm=>onA (λn=>okPs 1000 l/\al m<=10000/\al n<=10000/\l.length=3/\K (.tup [cqA (if lnkC (imgs l m) (imgs l n) (av m) (av n)=0 then lnkQ (imgs l m) (imgs l n) (av m) (av n) else c0),.one (.lit (.int .i64 (lnkC (imgs l m) (imgs l n) (av m) (av n):Nat)))])) c) b) a
 | _=>False
theorem kaq a b c K:jaj [a,b,c] K=(onPs (λl=>onA (λm=>onA (λn=>okPs 1000 l/\al m<=10000/\al n<=10000/\l.length=3/\K (.tup [cqA (if lnkC (imgs l m) (imgs l n) (av m) (av n)=0 then lnkQ (imgs l m) (imgs l n) (av m) (av n) else c0),.one (.lit (.int .i64 (lnkC (imgs l m) (imgs l n) (av m) (av n):Nat)))])) c) b) a):=propext Iff.rfl
@[congr] theorem ubL{K}{l l'}(h:l=l'):jaj l K=jaj l' K:=by subst h;rfl
attribute [go_sem,go_sem ↓] kaq
end Go.Abs
end
section
namespace Go.Num
open Go.Abs
abbrev Cp5:=R×R×R×R×R
instance decC5:DecidableEq Cp5:=λa b=>decidable_of_iff (a.1=b.1/\a.2.1=b.2.1/\a.2.2.1=b.2.2.1/\a.2.2.2.1=b.2.2.2.1/\a.2.2.2.2=b.2.2.2.2) ⟨λ⟨h1,h2,h3,h4,h5⟩=>Prod.ext h1 (Prod.ext h2 (Prod.ext h3 (Prod.ext h4 h5))),λh=>by subst h;exact⟨rfl,rfl,rfl,rfl,rfl⟩⟩
instance decCp:DecidableEq Cp:=λa b=>decidable_of_iff (a.1=b.1/\a.2.1=b.2.1/\(a.2.2:Cp5)=b.2.2) ⟨λ⟨h1,h2,h3⟩=>Prod.ext h1 (Prod.ext h2 h3),λh=>by subst h;exact⟨rfl,rfl,rfl⟩⟩
end Go.Num
namespace Go.Abs
open Go.Num
variable {P:Program} {Γ:Nat->Spec}
def cpC(c:Cp):List C:=[cb c.1.1,cn c.1.1,cd c.1.1,cb c.1.2,cn c.1.2,cd c.1.2,cb c.2.1.1,cn c.2.1.1,cd c.2.1.1,cb c.2.1.2,cn c.2.1.2,cd c.2.1.2,cb c.2.2.1,cn c.2.2.1,cd c.2.2.1,cb c.2.2.2.1,cn c.2.2.2.1,cd c.2.2.2.1,cb c.2.2.2.2.1,cn c.2.2.2.2.1,cd c.2.2.2.2.1,cb c.2.2.2.2.2.1,cn c.2.2.2.2.2.1,cd c.2.2.2.2.2.1,cb c.2.2.2.2.2.2,cn c.2.2.2.2.2.2,cd c.2.2.2.2.2.2]
def cpA(c:Cp):AV:=.agg (cpC c)
theorem zbA{x y:R}(h1:cb x=cb y)(h2:cn x=cn y)(h3:cd x=cd y):x=y:=Yr _ _ (by simp only [rA];rw [h1,h2,h3])
def onCp(k:Cp->Prop)(a:AV):Prop:=onE cpA (λc=>WLC c/\k c) a
@[congr] theorem wbR{k:Cp->Prop}{a a'}(h:a=a'):onCp k a=onCp k a':=by subst h;rfl
theorem Jbn(k:Cp->Prop)(a1 a2 a3 b1 b2 b3 c1 c2 c3 d1 d2 d3 e1 e2 e3 f1 f2 f3 g1 g2 g3 h1 h2 h3 i1 i2 i3:C):onCp k (.agg [a1,a2,a3,b1,b2,b3,c1,c2,c3,d1,d2,d3,e1,e2,e3,f1,f2,f3,g1,g2,g3,h1,h2,h3,i1,i2,i3]) =
  onO (λa=>onO (λb=>onO (λc=>onO (λd=>onO (λe=>onO (λf=>onO (λg=>onO (λh=>onO (λi=>WLC ((a,b),(c,d),e,f,g,h,i)/\k ((a,b),(c,d),e,f,g,h,i)) (dR i1 i2 i3)) (dR h1 h2 h3)) (dR g1 g2 g3)) (dR f1 f2 f3)) (dR e1 e2 e3)) (dR d1 d2 d3)) (dR c1 c2 c3)) (dR b1 b2 b3)) (dR a1 a2 a3):=by
 refine propext ⟨λ⟨t,h,hh⟩=>?_,λh=>?_⟩
 .simp only [cpA,cpC,AV.agg.injEq,List.cons.injEq,and_true]at h;obtain⟨rfl,rfl,rfl,rfl,rfl,rfl,rfl,rfl,rfl,rfl,rfl,rfl,rfl,rfl,rfl,rfl,rfl,rfl,rfl,rfl,rfl,rfl,rfl,rfl,rfl,rfl,rfl⟩:=h;simp only [dR_e,ZK];exact hh
 .obtain⟨a,ha,q1⟩:=qc.1 h;obtain⟨b,hb,q2⟩:=qc.1 q1;obtain⟨c,hc,q3⟩:=qc.1 q2;obtain⟨d,hd,q4⟩:=qc.1 q3;obtain⟨e,he,q5⟩:=qc.1 q4;obtain⟨f,hf,q6⟩:=qc.1 q5;obtain⟨g,hg,q7⟩:=qc.1 q6;obtain⟨hh,hhh,q8⟩:=qc.1 q7;obtain⟨i,hi,q9⟩:=qc.1 q8;obtain⟨rfl,rfl,rfl⟩:=jc.1 ha;obtain⟨rfl,rfl,rfl⟩:=jc.1 hb;obtain⟨rfl,rfl,rfl⟩:=jc.1 hc;obtain⟨rfl,rfl,rfl⟩:=jc.1 hd;obtain⟨rfl,rfl,rfl⟩:=jc.1 he;obtain⟨rfl,rfl,rfl⟩:=jc.1 hf;obtain⟨rfl,rfl,rfl⟩:=jc.1 hg;obtain⟨rfl,rfl,rfl⟩:=jc.1 hhh;obtain⟨rfl,rfl,rfl⟩:=jc.1 hi;exact⟨((a,b),(c,d),e,f,g,hh,i),rfl,q9⟩
attribute [go_sem,go_sem ↓] Jbn
def vX(l:List AV)(K:AV->Prop):Prop:=
 match l with
 | [a,b]=>onCp (λc=>onCp (λd=>cl c<=4294967296/\K (.one (.lit (.bool (decide (c=d)))))) b) a
 | _=>False
theorem waf a b K:vX [a,b] K=(onCp (λc=>onCp (λd=>cl c<=4294967296/\K (.one (.lit (.bool (decide (c=d)))))) b) a):=propext Iff.rfl
@[congr] theorem VbG{K}{l l'}(h:l=l'):vX l K=vX l' K:=by subst h;rfl
attribute [go_sem,go_sem ↓] waf
def uD(l:List AV)(K:AV->Prop):Prop:=
 match l with
 | [a,b,c]=>onPs (λl=>onDy (λd=>onA (λn=>okPs 1048576 l/\dl d<=1048576/\al n<=1048576/\K (.one (.lit (.bool true)))) c) b) a
 | _=>False
theorem uI a b c K:uD [a,b,c] K=(onPs (λl=>onDy (λd=>onA (λn=>okPs 1048576 l/\dl d<=1048576/\al n<=1048576/\K (.one (.lit (.bool true)))) c) b) a):=propext Iff.rfl
@[congr] theorem Zbk{K}{l l'}(h:l=l'):uD l K=uD l' K:=by subst h;rfl
attribute [go_sem,go_sem ↓] uI
end Go.Abs
end
section
namespace Go.Num
open Go.Abs
theorem Wbu{p q:BQ}(h:mcs p=mcs q):p=q:=by rw [<-JE p,h,JE]
theorem YI{p:BQ}{N:Nat}(h:sz p<=N):∀t∈mcs p,rl t.2.2<=N:=λt ht=>by
 obtain⟨u,hu,rfl⟩:=List.mem_map.1 ht;have h1:=wbe hu;have h2:rl (mcan u).2.2=rz u.2.2:=rfl;omega
theorem vZ{p q:BQ}(hp:Canon p)(hq:Canon q):chk2 (mcs p) (mcs q)=0:=by unfold chk2;rw [ZH hp,if_neg (by decide),ZH hq]
theorem ube{p q:BQ}(hp:Canon p)(hq:Canon q)(hd:degB p+degB q<=24):mulC (mcs p) (mcs q)=0:=by
 unfold mulC;rw [vZ hp hq,if_neg (by decide),Uv,Uv,if_neg (by omega)]
theorem zaX{p:BQ}(hp:Canon p){d:Nat}(hd:Deg d p):degB p<=d:=by
 unfold degB;cases hl:p.getLast? with
 | none=>simp only;omega
 | some u=>exact hd u (List.mem_of_getLast? hl)
theorem PB.dd{d s e t:Nat}{p q:BQ}(hp:PB d s p)(hq:PB e t q)(h:d+e<=24):degB p+degB q<=24:=by
 have h1:=zaX hp.canon hp.deg;have h2:=zaX hq.canon hq.deg;omega
theorem Wa1{p q:BQ}(hp:Canon p)(hq:Canon q):Canon (addB p q):=qn (zh.2 ⟨hp.ins,hq.ins⟩)
theorem yaO{p q:BQ}(hp:Canon p)(hq:Canon q):Canon (subB p q):=qn (zh.2 ⟨hp.ins,yY hq.ins⟩)
theorem vaM{p q:BQ}(hp:Canon p)(hq:Canon q)(hd:degB p+degB q<=24):Canon (mulB p q):=by
 refine qn λt ht=>?_;obtain⟨a,ha,hb⟩:=List.mem_flatMap.1 ht;obtain⟨b,hb',rfl⟩:=List.mem_map.1 hb;obtain⟨x1,x2,x3⟩:=hp.ins a ha;obtain⟨y1,y2,y3⟩:=hq.ins b hb';have h1:=QN hp a ha;have h2:=QN hq b hb';unfold inQ mulT;simp only;omega
end Go.Num
namespace Go.Abs
open Go.Num
variable {P:Program} {Γ:Nat->Spec}
def bC(p:BQ):C:=.slice ((mcs p).map mC)
def onB(k:BQ->Prop)(a:AV):Prop:=∃p,a=.one (bC p)/\Canon p/\k p
@[congr] theorem zb1{k:BQ->Prop}{a a'}(h:a=a'):onB k a=onB k a':=by subst h;rfl
theorem WT{p q:BQ}(h:bC p=bC q):p=q:=by
 simp only [bC,C.slice.injEq]at h;exact Wbu (zo h)
theorem wbF(k:BQ->Prop)(p:BQ):onB k (.one (bC p))=(Canon p/\k p):=by
 refine propext ⟨λ⟨x,h,h1,h2⟩=>?_,λh=>⟨p,rfl,h⟩⟩;simp only [AV.one.injEq]at h;have:=WT h;subst this;exact⟨h1,h2⟩
theorem zbv(k:BQ->Prop)(p:BQ):onB k (.one (.slice ((mcs p).map mC)))=(Canon p/\k p):=wbF k p
theorem uai{β:Type}{T:BQ->(β->Prop)->Prop}(h:∀p,GoodT (T p)){a:AV}:GoodT λK=>onB (λp=>T p K) a:=
 .of λK hx=>by
  obtain⟨p,rfl,hc,hk⟩:=hx;have:(λK=>onB (λp=>T p K) (.one (bC p)))=λK=>Canon p/\T p K:=funext λK=>wbF _ p;rw [this];exact .and λ_=>h p
def onV(k:BQ×BQ->Prop)(a:AV):Prop:=∃p q,a=.agg [bC p,bC q]/\(Canon p/\Canon q)/\k (p,q)
@[congr] theorem Xb0{k:BQ×BQ->Prop}{a a'}(h:a=a'):onV k a=onV k a':=by subst h;rfl
theorem wbS(k:BQ×BQ->Prop)(p q:BQ):onV k (.agg [bC p,bC q])=((Canon p/\Canon q)/\k (p,q)):=by
 refine propext ⟨λ⟨x,y,h,h1,h2⟩=>?_,λh=>⟨p,q,rfl,h⟩⟩;simp only [AV.agg.injEq,List.cons.injEq,and_true]at h;obtain⟨e1,e2⟩:=h;have:=WT e1;have:=WT e2
 subst_vars;exact⟨h1,h2⟩
theorem QbG(k:BQ×BQ->Prop)(p q:BQ):onV k (.agg [.slice ((mcs p).map mC),.slice ((mcs q).map mC)])=((Canon p/\Canon q)/\k (p,q)):=wbS k p q
theorem XbH(p:BQ):bC p=.slice ((mcs p).map mC):=eq_of_heq (HEq.refl _)
attribute [go_sem,go_sem ↓] zbv QbG XbH
def Uq(l:List AV)(K:AV->Prop):Prop:=
 match l with
 | [p,e]=>e=.one (.lit .nilIface)/\onB (λp=>K (.one (bC p))) p
 | _=>False
theorem Xav p e K:Uq [p,e] K=(e=.one (.lit .nilIface)/\onB (λp=>K (.one (bC p))) p):=propext Iff.rfl
@[congr] theorem UbL{K}{l l'}(h:l=l'):Uq l K=Uq l' K:=by subst h;rfl
attribute [go_sem,go_sem ↓] Xav
theorem UaG:Good Uq:=Wa λas=>by
 unfold Uq;split
 .exact(.and λ_=>(uai λ_=>(.ret _)))
 .exact .of λK hk=>hk.elim
def JD(l:List AV)(K:AV->Prop):Prop:=
 match l with
 | [a,b]=>onB (λp=>onB (λq=>sz p+sz q<=1000000000/\K (.one (bC (addB p q)))) b) a
 | _=>False
theorem za0 a b K:JD [a,b] K=(onB (λp=>onB (λq=>sz p+sz q<=1000000000/\K (.one (bC (addB p q)))) b) a):=propext Iff.rfl
@[congr] theorem UbX{K}{l l'}(h:l=l'):JD l K=JD l' K:=by subst h;rfl
attribute [go_sem,go_sem ↓] za0
theorem qaQ:Good JD:=Wa λas=>by
 unfold JD;split
 .exact(uai λ_=>(uai λ_=>(.and λ_=>(.ret _))))
 .exact .of λK hk=>hk.elim
def yC(l:List AV)(K:AV->Prop):Prop:=
 match l with
 | [a,b]=>onB (λp=>onB (λq=>sz p+sz q<=1000000000/\K (.one (bC (subB p q)))) b) a
 | _=>False
theorem VaM a b K:yC [a,b] K=(onB (λp=>onB (λq=>sz p+sz q<=1000000000/\K (.one (bC (subB p q)))) b) a):=propext Iff.rfl
@[congr] theorem ubX{K}{l l'}(h:l=l'):yC l K=yC l' K:=by subst h;rfl
attribute [go_sem,go_sem ↓] VaM
theorem qa8:Good yC:=Wa λas=>by
 unfold yC;split
 .exact(uai λ_=>(uai λ_=>(.and λ_=>(.ret _))))
 .exact .of λK hk=>hk.elim
def JC(l:List AV)(K:AV->Prop):Prop:=
 match l with
 | [a,b]=>onB (λp=>onB (λq=>sz p+sz q<=3000000/\degB p+degB q<=24/\K (.one (bC (mulB p q)))) b) a
 | _=>False
theorem ya5 a b K:JC [a,b] K=(onB (λp=>onB (λq=>sz p+sz q<=3000000/\degB p+degB q<=24/\K (.one (bC (mulB p q)))) b) a):=propext Iff.rfl
@[congr] theorem kbV{K}{l l'}(h:l=l'):JC l K=JC l' K:=by subst h;rfl
attribute [go_sem,go_sem ↓] ya5
theorem yaZ:Good JC:=Wa λas=>by
 unfold JC;split
 .exact(uai λ_=>(uai λ_=>(.and λ_=>(.and λ_=>(.ret _)))))
 .exact .of λK hk=>hk.elim
def W0(l:List AV)(K:AV->Prop):Prop:=
 match l with
 | [a,x]=>onB (λp=>onR (λx=>rl x<=1000000/\sz p<=100000000/\K (.one (bC (sclB (rv x) p)))) x) a
 | _=>False
theorem Wab a x K:W0 [a,x] K=(onB (λp=>onR (λx=>rl x<=1000000/\sz p<=100000000/\K (.one (bC (sclB (rv x) p)))) x) a):=propext Iff.rfl
@[congr] theorem QbB{K}{l l'}(h:l=l'):W0 l K=W0 l' K:=by subst h;rfl
attribute [go_sem,go_sem ↓] Wab
def Ja5(l:List AV)(K:AV->Prop):Prop:=
 match l with
 | [b,x]=>asBool (λb=>onR (λx=>rl x<=1000000/\K (.one (bC (linB b (rv x))))) x) b
 | _=>False
theorem ua3 b x K:Ja5 [b,x] K=(asBool (λb=>onR (λx=>rl x<=1000000/\K (.one (bC (linB b (rv x))))) x) b):=propext Iff.rfl
@[congr] theorem XbZ{K}{l l'}(h:l=l'):Ja5 l K=Ja5 l' K:=by subst h;rfl
attribute [go_sem,go_sem ↓] ua3
def xaY(l:List AV)(K:AV->Prop):Prop:=
 match l with
 | [x]=>onR (λx=>rl x<=1000000/\vldR x=true/\K (.one (bC (conB (rv x))))) x
 | _=>False
theorem kaN x K:xaY [x] K=(onR (λx=>rl x<=1000000/\vldR x=true/\K (.one (bC (conB (rv x))))) x):=propext Iff.rfl
@[congr] theorem xbW{K}{l l'}(h:l=l'):xaY l K=xaY l' K:=by subst h;rfl
attribute [go_sem,go_sem ↓] kaN
def vf:AC:=(.seq (.ops false [.m 6 (.c (.one .emp))])
 (.fg [0,1,2] (.seq (.seq (.ops false [.m 7 (.t 0),.u 8 (.nilck (.t 7)),.u 9 (.fa 0 (.t 8)),.u 10 (.ld none 1 false (.t 9)),.u 11 (.binn .eql (.t 10) (.c (.one (.lit .nilIface))))])
 (.fg [0,1,2,11] (.cond (.t 11) (.ops false [.m 12 (.t 0),.m 13 (.t 2),.u 14 (.nilck (.t 12)),.u 15 (.fa 0 (.t 14)),.n (.st none 1 (.t 15) (.t 13))]) .skip)))
 (.fg [1] (.seq (.ops false [.m 16 (.t 1),.m 6 (.t 16)])
 .ret)))))
def Vg(f0 f1:Nat):AC:=(.seq (.ops false [.m 6 (.c (.one .emp))])
 (.fg [0,1,2] (.seq (.ops false [.m 7 (.t 0),.m 8 (.t 1),.m 9 (.t 2),.u 10 (.call f0 [(.t 8),(.t 9)]),.u 11 (.ext 0 (.t 10)),.u 12 (.ext 1 (.t 10)),.u 13 (.callr f1 [(.t 7),(.t 11),(.t 12)]),.m 6 (.t 13)])
 .ret)))
def uf(f0 f1:Nat):AC:=(.seq (.ops false [.m 6 (.c (.one .emp))])
 (.fg [0,1,2] (.seq (.ops false [.m 7 (.t 0),.m 8 (.t 1),.m 9 (.t 2),.u 10 (.call f0 [(.t 8),(.t 9)]),.u 11 (.ext 0 (.t 10)),.u 12 (.ext 1 (.t 10)),.u 13 (.callr f1 [(.t 7),(.t 11),(.t 12)]),.m 6 (.t 13)])
 .ret)))
def Zg(f0 f1:Nat):AC:=(.seq (.ops false [.m 6 (.c (.one .emp))])
 (.fg [0,1,2] (.seq (.ops false [.m 7 (.t 0),.m 8 (.t 1),.m 9 (.t 2),.u 10 (.call f0 [(.t 8),(.t 9)]),.u 11 (.ext 0 (.t 10)),.u 12 (.ext 1 (.t 10)),.u 13 (.callr f1 [(.t 7),(.t 11),(.t 12)]),.m 6 (.t 13)])
 .ret)))
theorem XI{h:Nat->HB}{r ver:Nat}(hr:h r=⟨ver,some mk0⟩):upd h r ⟨ver,some ⟨[[.lit .nilIface]],1,true⟩⟩=h:=ubc hr
theorem Wam(hΓ:Holds P Γ){f:Nat}(hc:check P f=some (17,vf.strip,[.tmp 6])):Sound P f (.red Uq):=by
 refine Jq hc UaG hΓ (λrest h r ver K hr hcl hfi hG=>?_);match rest,hG with
 | [a,b],hG=>
  obtain⟨rfl,p,rfl,hp,hK⟩:=hG;refine⟨by simp,?_⟩
  simp only [go_sem,vf,hr];rw [XI hr];exact hK
theorem JaI(hΓ:Holds P Γ){f fa ft tE:Nat}(ha:Γ fa=.dat false (wG tE))(ht:Γ ft=.red Uq)(hc:check P f=some (14,(Vg fa ft).strip,[.tmp 6])):Sound P f (.red JD):=by
 refine Jq hc qaQ hΓ (λrest h r ver K hr hcl hfi hG=>?_);match rest,hG with
 | [a,b],hG=>
  obtain⟨p,rfl,hp,q,rfl,hq,hsz,hK⟩:=hG;refine⟨by simp,?_⟩
  have hc0:=vZ hp hq;have hrp:=YI (p:=p) (N:=4294967296) (by omega)
  have hrq:=YI (p:=q) (N:=4294967296) (by omega)
  simp only [go_sem,Vg,hr,ha,ht,hc0,JE,qF,Zc];refine⟨wC hp.ins,wC hq.ins,hrp,hrq,hsz,Wa1 hp hq,?_⟩;rw [XI hr];exact hK
theorem waI(hΓ:Holds P Γ){f fa ft tE:Nat}(ha:Γ fa=.dat false (xF tE))(ht:Γ ft=.red Uq)(hc:check P f=some (14,(uf fa ft).strip,[.tmp 6])):Sound P f (.red yC):=by
 refine Jq hc qa8 hΓ (λrest h r ver K hr hcl hfi hG=>?_);match rest,hG with
 | [a,b],hG=>
  obtain⟨p,rfl,hp,q,rfl,hq,hsz,hK⟩:=hG;refine⟨by simp,?_⟩
  have hc0:=vZ hp hq;have hrp:=YI (p:=p) (N:=1000000000) (by omega)
  have hrq:=YI (p:=q) (N:=1000000000) (by omega)
  simp only [go_sem,uf,hr,ha,ht,hc0,JE,qF,Zc];refine⟨wC hp.ins,wC hq.ins,hrp,hrq,hsz,yaO hp hq,?_⟩;rw [XI hr];exact hK
theorem YaH(hΓ:Holds P Γ){f fa ft tE:Nat}(ha:Γ fa=.dat false (yF tE))(ht:Γ ft=.red Uq)(hc:check P f=some (14,(Zg fa ft).strip,[.tmp 6])):Sound P f (.red JC):=by
 refine Jq hc yaZ hΓ (λrest h r ver K hr hcl hfi hG=>?_);match rest,hG with
 | [a,b],hG=>
  obtain⟨p,rfl,hp,q,rfl,hq,hsz,hd,hK⟩:=hG;refine⟨by simp,?_⟩
  have hc0:=ube hp hq hd;have hrp:=YI (p:=p) (N:=1000000000) (by omega)
  have hrq:=YI (p:=q) (N:=1000000000) (by omega)
  simp only [go_sem,Zg,hr,ha,ht,hc0,JE,qF,Zc];refine⟨wC hp.ins,wC hq.ins,hrp,hrq,hsz,vaM hp hq hd,?_⟩;rw [XI hr];exact hK
end Go.Abs
end
section
namespace Go.Num
open Go.Abs
def cps3(c:Cp):List R:=[c.2.2.1,c.2.2.2.1,c.2.2.2.2.1]
def cps5(c:Cp):List R:=[c.2.2.1,c.2.2.2.1,c.2.2.2.2.1,c.2.2.2.2.2.1,c.2.2.2.2.2.2]
def gt0R(x:R):Bool:=decide (0<rv x)
def cchk(c:Cp):Nat:=if avld c.1=false∨avld c.2.1=false then 2 else if (cps5 c).all vldR=false then 2 else if (cps3 c).all gt0R=false then 3 else if av c.1=av c.2.1 then 8 else 0
def cpv(c:Cp):CpR:=(av c.1,av c.2.1,rv c.2.2.1,rv c.2.2.2.1,rv c.2.2.2.2.1,rv c.2.2.2.2.2.1,rv c.2.2.2.2.2.2)
def cchk2(c:Cp)(l:List Arc):Nat:=if cchk c≠0 then cchk c else if l.all avld=false then 2 else 0
end Go.Num
namespace Go.Abs
open Go.Num
variable {P:Program} {Γ:Nat->Spec}
def va7(l:List AV)(K:AV->Prop):Prop:=
 match l with
 | [a,b]=>onR (λx=>onR (λy=>rl x<=100000000/\rl y<=100000000/\K (rQ (sqQ (rv x,rv y)))) b) a
 | _=>False
theorem qaW a b K:va7 [a,b] K=(onR (λx=>onR (λy=>rl x<=100000000/\rl y<=100000000/\K (rQ (sqQ (rv x,rv y)))) b) a):=propext Iff.rfl
@[congr] theorem vbW{K}{l l'}(h:l=l'):va7 l K=va7 l' K:=by subst h;rfl
attribute [go_sem,go_sem ↓] qaW
def vbw(l:List AV)(K:AV->Prop):Prop:=
 match l with
 | [a,b,c]=>onA (λp=>onR (λu=>onR (λv=>al p<=100000000/\rl u<=100000000/\rl v<=100000000/\K (pQ (timQ (av p) (rv u) (rv v)))) c) b) a
 | _=>False
theorem ybg a b c K:vbw [a,b,c] K=(onA (λp=>onR (λu=>onR (λv=>al p<=100000000/\rl u<=100000000/\rl v<=100000000/\K (pQ (timQ (av p) (rv u) (rv v)))) c) b) a):=propext Iff.rfl
@[congr] theorem vb1{K}{l l'}(h:l=l'):vbw l K=vbw l' K:=by subst h;rfl
attribute [go_sem,go_sem ↓] ybg
def waU(l:List AV)(K:AV->Prop):Prop:=
 match l with
 | [a,b]=>onA (λp=>onA (λq=>al p<=10000000/\al q<=10000000/\K (rQ (sqQ (subQ (av p) (av q))))) b) a
 | _=>False
theorem JaX a b K:waU [a,b] K=(onA (λp=>onA (λq=>al p<=10000000/\al q<=10000000/\K (rQ (sqQ (subQ (av p) (av q))))) b) a):=propext Iff.rfl
@[congr] theorem YbT{K}{l l'}(h:l=l'):waU l K=waU l' K:=by subst h;rfl
attribute [go_sem,go_sem ↓] JaX
def jaP(tE:Nat)(l:List AV)(K:AV->Prop):Prop:=
 match l with
 | [a]=>onCp (λc=>cl c<=100000000/\K (errV tE (cchk c))) a
 | _=>False
theorem kaP tE a K:jaP tE [a] K=(onCp (λc=>cl c<=100000000/\K (errV tE (cchk c))) a):=propext Iff.rfl
@[congr] theorem QbY tE{K}{l l'}(h:l=l'):jaP tE l K=jaP tE l' K:=by subst h;rfl
attribute [go_sem,go_sem ↓] kaP
def qaj(tE:Nat)(l:List AV)(K:AV->Prop):Prop:=
 match l with
 | [a,b]=>onCp (λc=>onAs (λl=>cl c<=100000000/\okAs 100000000 l/\K (errV tE (cchk2 c l))) b) a
 | _=>False
theorem Xax tE a b K:qaj tE [a,b] K=(onCp (λc=>onAs (λl=>cl c<=100000000/\okAs 100000000 l/\K (errV tE (cchk2 c l))) b) a):=propext Iff.rfl
@[congr] theorem UbP tE{K}{l l'}(h:l=l'):qaj tE l K=qaj tE l' K:=by subst h;rfl
attribute [go_sem,go_sem ↓] Xax
def Ye(f0:Nat):AC:=(.seq (.ops false [.u 1 (.box 6 (.t 0)),.m 2 .fa])
 (.fg [1] (.seq (.ops false [.u 3 (.fa 0 (.t 1)),.u 4 (.ld none 3 true (.t 3)),.u 5 (.call f0 [(.t 4)]),.m 6 (.t 5),.w 7 6 true (.fa 3 (.t 1)),.w 8 6 true (.ld none 3 true (.t 7)),.w 9 6 true (.call f0 [(.t 8)]),.u 10 (.pick (.t 6) (.t 9) .fa),.m 2 (.t 10)])
 .ret)))
def qp(f0:Nat):AC:=(.seq (.ops false [.u 2 (.box 6 (.t 0)),.u 3 (.box 6 (.t 1)),.u 4 (.alloc [(.lit (.bool false)),.emp,.emp,(.lit (.bool false)),.emp,.emp])])
 (.fg [2,3,4] (.seq (.ops true [.u 5 (.fa 0 (.t 2)),.u 6 (.ld none 3 true (.t 5)),.u 7 (.fa 0 (.t 3)),.u 8 (.ld none 3 true (.t 7)),.u 9 (.call f0 [(.t 6),(.t 8)]),.u 10 (.fa 3 (.t 2)),.u 11 (.ld none 3 true (.t 10)),.u 12 (.fa 3 (.t 3)),.u 13 (.ld none 3 true (.t 12)),.u 14 (.call f0 [(.t 11),(.t 13)]),.u 15 (.build [.x 3 (.t 9),.x 3 (.t 14)]),.n (.st none 6 (.t 4) (.t 15))])
 .ret)))
def Wx(f0:Nat):AC:=(.seq (.ops false [.u 2 (.box 6 (.t 0)),.u 3 (.box 6 (.t 1)),.u 4 (.alloc [(.lit (.bool false)),.emp,.emp,(.lit (.bool false)),.emp,.emp])])
 (.fg [2,3,4] (.seq (.ops true [.u 5 (.fa 0 (.t 2)),.u 6 (.ld none 3 true (.t 5)),.u 7 (.fa 0 (.t 3)),.u 8 (.ld none 3 true (.t 7)),.u 9 (.call f0 [(.t 6),(.t 8)]),.u 10 (.fa 3 (.t 2)),.u 11 (.ld none 3 true (.t 10)),.u 12 (.fa 3 (.t 3)),.u 13 (.ld none 3 true (.t 12)),.u 14 (.call f0 [(.t 11),(.t 13)]),.u 15 (.build [.x 3 (.t 9),.x 3 (.t 14)]),.n (.st none 6 (.t 4) (.t 15))])
 .ret)))
theorem YB(hΓ:Holds P Γ){f fv:Nat}(hv:Γ fv=.dat true wd)(hc:check P f=some (11,(Ye fv).strip,[.tmp 2])):Sound P f (.dat true ke):=by
 refine ka hc yal hΓ (λargs K hcl hfi hG=>?_);match args,hG with
 | [a],hG=>
  obtain⟨⟨x,y⟩,rfl,⟨wx,wy⟩,hl,hK⟩:=hG;refine⟨by simp,?_⟩
  have hl':=Nat.max_le.1 hl;simp only at wx wy hl';unfold avld at hK;simp only at hK;cases hx:vldR x with
  | true=>
   rw [hx,Bool.true_and]at hK;simp only [go_sem,Ye,hv,kb,hx];repeat first | refine Ja (by omega) ?_ | refine Ja (by assumption) ?_ | refine Ja rfl ?_ | refine Ja ⟨rfl,by omega⟩ ?_ | refine Ja ⟨rfl,by omega,by omega⟩ ?_ | intro _
   exact hK
  | false=>
   rw [hx,Bool.false_and]at hK;simp only [go_sem,Ye,hv,kb,hx];repeat first | refine Ja (by omega) ?_ | refine Ja (by assumption) ?_ | refine Ja rfl ?_ | refine Ja ⟨rfl,by omega⟩ ?_ | refine Ja ⟨rfl,by omega,by omega⟩ ?_ | intro _
   exact hK
theorem qK(hΓ:Holds P Γ){f fs:Nat}(hs:Γ fs=.dat false Wq)(hc:check P f=some (16,(qp fs).strip,[.cell 4 6 true])):Sound P f (.dat false qo):=by
 refine ka hc UaJ hΓ (λargs K hcl hfi hG=>?_);match args,hG with
 | [a,b],hG=>
  obtain⟨⟨x,y⟩,rfl,⟨wx,wy⟩,⟨u,v⟩,rfl,⟨wu,wv⟩,hl,hl2,hK⟩:=hG;refine⟨by simp,?_⟩
  have hl':=Nat.max_le.1 hl;have hl2':=Nat.max_le.1 hl2;simp only at wx wy wu wv hl' hl2';simp only [go_sem,qp,hs,kb];repeat first | refine Ja (by omega) ?_ | refine Ja (by assumption) ?_ | refine Ja rfl ?_ | refine Ja ⟨rfl,by omega⟩ ?_ | refine Ja ⟨rfl,by omega,by omega⟩ ?_ | intro _
  exact hK
theorem qak(hΓ:Holds P Γ){f fs:Nat}(hs:Γ fs=.dat false yi)(hc:check P f=some (16,(Wx fs).strip,[.cell 4 6 true])):Sound P f (.dat false Qo):=by
 refine ka hc jU hΓ (λargs K hcl hfi hG=>?_);match args,hG with
 | [a,b],hG=>
  obtain⟨⟨x,y⟩,rfl,⟨wx,wy⟩,⟨u,v⟩,rfl,⟨wu,wv⟩,hl,hl2,hK⟩:=hG;refine⟨by simp,?_⟩
  have hl':=Nat.max_le.1 hl;have hl2':=Nat.max_le.1 hl2;simp only at wx wy wu wv hl' hl2';simp only [go_sem,Wx,hs,kb];repeat first | refine Ja (by omega) ?_ | refine Ja (by assumption) ?_ | refine Ja rfl ?_ | refine Ja ⟨rfl,by omega⟩ ?_ | refine Ja ⟨rfl,by omega,by omega⟩ ?_ | intro _
  exact hK
end Go.Abs
end
section
namespace Go.Num
open Go.Abs
def tOk(v:BQ×BQ)(u w:Rat):Prop:=PB 1 4006 v.1/\PB 1 4006 v.2/\rz u<=4004/\rz w<=4004
def nOk(v:BQ×BQ):Prop:=∃d s,PB d s v.1/\PB d s v.2/\d+d<=24/\s<=1000000
theorem PB.mulok{d s e t:Nat}{p q:BQ}(hp:PB d s p)(hq:PB e t q)(h:d+e<=24)(h2:s+t<=3000000):sz p+sz q<=3000000/\degB p+degB q<=24:=
 ⟨by have:=hp.size;have:=hq.size;omega,hp.dd hq h⟩
end Go.Num
namespace Go.Abs
open Go.Num
variable {P:Program} {Γ:Nat->Spec}
def ya8(l:List AV)(K:AV->Prop):Prop:=
 match l with
 | [v,u,w]=>onV (λv=>onR (λu=>onR (λw=>tOk v (rv u) (rv w)/\rl u<=1000000/\rl w<=1000000/\K (.agg [bC (timB v (rv u) (rv w)).1,bC (timB v (rv u) (rv w)).2])) w) u) v
 | _=>False
theorem XaV v u w K:ya8 [v,u,w] K=(onV (λv=>onR (λu=>onR (λw=>tOk v (rv u) (rv w)/\rl u<=1000000/\rl w<=1000000/\K (.agg [bC (timB v (rv u) (rv w)).1,bC (timB v (rv u) (rv w)).2])) w) u) v):=propext Iff.rfl
@[congr] theorem jb0{K}{l l'}(h:l=l'):ya8 l K=ya8 l' K:=by subst h;rfl
attribute [go_sem,go_sem ↓] XaV
def uaV(l:List AV)(K:AV->Prop):Prop:=
 match l with
 | [v]=>onV (λv=>nOk v/\K (.one (bC (nrmB v)))) v
 | _=>False
theorem Ja2 v K:uaV [v] K=(onV (λv=>nOk v/\K (.one (bC (nrmB v)))) v):=propext Iff.rfl
@[congr] theorem kbS{K}{l l'}(h:l=l'):uaV l K=uaV l' K:=by subst h;rfl
attribute [go_sem,go_sem ↓] Ja2
def Va7(l:List AV)(K:AV->Prop):Prop:=
 match l with
 | [c]=>onCp (λc=>cl c<=4000/\K (.agg [bC (cAl (cpv c)).1,bC (cAl (cpv c)).2,bC (cBe (cpv c)).1,bC (cBe (cpv c)).2,bC (cE (cpv c)),bC (cF (cpv c)),bC (cM (cpv c))])) c
 | _=>False
theorem Ua8 c K:Va7 [c] K=(onCp (λc=>cl c<=4000/\K (.agg [bC (cAl (cpv c)).1,bC (cAl (cpv c)).2,bC (cBe (cpv c)).1,bC (cBe (cpv c)).2,bC (cE (cpv c)),bC (cF (cpv c)),bC (cM (cpv c))])) c):=propext Iff.rfl
@[congr] theorem JbR{K}{l l'}(h:l=l'):Va7 l K=Va7 l' K:=by subst h;rfl
attribute [go_sem,go_sem ↓] Ua8
end Go.Abs
end
section
namespace Go.Num
def ln3(a b c:Rat):BQ:=nf [(1,0,a),(0,1,b),(0,0,c)]
abbrev Rw:=BQ×BQ×BQ
def bXp(p:PsQ):BQ:=ln3 (cosQ p.1) (-sinQ p.1) p.2.1
def bYp(p:PsQ):BQ:=ln3 (sinQ p.1) (cosQ p.1) p.2.2
def rwB(p:PsQ):Rw:=(addB (mulB (bXp p) (bXp p)) (mulB (bYp p) (bYp p)),bXp p,bYp p)
def lsR(a b:Rw):Rw:=(subB a.1 b.1,subB a.2.1 b.2.1,subB a.2.2 b.2.2)
def mnR(a b:Rw):BQ:=subB (mulB a.2.1 b.2.2) (mulB a.2.2 b.2.1)
def ci3(a b c:Rw):BQ:=addB (subB (mulB a.1 (mnR b c)) (mulB b.1 (mnR a c))) (mulB c.1 (mnR a b))
def ciB(p q r s:PsQ):BQ:=ci3 (lsR (rwB q) (rwB p)) (lsR (rwB r) (rwB p)) (lsR (rwB s) (rwB p))
def PsK(p:PsQ):Prop:=rz p.1.1<=1000/\zq p.2<=1000
theorem wbm(a b c:Rat):InQ [(1,0,a),(0,1,b),(0,0,c)]:=λt ht=>by
 simp only [List.mem_cons,List.not_mem_nil,or_false]at ht;rcases ht with rfl | rfl | rfl <;> simp [inQ]
theorem PB.ln3(a b c:Rat):PB 1 (rz a+rz b+rz c+6) (ln3 a b c):=by
 refine⟨qn (wbm a b c),vU λt ht=>?_,?_⟩
 .simp only [List.mem_cons,List.not_mem_nil,or_false]at ht;rcases ht with rfl | rfl | rfl <;> simp
 .refine Nat.le_trans (vaI _) ?_;simp only [sz];omega
theorem vbi(a b c x y:Rat):ev (ln3 a b c) x y=a*x+b*y+c:=by
 unfold ln3;rw [kaO (wbm a b c)];simp [ev,mev,pw];grind
theorem PB.xp{p:PsQ}(h:PsK p):PB 1 9100 (bXp p):=by
 have h1:=JU p.1;have h2:=uU p.1;have h3:=h.1;have h4:rz p.2.1<=1000:=Nat.le_trans (Nat.le_max_left _ _) h.2;have h5:=JM (sinQ p.1);exact(PB.ln3 _ _ _).mono (Nat.le_refl _) (by omega)
theorem PB.yp{p:PsQ}(h:PsK p):PB 1 9100 (bYp p):=by
 have h1:=JU p.1;have h2:=uU p.1;have h3:=h.1;have h4:rz p.2.2<=1000:=Nat.le_trans (Nat.le_max_right _ _) h.2;exact(PB.ln3 _ _ _).mono (Nat.le_refl _) (by omega)
def RB(s n:Nat)(a:Rw):Prop:=PB 2 s a.1/\PB 1 n a.2.1/\PB 1 n a.2.2
theorem VD{p:PsQ}(h:PsK p):RB 109200 9100 (rwB p):=by
 have e:tri (1+1)=3:=rfl;have a1:=(PB.xp h).mul (PB.xp h) (by decide)
 have a2:=(PB.yp h).mul (PB.yp h) (by decide)
 rw [e]at a1 a2;exact⟨(a1.add a2).mono (Nat.le_refl _) (by omega),PB.xp h,PB.yp h⟩
theorem Wbq{s n:Nat}{a b:Rw}(h:RB s n a)(k:RB s n b):RB (s+s) (n+n) (lsR a b):=⟨h.1.sub k.1,h.2.1.sub k.2.1,h.2.2.sub k.2.2⟩
theorem QO{s n:Nat}{a b:Rw}(h:RB s n a)(k:RB s n b):PB 2 (12*n) (mnR a b):=by
 have e:tri (1+1)=3:=rfl;have a1:=h.2.1.mul k.2.2 (by decide)
 have a2:=h.2.2.mul k.2.1 (by decide)
 rw [e]at a1 a2;exact(a1.sub a2).mono (Nat.le_refl _) (by omega)
theorem Yaf{s n:Nat}{a b c:Rw}(h:RB s n a)(k:RB s n b)(l:RB s n c):PB 4 (6*s+6*(12*n)) (mulB a.1 (mnR b c)):=by
 have e:tri (2+1)=6:=rfl;have a1:=h.1.mul (QO k l) (by decide)
 rw [e]at a1;exact a1
theorem zbG{s n:Nat}{a b c:Rw}(h:RB s n a)(k:RB s n b)(l:RB s n c):PB 4 (3*(6*s+6*(12*n))) (ci3 a b c):=
 (((Yaf h k l).sub (Yaf k h l)).add (Yaf l h k)).mono (Nat.le_refl _) (by omega)
theorem rb_d{p q:PsQ}(h:PsK p)(k:PsK q):RB 218400 18200 (lsR (rwB q) (rwB p)):=Wbq (VD k) (VD h)
theorem zbZ{p q r s:PsQ}(h1:PsK p)(h2:PsK q)(h3:PsK r)(h4:PsK s):PB 4 10000000 (ciB p q r s):=
 (zbG (rb_d h1 h2) (rb_d h1 h3) (rb_d h1 h4)).mono (Nat.le_refl _) (by decide)
def detQ(a b c d:V2):Rat:=
 (sqQ b-sqQ a)*((c.1-a.1)*(d.2-a.2)-(c.2-a.2)*(d.1-a.1))-(sqQ c-sqQ a)*((b.1-a.1)*(d.2-a.2)-(b.2-a.2)*(d.1-a.1))+(sqQ d-sqQ a)*((b.1-a.1)*(c.2-a.2)-(b.2-a.2)*(c.1-a.1))
theorem kbs{p:PsQ}(m:V2):ev (bXp p) m.1 m.2=(appQ p m).1:=by
 unfold bXp;rw [vbi];unfold appQ rotQ addQ;simp only;grind
theorem Vbr{p:PsQ}(m:V2):ev (bYp p) m.1 m.2=(appQ p m).2:=by
 unfold bYp;rw [vbi];unfold appQ rotQ addQ;simp only
theorem ybD{p:PsQ}(h:PsK p)(m:V2):ev (rwB p).1 m.1 m.2=sqQ (appQ p m):=by
 have e:(rwB p).1=addB (mulB (bXp p) (bXp p)) (mulB (bYp p) (bYp p)):=rfl;have a1:=PB.xp h;have a2:=PB.yp h;rw [e,Ybi (a1.mul a1 (by decide)) (a2.mul a2 (by decide)),jO a1 a1 (by decide),jO a2 a2 (by decide),kbs,Vbr]
 rfl
theorem jbo{p q:PsQ}(h:PsK p)(k:PsK q)(m:V2):ev (lsR (rwB q) (rwB p)).1 m.1 m.2=sqQ (appQ q m)-sqQ (appQ p m)/\ev (lsR (rwB q) (rwB p)).2.1 m.1 m.2=(appQ q m).1-(appQ p m).1/\ev (lsR (rwB q) (rwB p)).2.2 m.1 m.2=(appQ q m).2-(appQ p m).2:=by
 refine⟨?_,?_,?_⟩
 .show ev (subB _ _) _ _=_;rw [Wac (VD k).1 (VD h).1,ybD k,ybD h]
 .show ev (subB (bXp q) (bXp p)) _ _=_;rw [Wac (PB.xp k) (PB.xp h),kbs,kbs]
 .show ev (subB (bYp q) (bYp p)) _ _=_;rw [Wac (PB.yp k) (PB.yp h),Vbr,Vbr]
theorem UaR{s n:Nat}{a b:Rw}(h:RB s n a)(k:RB s n b)(x y:Rat):ev (mnR a b) x y=ev a.2.1 x y*ev b.2.2 x y-ev a.2.2 x y*ev b.2.1 x y:=by
 unfold mnR;rw [Wac (h.2.1.mul k.2.2 (by decide)) (h.2.2.mul k.2.1 (by decide)),jO h.2.1 k.2.2 (by decide),jO h.2.2 k.2.1 (by decide)]
theorem VbC{s n:Nat}{a b c:Rw}(h:RB s n a)(k:RB s n b)(l:RB s n c)(x y:Rat):ev (ci3 a b c) x y=ev a.1 x y*ev (mnR b c) x y-ev b.1 x y*ev (mnR a c) x y+ev c.1 x y*ev (mnR a b) x y:=by
 unfold ci3;have e:tri (2+1)=6:=rfl;rw [Ybi ((Yaf h k l).sub (Yaf k h l)) (Yaf l h k),Wac (Yaf h k l) (Yaf k h l),jO h.1 (QO k l) (by decide),jO k.1 (QO h l) (by decide),jO l.1 (QO h k) (by decide)]
theorem ubT{p q r s:PsQ}(h1:PsK p)(h2:PsK q)(h3:PsK r)(h4:PsK s)(m:V2):ev (ciB p q r s) m.1 m.2=detQ (appQ p m) (appQ q m) (appQ r m) (appQ s m):=by
 unfold ciB;have b2:=rb_d h1 h2;have b3:=rb_d h1 h3;have b4:=rb_d h1 h4;rw [VbC b2 b3 b4,UaR b3 b4,UaR b2 b4,UaR b2 b3];obtain⟨x1,x2,x3⟩:=jbo h1 h2 m;obtain⟨y1,y2,y3⟩:=jbo h1 h3 m;obtain⟨z1,z2,z3⟩:=jbo h1 h4 m;rw [x1,x2,x3,y1,y2,y3,z1,z2,z3];rfl
def crs(a b c:V2):Rat:=crossQ (subQ b a) (subQ c a)
def dy3(a b c d:V2):Option (V2×V2×V2):=
 if crs a b c≠0 then some (a,b,c) else if crs a b d≠0 then some (a,b,d) else if crs a c d≠0 then some (a,c,d) else if crs b c d≠0 then some (b,c,d) else none
def ctr3(x y z:V2):V2:=ctrQ x (subQ y x) (subQ z x)
end Go.Num
end
section
namespace Go.Num
open Go.Abs
theorem JbU{x y z:R}(h1:vldR x=true)(h2:vldR y=true)(h3:vldR z=true):mkC [(1,0,x),(0,1,y),(0,0,z)]=0:=by
 unfold mkC;rw [if_neg (by simp)]
 simp [mkG,mkT,inM,h1,h2,h3]
theorem ybU(x y z:R):nf (([(1,0,x),(0,1,y),(0,0,z)]:List Mo).map mv)=ln3 (rv x) (rv y) (rv z):=rfl
def rOk(a b:Rw):Prop:=∃s n,RB s n a/\RB s n b/\s<=1000000/\n<=100000
theorem wbu{p q r:PsQ}(h1:PsK p)(h2:PsK q)(h3:PsK r):rOk (lsR (rwB q) (rwB p)) (lsR (rwB r) (rwB p)):=⟨218400,18200,rb_d h1 h2,rb_d h1 h3,by decide,by decide⟩
theorem Vbt{p q:PsQ}(h1:PsK p)(h2:PsK q):rOk (rwB q) (rwB p):=⟨109200,9100,VD h2,VD h1,by decide,by decide⟩
theorem YbF{p:Ps}(h:pvld p=true):tchk p.1=0/\avld p.2=true:=by
 unfold pvld at h;simp only [Bool.and_eq_true,decide_eq_true_eq]at h;exact h
theorem VC{p:Ps}(hw:WLP p)(h:pl p<=1000):PsK (pv p):=
 ⟨Nat.le_trans (ug hw.1) (Nat.le_trans (Nat.le_max_left _ _) h),Nat.le_trans (Y5 hw.2) (Nat.le_trans (Nat.le_max_right _ _) h)⟩
end Go.Num
namespace Go.Abs
open Go.Num
variable {P:Program} {Γ:Nat->Spec}
def onRw(k:Rw->Prop)(a:AV):Prop:=∃p q r,a=.agg [bC p,bC q,bC r]/\(Canon p/\Canon q/\Canon r)/\k (p,q,r)
@[congr] theorem qbW{k:Rw->Prop}{a a'}(h:a=a'):onRw k a=onRw k a':=by subst h;rfl
theorem kbk(k:Rw->Prop)(p q r:BQ):onRw k (.agg [bC p,bC q,bC r])=((Canon p/\Canon q/\Canon r)/\k (p,q,r)):=by
 refine propext ⟨λ⟨x,y,z,h,h1,h2⟩=>?_,λh=>⟨p,q,r,rfl,h⟩⟩;simp only [AV.agg.injEq,List.cons.injEq,and_true]at h;obtain⟨e1,e2,e3⟩:=h;have:=WT e1;have:=WT e2;have:=WT e3
 subst_vars;exact⟨h1,h2⟩
theorem Ybj(k:Rw->Prop)(p q r:BQ):onRw k (.agg [.slice ((mcs p).map mC),.slice ((mcs q).map mC),.slice ((mcs r).map mC)])=((Canon p/\Canon q/\Canon r)/\k (p,q,r)):=kbk k p q r
theorem yas{β:Type}{T:Rw->(β->Prop)->Prop}(h:∀p,GoodT (T p)){a:AV}:GoodT λK=>onRw (λp=>T p K) a:=
 .of λK hx=>by
  obtain⟨p,q,r,rfl,hc,hk⟩:=hx;have:(λK=>onRw (λp=>T p K) (.agg [bC p,bC q,bC r]))=λK=>(Canon p/\Canon q/\Canon r)/\T (p,q,r) K:=funext λK=>kbk _ p q r;rw [this];exact .and λ_=>h (p,q,r)
attribute [go_sem,go_sem ↓] Ybj
def ZG(l:List AV)(K:AV->Prop):Prop:=
 match l with
 | [a,b,c]=>onR (λx=>onR (λy=>onR (λz=>rl x<=1000000/\rl y<=1000000/\rl z<=1000000/\vldR x=true/\vldR y=true/\vldR z=true/\K (.one (bC (ln3 (rv x) (rv y) (rv z))))) c) b) a
 | _=>False
theorem UaN a b c K:ZG [a,b,c] K=(onR (λx=>onR (λy=>onR (λz=>rl x<=1000000/\rl y<=1000000/\rl z<=1000000/\vldR x=true/\vldR y=true/\vldR z=true/\K (.one (bC (ln3 (rv x) (rv y) (rv z))))) c) b) a):=propext Iff.rfl
@[congr] theorem VbZ{K}{l l'}(h:l=l'):ZG l K=ZG l' K:=by subst h;rfl
attribute [go_sem,go_sem ↓] UaN
theorem yaN:Good ZG:=Wa λas=>by
 unfold ZG;split
 .exact(Yn λ_=>(Yn λ_=>(Yn λ_=>(.and λ_=>(.and λ_=>(.and λ_=>(.and λ_=>(.and λ_=>(.and λ_=>(.ret _))))))))))
 .exact .of λK hk=>hk.elim
def uA(l:List AV)(K:AV->Prop):Prop:=
 match l with
 | [a,b]=>onRw (λa=>onRw (λb=>rOk a b/\K (.agg [bC (lsR a b).1,bC (lsR a b).2.1,bC (lsR a b).2.2])) b) a
 | _=>False
theorem Zas a b K:uA [a,b] K=(onRw (λa=>onRw (λb=>rOk a b/\K (.agg [bC (lsR a b).1,bC (lsR a b).2.1,bC (lsR a b).2.2])) b) a):=propext Iff.rfl
@[congr] theorem vbP{K}{l l'}(h:l=l'):uA l K=uA l' K:=by subst h;rfl
attribute [go_sem,go_sem ↓] Zas
theorem uaG:Good uA:=Wa λas=>by
 unfold uA;split
 .exact(yas λ_=>(yas λ_=>(.and λ_=>(.ret _))))
 .exact .of λK hk=>hk.elim
def jF(l:List AV)(K:AV->Prop):Prop:=
 match l with
 | [a,b]=>onRw (λa=>onRw (λb=>rOk a b/\K (.one (bC (mnR a b)))) b) a
 | _=>False
theorem zaO a b K:jF [a,b] K=(onRw (λa=>onRw (λb=>rOk a b/\K (.one (bC (mnR a b)))) b) a):=propext Iff.rfl
@[congr] theorem jbZ{K}{l l'}(h:l=l'):jF l K=jF l' K:=by subst h;rfl
attribute [go_sem,go_sem ↓] zaO
theorem za3:Good jF:=Wa λas=>by
 unfold jF;split
 .exact(yas λ_=>(yas λ_=>(.and λ_=>(.ret _))))
 .exact .of λK hk=>hk.elim
def xH(l:List AV)(K:AV->Prop):Prop:=
 match l with
 | [p]=>onPo (λp=>pl p<=1000/\pvld p=true/\K (.agg [bC (rwB (pv p)).1,bC (rwB (pv p)).2.1,bC (rwB (pv p)).2.2])) p
 | _=>False
theorem WaV p K:xH [p] K=(onPo (λp=>pl p<=1000/\pvld p=true/\K (.agg [bC (rwB (pv p)).1,bC (rwB (pv p)).2.1,bC (rwB (pv p)).2.2])) p):=propext Iff.rfl
@[congr] theorem XbV{K}{l l'}(h:l=l'):xH l K=xH l' K:=by subst h;rfl
attribute [go_sem,go_sem ↓] WaV
theorem YaY:Good xH:=Wa λas=>by
 unfold xH;split
 .exact(QaA λ_=>(.and λ_=>(.and λ_=>(.ret _))))
 .exact .of λK hk=>hk.elim
def Ud(f0 f1:Nat):AC:=(.seq (.ops false [.u 5 (.box 3 (.t 1)),.u 6 (.box 3 (.t 2)),.u 7 (.box 3 (.t 3)),.m 8 (.c (.one .emp))])
 (.fg [0,5,6,7] (.seq (.ops false [.m 9 (.t 0),.u 10 (.ld none 3 true (.t 5)),.u 11 (.build [.x 1 (.i 1),.z [(.lit (.int .i64 0))],.x 3 (.t 10)]),.u 12 (.ld none 3 true (.t 6)),.u 13 (.build [.z [(.lit (.int .i64 0))],.x 1 (.i 1),.x 3 (.t 12)]),.u 14 (.ld none 3 true (.t 7)),.u 15 (.build [.z [(.lit (.int .i64 0)),(.lit (.int .i64 0))],.x 3 (.t 14)]),.u 16 (.row 5 [[.x 5 (.t 11)],[.x 5 (.t 13)],[.x 5 (.t 15)]]),.u 17 (.call f0 [(.t 16)]),.u 18 (.ext 0 (.t 17)),.u 19 (.ext 1 (.t 17)),.u 20 (.callr f1 [(.t 9),(.t 18),(.t 19)]),.m 8 (.t 20)])
 .ret)))
def ye(f0:Nat):AC:=(.seq (.ops false [.u 4 (.box 3 (.t 1)),.u 5 (.box 3 (.t 2)),.u 6 (.alloc [.emp,.emp,.emp])])
 (.fg [0,4,5,6] (.seq (.ops true [.m 7 (.t 0),.u 8 (.fa 0 (.t 4)),.u 9 (.ld none 1 false (.t 8)),.u 10 (.fa 0 (.t 5)),.u 11 (.ld none 1 false (.t 10)),.u 12 (.callr f0 [(.t 7),(.t 9),(.t 11)]),.m 13 (.t 0),.u 14 (.fa 1 (.t 4)),.u 15 (.ld none 1 false (.t 14)),.u 16 (.fa 1 (.t 5)),.u 17 (.ld none 1 false (.t 16)),.u 18 (.callr f0 [(.t 13),(.t 15),(.t 17)]),.m 19 (.t 0),.u 20 (.fa 2 (.t 4)),.u 21 (.ld none 1 false (.t 20)),.u 22 (.fa 2 (.t 5)),.u 23 (.ld none 1 false (.t 22)),.u 24 (.callr f0 [(.t 19),(.t 21),(.t 23)]),.u 25 (.build [.x 1 (.t 12),.x 1 (.t 18),.x 1 (.t 24)]),.n (.st none 3 (.t 6) (.t 25))])
 .ret)))
def qe(f0 f1:Nat):AC:=(.seq (.ops false [.u 4 (.box 3 (.t 1)),.u 5 (.box 3 (.t 2)),.m 6 (.c (.one .emp))])
 (.fg [0,4,5] (.seq (.ops true [.m 7 (.t 0),.m 8 (.t 0),.u 9 (.fa 1 (.t 4)),.u 10 (.ld none 1 false (.t 9)),.u 11 (.fa 2 (.t 5)),.u 12 (.ld none 1 false (.t 11)),.u 13 (.callr f0 [(.t 8),(.t 10),(.t 12)]),.m 14 (.t 0),.u 15 (.fa 2 (.t 4)),.u 16 (.ld none 1 false (.t 15)),.u 17 (.fa 1 (.t 5)),.u 18 (.ld none 1 false (.t 17)),.u 19 (.callr f0 [(.t 14),(.t 16),(.t 18)]),.u 20 (.callr f1 [(.t 7),(.t 13),(.t 19)]),.m 6 (.t 20)])
 .ret)))
def Vd(f0 f1 f2 f3 f4:Nat):AC:=(.seq (.ops false [.u 3 (.box 10 (.t 1)),.u 4 (.alloc [.emp,.emp,.emp])])
 (.fg [0,3,4] (.seq (.ops false [.u 11 (.fa 0 (.t 3)),.u 12 (.ld none 4 true (.t 11)),.u 13 (.call f0 [(.t 12)]),.m 10 (.t 13),.u 14 (.ext 0 (.t 10)),.u 15 (.ext 1 (.t 10)),.u 16 (.ext 2 (.t 10)),.u 5 (.alloc [(.lit (.bool false)),.emp,.emp]),.u 6 (.alloc [(.lit (.bool false)),.emp,.emp]),.n (.st none 3 (.t 5) (.t 14)),.n (.st none 3 (.t 6) (.t 15)),.m 7 (.t 16)])
 (.fg [0,3,4,5,6,7] (.seq (.seq (.ops false [.m 17 (.t 0),.u 18 (.nilck (.t 17)),.u 19 (.fa 0 (.t 18)),.u 20 (.ld none 1 false (.t 19)),.u 21 (.binn .eql (.t 20) (.c (.one (.lit .nilIface))))])
 (.fg [0,3,4,5,6,7,21] (.cond (.t 21) (.ops false [.m 22 (.t 0),.m 23 (.t 7),.u 24 (.nilck (.t 22)),.u 25 (.fa 0 (.t 24)),.n (.st none 1 (.t 25) (.t 23))]) .skip)))
 (.fg [0,3,4,5,6] (.seq (.ops true [.m 26 (.t 0),.u 27 (.ld none 3 true (.t 5)),.u 28 (.ld none 3 true (.t 6)),.u 29 (.call f1 [(.t 28)]),.u 30 (.fa 4 (.t 3)),.u 31 (.fa 0 (.t 30)),.u 32 (.ld none 3 true (.t 31)),.u 33 (.callr f2 [(.t 26),(.t 27),(.t 29),(.t 32)]),.m 8 (.t 33)])
 (.fg [0,3,4,5,6,8] (.seq (.ops false [.m 34 (.t 0),.u 35 (.ld none 3 true (.t 6)),.u 36 (.ld none 3 true (.t 5)),.u 37 (.fa 4 (.t 3)),.u 38 (.fa 3 (.t 37)),.u 39 (.ld none 3 true (.t 38)),.u 40 (.callr f2 [(.t 34),(.t 35),(.t 36),(.t 39)]),.m 9 (.t 40)])
 (.fg [0,4,8,9] (.seq (.ops false [.m 41 (.t 0),.m 42 (.t 0),.m 43 (.t 8),.m 44 (.t 8),.u 45 (.callr f3 [(.t 42),(.t 43),(.t 44)]),.m 46 (.t 0),.m 47 (.t 9),.m 48 (.t 9),.u 49 (.callr f3 [(.t 46),(.t 47),(.t 48)]),.u 50 (.callr f4 [(.t 41),(.t 45),(.t 49)]),.m 51 (.t 8),.m 52 (.t 9),.u 53 (.build [.x 1 (.t 50),.x 1 (.t 51),.x 1 (.t 52)]),.n (.st none 3 (.t 4) (.t 53))])
 .ret)))))))))))
theorem kaF(hΓ:Holds P Γ){f fm ft tE:Nat}(hm:Γ fm=.dat false (Vz tE))(ht:Γ ft=.red Uq)(hc:check P f=some (21,(Ud fm ft).strip,[.tmp 8])):Sound P f (.red ZG):=by
 refine Jq hc yaN hΓ (λrest h r ver K hr hcl hfi hG=>?_);match rest,hG with
 | [a,b,c],hG=>
  obtain⟨x,rfl,wx,y,rfl,wy,z,rfl,wz,lx,ly,lz,vx,vy,vz,hK⟩:=hG;refine⟨by simp,?_⟩
  have zx:=ug wx;have zy:=ug wy;have zz:=ug wz;have hmk:=JbU vx vy vz;have hcl0:=(PB.ln3 (rv x) (rv y) (rv z)).canon;simp only [go_sem,Ud,hr,hm,ht,rA];change onMs _ (.one (.slice (List.map mC [((1:Int),(0:Int),x),(0,1,y),(0,0,z)])));rw [yV,hmk,Zc,qF,ybU,zbv,XI hr];refine⟨λt ht=>?_,λt ht=>?_,?_,rfl,rfl,hcl0,hK⟩
  .simp only [List.mem_cons,List.not_mem_nil,or_false]at ht;rcases ht with rfl | rfl | rfl
   .exact⟨by simp [i64r],by simp [i64r],wx⟩
   .exact⟨by simp [i64r],by simp [i64r],wy⟩
   .exact⟨by simp [i64r],by simp [i64r],wz⟩
  .simp only [List.mem_cons,List.not_mem_nil,or_false]at ht;rcases ht with rfl | rfl | rfl
   .simp only;omega
   .simp only;omega
   .simp only;omega
  .simp only [List.map_cons,List.map_nil,mv,sz];omega
theorem Yam(hΓ:Holds P Γ){f fs:Nat}(hs:Γ fs=.red yC)(hc:check P f=some (26,(ye fs).strip,[.cell 6 3 true])):Sound P f (.red uA):=by
 refine Jq hc uaG hΓ (λrest h r ver K hr hcl hfi hG=>?_);match rest,hG with
 | [a,b],hG=>
  obtain⟨p,q,r1,rfl,⟨hp,hq,hr1⟩,p',q',r',rfl,⟨hp',hq',hr'⟩,⟨s,n,⟨a1,a2,a3⟩,⟨b1,b2,b3⟩,h1,h2⟩,hK⟩:=hG;refine⟨by simp,?_⟩
  simp only at a1 a2 a3 b1 b2 b3 hK;have s1:=a1.size;have s2:=a2.size;have s3:=a3.size;have s4:=b1.size;have s5:=b2.size;have s6:=b3.size;have k1:sz p+sz p'<=1000000000:=by omega
  have k2:sz q+sz q'<=1000000000:=by omega
  have k3:sz r1+sz r'<=1000000000:=by omega
  simp only [go_sem,ye,hr,hs];repeat first | refine Ja (by with_reducible assumption) ?_ | refine Ja (Nat.le_trans (by with_reducible assumption) (by decide)) ?_ | refine Ja (by decide) ?_
  rw [XI hr];exact hK
theorem UaF(hΓ:Holds P Γ){f fm fs:Nat}(hm:Γ fm=.red JC)(hs:Γ fs=.red yC)(hc:check P f=some (21,(qe fm fs).strip,[.tmp 6])):Sound P f (.red jF):=by
 refine Jq hc za3 hΓ (λrest h r ver K hr hcl hfi hG=>?_);match rest,hG with
 | [a,b],hG=>
  obtain⟨p,q,r1,rfl,⟨hp,hq,hr1⟩,p',q',r',rfl,⟨hp',hq',hr'⟩,⟨s,n,⟨a1,a2,a3⟩,⟨b1,b2,b3⟩,h1,h2⟩,hK⟩:=hG;refine⟨by simp,?_⟩
  simp only at a1 a2 a3 b1 b2 b3 hK;obtain⟨m1,m2⟩:=a2.mulok b3 (by decide) (by omega)
  obtain⟨m3,m4⟩:=a3.mulok b2 (by decide) (by omega)
  have e:tri (1+1)=3:=rfl;have q1:=a2.mul b3 (by decide)
  have q2:=a3.mul b2 (by decide)
  rw [e]at q1 q2;have c1:=q1.canon;have c2:=q2.canon;have s1:=q1.size;have s2:=q2.size;have k1:sz (mulB q r')+sz (mulB r1 q')<=1000000000:=by omega
  simp only [go_sem,qe,hr,hm,hs];repeat first | refine Ja (by with_reducible assumption) ?_ | refine Ja (Nat.le_trans (by with_reducible assumption) (by decide)) ?_ | refine Ja (by decide) ?_
  rw [XI hr];exact hK
set_option maxHeartbeats 1000000 in
theorem xaF(hΓ:Holds P Γ){f fd fn fl fm fa tE:Nat}(hd:Γ fd=.dat false (jD tE))(hn:Γ fn=.dat false kB)(hl:Γ fl=.red ZG)(hm:Γ fm=.red JC)(ha:Γ fa=.red JD)(hc:check P f=some (54,(Vd fd fn fl fm fa).strip,[.cell 4 3 true])):Sound P f (.red xH):=by
 refine Jq hc YaY hΓ (λrest h r ver K hr hcl hfi hG=>?_);match rest,hG with
 | [a],hG=>
  obtain⟨p,rfl,wp,hl0,hv,hK⟩:=hG;refine⟨by simp,?_⟩
  obtain⟨ht0,hva⟩:=YbF hv;have hk:=VC wp hl0;have wt:=wp.1;have wa1:=wp.2.1;have wa2:=wp.2.2;have lt:rl p.1.1<=10000000:=Nat.le_trans (Nat.le_max_left _ _) (Nat.le_trans hl0 (by decide))
  have la:al p.2<=1000000:=Nat.le_trans (Nat.le_max_right _ _) (Nat.le_trans hl0 (by decide))
  have la1:=(Nat.max_le.1 la).1;have la2:=(Nat.max_le.1 la).2;have va1:vldR p.2.1=true:=by unfold avld at hva;simp only [Bool.and_eq_true]at hva;exact hva.1
  have va2:vldR p.2.2=true:=by unfold avld at hva;simp only [Bool.and_eq_true]at hva;exact hva.2
  have r1:=JU (pv p).1;have r2:=uU (pv p).1;have k1:=hk.1;have X1:=PB.xp hk;have Y1:=PB.yp hk;have eX:bXp (pv p)=ln3 (cosQ (tv p.1)) (-sinQ (tv p.1)) (rv p.2.1):=rfl;have eY:bYp (pv p)=ln3 (sinQ (tv p.1)) (cosQ (tv p.1)) (rv p.2.2):=rfl;have eS:(rwB (pv p)).1=addB (mulB (bXp (pv p)) (bXp (pv p))) (mulB (bYp (pv p)) (bYp (pv p))):=rfl;have e2:(rwB (pv p)).2.1=bXp (pv p):=rfl;have e3:(rwB (pv p)).2.2=bYp (pv p):=rfl;rw [eS,e2,e3,eX,eY]at hK;rw [eX]at X1;rw [eY]at Y1;have et:(pv p).1=tv p.1:=rfl;rw [et]at r1 r2;obtain⟨C,hC⟩:∃C,cosQ (tv p.1)=C:=⟨_,rfl⟩;obtain⟨S,hS⟩:∃S,sinQ (tv p.1)=S:=⟨_,rfl⟩;rw [hC,hS]at X1 Y1 hK;rw [hC]at r1;rw [hS]at r2;have et1:(tv p.1).1=(pv p).1.1:=rfl;rw [et1]at r1 r2;have lC:rz C<=1000000:=by omega
  have lS:rz S<=1000000:=by omega
  have lS2:rz S<=4294967296:=by omega
  have lS3:rz (-S)<=1000000:=by rw [JM];omega
  obtain⟨X,hX⟩:∃X,ln3 C (-S) (rv p.2.1)=X:=⟨_,rfl⟩;obtain⟨Y,hY⟩:∃Y,ln3 S C (rv p.2.2)=Y:=⟨_,rfl⟩;rw [hX]at X1 hK;rw [hY]at Y1 hK;obtain⟨m1,m2⟩:=X1.mulok X1 (by decide) (by decide)
  obtain⟨m3,m4⟩:=Y1.mulok Y1 (by decide) (by decide)
  have e:tri (1+1)=3:=rfl;have q1:=X1.mul X1 (by decide)
  have q2:=Y1.mul Y1 (by decide)
  rw [e]at q1 q2;have cX:=X1.canon;have cY:=Y1.canon;have c1:=q1.canon;have c2:=q2.canon;have s1:=q1.size;have s2:=q2.size;have k5:sz (mulB X X)+sz (mulB Y Y)<=1000000000:=by omega
  have e0:=Zc tE;simp only [go_sem,Vd,hr,hd,hn,hl,hm,ha,poA,pC,Zb,rA,ht0,hC,hS,Yb,Qw,hX,hY,e0];repeat first | refine Ja (by with_reducible assumption) ?_ | refine Ja (Nat.le_trans (by with_reducible assumption) (by decide)) ?_ | refine Ja (by decide) ?_
  rw [XI hr];exact hK
end Go.Abs
end
section
namespace Go.Num
open Go.Abs
def fourC(l:List Ps):Nat:=if plchk l≠0 then plchk l else if l.length=4 then 0 else 10
def bcL:List Ps->BQ
 | [p,q,r,s]=>ciB (pv p) (pv q) (pv r) (pv s)
 | _=>[]
def dtL:List Ps->V2->Rat
 | [p,q,r,s],m=>detQ (appQ (pv p) m) (appQ (pv q) m) (appQ (pv r) m) (appQ (pv s) m)
 | _,_=>0
theorem uar{l:List Ps}(h:fourC l=0):l.length=4/\l.all pvld=true:=by
 unfold fourC at h;split at h
 .rename_i h1;exact absurd h h1
 .rename_i h1;have h2:plchk l=0:=by omega
  split at h
  .rename_i h3;refine⟨h3,?_⟩;unfold plchk at h2;split at h2
   .contradiction
   .split at h2
    .contradiction
    .split at h2
     .rename_i h5;exact h5
     .contradiction
  .contradiction
theorem kbv{l:List Ps}(h1:l.length=4)(h2:l.all pvld=true):fourC l=0:=by
 have h3:plchk l=0:=by
  unfold plchk;rw [if_neg (by omega),if_neg (by omega),if_pos h2]
 unfold fourC;rw [if_neg (by omega),if_pos h1]
theorem wbc{l:List Ps}(h:l.length=4):∃p q r s,l=[p,q,r,s]:=by
 match l,h with
 | [p,q,r,s],_=>exact⟨p,q,r,s,rfl⟩
end Go.Num
namespace Go.Abs
open Go.Num
variable {P:Program} {Γ:Nat->Spec}
theorem gE1y(K:List C->Prop)(e0 e1:List C)(r:List (List C)):getE K (e0::e1::r) 1=K e1:=by simp [getE]
theorem gE2y(K:List C->Prop)(e0 e1 e2:List C)(r:List (List C)):getE K (e0::e1::e2::r) 2=K e2:=by simp [getE]
theorem gE3y(K:List C->Prop)(e0 e1 e2 e3:List C)(r:List (List C)):getE K (e0::e1::e2::e3::r) 3=K e3:=by simp [getE]
attribute [go_sem,go_sem ↓] gE1y gE2y gE3y
theorem Xap{h h' : Nat->HB}:okB h h' (some ⟨[[.lit .nilIface]],1,true⟩) (some ⟨[[.lit .nilIface]],1,true⟩):=
 ⟨⟨rfl,rfl⟩,.inl ⟨rfl,λe he c hc=>by
  rw [List.mem_singleton.1 he]at hc;rw [List.mem_singleton.1 hc];exact of_eq_true (yE _)⟩⟩
theorem Xaq{h h' : Nat->HB}{p q r:List Mo}:okB h h' (some ⟨[[.slice (p.map mC),.slice (q.map mC),.slice (r.map mC)]],3,true⟩) (some ⟨[[.slice (p.map mC),.slice (q.map mC),.slice (r.map mC)]],3,true⟩):=
 ⟨⟨rfl,rfl⟩,.inl ⟨rfl,λe he c hc=>by
  rw [List.mem_singleton.1 he]at hc;simp only [List.mem_cons,List.not_mem_nil,or_false]at hc;rcases hc with rfl | rfl | rfl <;> exact of_eq_true (zF _)⟩⟩
theorem vn{h h' : Nat->HB}{es:List (List C)}{z:Nat}{b:Bool}(hc:CleanR es):okB h h' (some ⟨es,z,b⟩) (some ⟨es,z,b⟩):=⟨⟨rfl,rfl⟩,.inl ⟨rfl,hc⟩⟩
theorem cl3(p q r:List Mo):CleanL [.slice (p.map mC),.slice (q.map mC),.slice (r.map mC)]:=λc hc=>by
 simp only [List.mem_cons,List.not_mem_nil,or_false]at hc;rcases hc with rfl | rfl | rfl <;> exact of_eq_true (zF _)
theorem cR1{p q r:List Mo}:CleanR [[.slice (p.map mC),.slice (q.map mC),.slice (r.map mC)]]:=λe he=>by
 rw [List.mem_singleton.1 he];exact cl3 _ _ _
theorem cR2{p q r p' q' r' : List Mo}:CleanR [[.slice (p.map mC),.slice (q.map mC),.slice (r.map mC)],[.slice (p'.map mC),.slice (q'.map mC),.slice (r'.map mC)]]:=λe he=>by
 simp only [List.mem_cons,List.not_mem_nil,or_false]at he;rcases he with rfl | rfl <;> exact cl3 _ _ _
theorem cR3{p q r p' q' r' x y z:List Mo}:CleanR [[.slice (p.map mC),.slice (q.map mC),.slice (r.map mC)],[.slice (p'.map mC),.slice (q'.map mC),.slice (r'.map mC)],[.slice (x.map mC),.slice (y.map mC),.slice (z.map mC)]]:=λe he=>by
 simp only [List.mem_cons,List.not_mem_nil,or_false]at he;rcases he with rfl | rfl | rfl <;> exact cl3 _ _ _
def jC(tE:Nat)(l:List AV)(K:AV->Prop):Prop:=
 match l with
 | [a]=>onPs (λl=>okPs 100000000 l/\K (errV tE (fourC l))) a
 | _=>False
theorem UaY tE a K:jC tE [a] K=(onPs (λl=>okPs 100000000 l/\K (errV tE (fourC l))) a):=propext Iff.rfl
@[congr] theorem JbX tE{K}{l l'}(h:l=l'):jC tE l K=jC tE l' K:=by subst h;rfl
attribute [go_sem,go_sem ↓] UaY
theorem xaU(tE:Nat):Good (jC tE):=Wa λas=>by
 unfold jC;split
 .exact(Vq λ_=>(.and λ_=>(.ret _)))
 .exact .of λK hk=>hk.elim
def ZC(l:List AV)(K:AV->Prop):Prop:=
 match l with
 | [a]=>onPs (λl=>okPs 1000 l/\fourC l=0/\K (.tup [.one (.slice ((mcs (bcL l)).map mC)),.one (.lit .nilIface)])) a
 | _=>False
theorem wa7 a K:ZC [a] K=(onPs (λl=>okPs 1000 l/\fourC l=0/\K (.tup [.one (.slice ((mcs (bcL l)).map mC)),.one (.lit .nilIface)])) a):=propext Iff.rfl
@[congr] theorem vbT{K}{l l'}(h:l=l'):ZC l K=ZC l' K:=by subst h;rfl
attribute [go_sem,go_sem ↓] wa7
theorem JaN:Good ZC:=Wa λas=>by
 unfold ZC;split
 .exact(Vq λ_=>(.and λ_=>(.and λ_=>(.ret _))))
 .exact .of λK hk=>hk.elim
def JG(tE:Nat)(l:List AV)(K:AV->Prop):Prop:=
 match l with
 | [a]=>onPs (λl=>okPs 1000 l/\K (.tup [.one (.slice ((bres (fourC l) (bcL l)).map mC)),errV tE (fourC l)])) a
 | _=>False
theorem wa5 tE a K:JG tE [a] K=(onPs (λl=>okPs 1000 l/\K (.tup [.one (.slice ((bres (fourC l) (bcL l)).map mC)),errV tE (fourC l)])) a):=propext Iff.rfl
@[congr] theorem vbV tE{K}{l l'}(h:l=l'):JG tE l K=JG tE l' K:=by subst h;rfl
attribute [go_sem,go_sem ↓] wa5
theorem waP(tE:Nat):Good (JG tE):=Wa λas=>by
 unfold JG;split
 .exact(Vq λ_=>(.and λ_=>(.ret _)))
 .exact .of λK hk=>hk.elim
def Ue(f0 tE:Nat):AC:=(.seq (.ops false [.m 2 (.c (.one (.lit .nilIface)))])
 (.fg [0] (.seq (.seq (.ops false [.m 4 (.t 0),.u 5 (.call f0 [(.t 4)]),.m 3 (.t 5)])
 (.fg [0,3] (.seq (.ops false [.m 6 (.t 3),.u 7 (.binn .neq (.t 6) (.c (.one (.lit .nilIface))))])
 (.fg [0,3,7] (.cond (.t 7) (.seq (.ops false [.m 8 (.t 3),.m 2 (.t 8)])
 .ret) .skip)))))
 (.fg [0] (.seq (.seq (.ops false [.m 9 (.t 0),.u 10 (.len (.t 9)),.u 11 (.bin .neq (.t 10) (.i 4))])
 (.fg [11] (.cond (.t 11) (.seq (.ops false [.u 12 (.iface tE (.i 10)),.m 2 (.t 12)])
 .ret) .skip)))
 (.fg [] (.seq (.ops false [.m 2 (.c (.one (.lit .nilIface)))])
 .ret)))))))
def Yl(f0 f1 f2 f3 f4 f5:Nat):AC:=(.seq (.ops false [.m 2 (.c (.one .emp)),.m 3 (.c (.one (.lit .nilIface)))])
 (.fg [0] (.seq (.ops false [.u 10 (.build [.z [(.lit .nilIface)]]),.u 11 (.box 1 (.t 10)),.m 4 (.t 11)])
 (.fg [0,4] (.seq (.ops false [.m 12 (.t 4),.m 13 (.t 0),.u 14 (.idx 10 (.t 13) (.i 0)),.u 15 (.ld none 10 true (.t 14)),.u 16 (.callr f0 [(.t 12),(.t 15)]),.u 5 (.alloc [.emp,.emp,.emp]),.n (.st none 3 (.t 5) (.t 16))])
 (.fg [0,4,5] (.seq (.ops false [.m 6 (.c (.one .emp))])
 (.fg [0,4,5,6] (.seq (.seq (.ops false [.m 17 (.t 0),.u 18 (.sl 10 (.t 17) (some (.i 1)) none),.u 19 (.len (.t 18)),.m 20 (.i 0)])
 (.fg [4,5,6,18,19,20] (.block 0 (.loop (.seq (.ops false [.u 21 (.bin .lss (.t 20) (.t 19))])
 (.fg [4,5,6,18,19,20,21] (.seq (.cond (.t 21) .skip (.exit 0))
 (.fg [4,5,6,18,19,20] (.seq (.block 1 (.seq (.ops false [.u 22 (.idx 10 (.t 18) (.t 20)),.u 23 (.ld none 10 true (.t 22)),.u 8 (.alloc [(.lit (.bool false)),.emp,.emp,(.lit (.bool false)),(.lit (.bool false)),.emp,.emp,(.lit (.bool false)),.emp,.emp]),.n (.st none 10 (.t 8) (.t 23))])
 (.fg [4,5,6,8,18,19,20] (.ops true [.m 24 (.t 6),.m 25 (.t 4),.m 26 (.t 4),.u 27 (.ld none 10 true (.t 8)),.u 28 (.callr f0 [(.t 26),(.t 27)]),.u 29 (.ld none 3 true (.t 5)),.u 30 (.callr f1 [(.t 25),(.t 28),(.t 29)]),.u 31 (.row 3 [[.x 3 (.t 30)]]),.u 32 (.app 3 (.t 24) (.t 31)),.m 6 (.t 32)]))))
 (.fg [4,5,6,18,19,20] (.ops false [.u 33 (.bin .add (.t 20) (.i 1)),.m 20 (.t 33)])))))))))))
 (.fg [4,6] (.seq (.ops true [.m 34 (.t 4),.m 35 (.t 6),.u 36 (.idx 3 (.t 35) (.i 0)),.u 37 (.fa 0 (.t 36)),.u 38 (.ld none 1 false (.t 37)),.m 39 (.t 4),.m 40 (.t 6),.u 41 (.idx 3 (.t 40) (.i 1)),.u 42 (.ld none 3 true (.t 41)),.m 43 (.t 6),.u 44 (.idx 3 (.t 43) (.i 2)),.u 45 (.ld none 3 true (.t 44)),.u 46 (.callr f2 [(.t 39),(.t 42),(.t 45)]),.u 47 (.callr f3 [(.t 34),(.t 38),(.t 46)]),.m 9 (.t 47)])
 (.fg [4,6,9] (.seq (.ops true [.m 48 (.t 4),.m 49 (.t 9),.m 50 (.t 4),.m 51 (.t 6),.u 52 (.idx 3 (.t 51) (.i 1)),.u 53 (.fa 0 (.t 52)),.u 54 (.ld none 1 false (.t 53)),.m 55 (.t 4),.m 56 (.t 6),.u 57 (.idx 3 (.t 56) (.i 0)),.u 58 (.ld none 3 true (.t 57)),.m 59 (.t 6),.u 60 (.idx 3 (.t 59) (.i 2)),.u 61 (.ld none 3 true (.t 60)),.u 62 (.callr f2 [(.t 55),(.t 58),(.t 61)]),.u 63 (.callr f3 [(.t 50),(.t 54),(.t 62)]),.u 64 (.callr f4 [(.t 48),(.t 49),(.t 63)]),.m 9 (.t 64)])
 (.fg [4,6,9] (.seq (.ops true [.m 65 (.t 4),.m 66 (.t 9),.m 67 (.t 4),.m 68 (.t 6),.u 69 (.idx 3 (.t 68) (.i 2)),.u 70 (.fa 0 (.t 69)),.u 71 (.ld none 1 false (.t 70)),.m 72 (.t 4),.m 73 (.t 6),.u 74 (.idx 3 (.t 73) (.i 0)),.u 75 (.ld none 3 true (.t 74)),.m 76 (.t 6),.u 77 (.idx 3 (.t 76) (.i 1)),.u 78 (.ld none 3 true (.t 77)),.u 79 (.callr f2 [(.t 72),(.t 75),(.t 78)]),.u 80 (.callr f3 [(.t 67),(.t 71),(.t 79)]),.u 81 (.callr f5 [(.t 65),(.t 66),(.t 80)]),.m 9 (.t 81)])
 (.fg [4,9] (.seq (.ops true [.m 82 (.t 9),.m 83 (.t 4),.u 84 (.nilck (.t 83)),.u 85 (.fa 0 (.t 84)),.u 86 (.ld none 1 false (.t 85)),.m 2 (.t 82),.m 3 (.t 86)])
 .ret)))))))))))))))))
def Wg(f0 f1:Nat):AC:=(.seq (.ops false [.m 2 (.c (.one .emp)),.m 3 (.c (.one (.lit .nilIface)))])
 (.fg [0] (.seq (.seq (.ops false [.m 5 (.t 0),.u 6 (.call f0 [(.t 5)]),.m 4 (.t 6)])
 (.fg [0,4] (.seq (.ops false [.m 7 (.t 4),.u 8 (.binn .neq (.t 7) (.c (.one (.lit .nilIface))))])
 (.fg [0,4,8] (.cond (.t 8) (.seq (.ops false [.m 9 (.t 4),.m 2 (.c (.one .emp)),.m 3 (.t 9)])
 .ret) .skip)))))
 (.fg [0] (.seq (.ops false [.m 10 (.t 0),.u 11 (.call f1 [(.t 10)]),.u 12 (.ext 0 (.t 11)),.u 13 (.ext 1 (.t 11)),.m 2 (.t 12),.m 3 (.t 13)])
 .ret)))))
theorem kaH(hΓ:Holds P Γ){f fk tE:Nat}(hk:Γ fk=.dat false (UG tE))(hc:check P f=some (13,(Ue fk tE).strip,[.tmp 2])):Sound P f (.dat false (jC tE)):=by
 refine ka hc (xaU tE) hΓ (λargs K hcl hfi hG=>?_);match args,hG with
 | [a],hG=>
  obtain⟨l,rfl,hw,hl,hK⟩:=hG;refine⟨by simp,?_⟩
  by_cases h0:plchk l=0
  .have e0:=Zc tE;by_cases h1:l.length=4
   .have ee:fourC l=0:=by unfold fourC;rw [if_neg (by omega),if_pos h1]
    rw [ee,e0]at hK;have h2:(((l.length:Nat):Int)=4)=True:=eq_true (by omega)
    simp only [go_sem,Ue,hk,h0,e0,h2];repeat first | refine Ja (by omega) ?_ | refine Ja (by assumption) ?_ | refine Ja rfl ?_ | refine Ja ⟨rfl,by omega⟩ ?_ | refine Ja ⟨rfl,by omega,by omega⟩ ?_ | intro _
    exact hK
   .have ee:fourC l=10:=by unfold fourC;rw [if_neg (by omega),if_neg h1]
    have e1:=Wc tE (by decide:(10:Nat)≠0)
    rw [ee,e1]at hK;have h2:(((l.length:Nat):Int)=4)=False:=eq_false (by omega)
    simp only [go_sem,Ue,hk,h0,e0,h2];repeat first | refine Ja (by omega) ?_ | refine Ja (by assumption) ?_ | refine Ja rfl ?_ | refine Ja ⟨rfl,by omega⟩ ?_ | refine Ja ⟨rfl,by omega,by omega⟩ ?_ | intro _
    exact hK
  .have ee:fourC l=plchk l:=if_pos h0;have e1:=Wc tE h0;rw [ee,e1]at hK;simp only [go_sem,Ue,hk,e1];repeat first | refine Ja (by omega) ?_ | refine Ja (by assumption) ?_ | refine Ja rfl ?_ | refine Ja ⟨rfl,by omega⟩ ?_ | refine Ja ⟨rfl,by omega,by omega⟩ ?_ | intro _
   exact hK
set_option maxHeartbeats 2000000 in
theorem uaK(hΓ:Holds P Γ){f fp fl fn fm fs fa:Nat}(hp:Γ fp=.red xH)(hl:Γ fl=.red uA)(hn:Γ fn=.red jF)(hm:Γ fm=.red JC)(hs:Γ fs=.red yC)(ha:Γ fa=.red JD)(hc:check P f=some (87,(Yl fp fl fn fm fs fa).strip,[.tmp 2,.tmp 3])):Sound P f (.dat false ZC):=by
 refine ka hc JaN hΓ (λargs K hcl hfi hG=>?_);match args,hG with
 | [a],hG=>
  obtain⟨l,rfl,hw,hl0,h4,hK⟩:=hG;refine⟨by simp,?_⟩
  obtain⟨hlen,hval⟩:=uar h4;obtain⟨p,q,r,s,rfl⟩:=wbc hlen;simp only [List.all_cons,List.all_nil,Bool.and_true,Bool.and_eq_true]at hval;obtain⟨vp,vq,vr,vs⟩:=hval;have mp:=hl0 p (by simp)
  have mq:=hl0 q (by simp)
  have mr:=hl0 r (by simp)
  have ms':=hl0 s (by simp)
  have wp:=mp.1;have wq:=mq.1;have wr:=mr.1;have ws':=ms'.1;have lp:=mp.2;have lq:=mq.2;have lr:=mr.2;have ls:=ms'.2;have kp:=VC wp lp;have kq:=VC wq lq;have kr:=VC wr lr;have ks:=VC ws' ls;have eK:bcL [p,q,r,s]=ci3 (lsR (rwB (pv q)) (rwB (pv p))) (lsR (rwB (pv r)) (rwB (pv p))) (lsR (rwB (pv s)) (rwB (pv p))):=rfl;rw [eK]at hK;have Rp:=VD kp;have Rq:=VD kq;have Rr:=VD kr;have Rs:=VD ks;have o1:=Vbt kp kq;have o2:=Vbt kp kr;have o3:=Vbt kp ks;have D1:=rb_d kp kq;have D2:=rb_d kp kr;have D3:=rb_d kp ks;have u12:=wbu kp kq kr;have u13:=wbu kp kq ks;have u23:=wbu kp kr ks;obtain⟨A,hA⟩:∃A,rwB (pv p)=A:=⟨_,rfl⟩;obtain⟨B,hB⟩:∃A,rwB (pv q)=A:=⟨_,rfl⟩;obtain⟨D,hD⟩:∃A,rwB (pv r)=A:=⟨_,rfl⟩;obtain⟨E,hE⟩:∃A,rwB (pv s)=A:=⟨_,rfl⟩;rw [hA]at Rp;rw [hB]at Rq;rw [hD]at Rr;rw [hE]at Rs;rw [hA,hB]at o1 D1 hK;rw [hA,hD]at o2 D2;rw [hA,hE]at o3 D3;rw [hD,hE]at hK;rw [hA,hB,hD]at u12;rw [hA,hB,hE]at u13;rw [hA,hD,hE]at u23;obtain⟨F,hF⟩:∃x,lsR B A=x:=⟨_,rfl⟩;obtain⟨G,hG⟩:∃x,lsR D A=x:=⟨_,rfl⟩;obtain⟨H,hH⟩:∃x,lsR E A=x:=⟨_,rfl⟩;rw [hF]at D1 u12 u13 hK;rw [hG]at D2 u12 u23 hK;rw [hH]at D3 u13 u23 hK;obtain⟨A1,A2,A3⟩:=A;obtain⟨B1,B2,B3⟩:=B;obtain⟨C1,C2,C3⟩:=D;obtain⟨E1,E2,E3⟩:=E;obtain⟨F1,F2,F3⟩:=F;obtain⟨G1,G2,G3⟩:=G;obtain⟨H1,H2,H3⟩:=H;have cA:Canon A1/\Canon A2/\Canon A3:=⟨Rp.1.canon,Rp.2.1.canon,Rp.2.2.canon⟩;have cB:Canon B1/\Canon B2/\Canon B3:=⟨Rq.1.canon,Rq.2.1.canon,Rq.2.2.canon⟩;have cC:Canon C1/\Canon C2/\Canon C3:=⟨Rr.1.canon,Rr.2.1.canon,Rr.2.2.canon⟩;have cE:Canon E1/\Canon E2/\Canon E3:=⟨Rs.1.canon,Rs.2.1.canon,Rs.2.2.canon⟩;have cF:Canon F1/\Canon F2/\Canon F3:=⟨D1.1.canon,D1.2.1.canon,D1.2.2.canon⟩;have cG:Canon G1/\Canon G2/\Canon G3:=⟨D2.1.canon,D2.2.1.canon,D2.2.2.canon⟩;have cH:Canon H1/\Canon H2/\Canon H3:=⟨D3.1.canon,D3.2.1.canon,D3.2.2.canon⟩;simp only [go_sem,Yl,hp,List.map_cons,List.map_nil,hA];have hL:∀e:List C,e∈[pC p,pC q,pC r,pC s]->e.length=10:=λe he=>by
   simp only [List.mem_cons,List.not_mem_nil,or_false]at he;rcases he with rfl | rfl | rfl | rfl <;> exact Xr _
  repeat first | refine Ja (by with_reducible assumption) ?_ | refine Ja (Nat.le_trans (by with_reducible assumption) (by decide)) ?_ | refine Ja (by decide) ?_
  refine Ya (λk:Nat=>if k=0 then ⟨mkV [(4,.one (.ptr 11 1 0 0)),(5,.one (.ptr 5 1 0 0)),(6,.one .emp),(18,.one (.slice [pC q,pC r,pC s])),(19,.one (.lit (.int .i64 ((3:Nat):Int)))),(20,.one (.lit (.int .i64 k)))],mkH [(5,⟨1,some ⟨[[.slice ((mcs A1).map mC),.slice ((mcs A2).map mC),.slice ((mcs A3).map mC)]],3,true⟩⟩),(11,⟨1,some ⟨[[.lit .nilIface]],1,true⟩⟩)]⟩ else ⟨mkV [(4,.one (.ptr 11 1 0 0)),(5,.one (.ptr 5 1 0 0)),(6,.one (.own 32 1 3 0 k)),(18,.one (.slice [pC q,pC r,pC s])),(19,.one (.lit (.int .i64 ((3:Nat):Int)))),(20,.one (.lit (.int .i64 k)))],mkH [(32,⟨1,some ⟨if k=1 then [[.slice ((mcs F1).map mC),.slice ((mcs F2).map mC),.slice ((mcs F3).map mC)]] else if k=2 then [[.slice ((mcs F1).map mC),.slice ((mcs F2).map mC),.slice ((mcs F3).map mC)],[.slice ((mcs G1).map mC),.slice ((mcs G2).map mC),.slice ((mcs G3).map mC)]] else [[.slice ((mcs F1).map mC),.slice ((mcs F2).map mC),.slice ((mcs F3).map mC)],[.slice ((mcs G1).map mC),.slice ((mcs G2).map mC),.slice ((mcs G3).map mC)],[.slice ((mcs H1).map mC),.slice ((mcs H2).map mC),.slice ((mcs H3).map mC)]],3,true⟩⟩),(5,⟨1,some ⟨[[.slice ((mcs A1).map mC),.slice ((mcs A2).map mC),.slice ((mcs A3).map mC)]],3,true⟩⟩),(11,⟨1,some ⟨[[.lit .nilIface]],1,true⟩⟩)]⟩) (λk=>k<=3) (λk=>3-k) 0 ?_ ?_ ?_
  .exact Qa (by simp [okS,okV,okC,okL,okH,okB,okE,ja,Va,qa,va,wsA,ws]) ⟨Xaq,Xap,trivial⟩
  .exact Nat.zero_le _
  .intro k hk3;have n10:¬(1=0):=by decide
   have n20:¬(2=0):=by decide
   have n30:¬(3=0):=by decide
   have n21:¬(2=1):=by decide
   have n31:¬(3=1):=by decide
   have n32:¬(3=2):=by decide
   have fF:∀e:List C,e∈[[.slice ((mcs F1).map mC),.slice ((mcs F2).map mC),.slice ((mcs F3).map mC)]]->e.length=3:=λe he=>by
    rw [List.mem_singleton.1 he];rfl
   have fG:∀e:List C,e∈[[.slice ((mcs G1).map mC),.slice ((mcs G2).map mC),.slice ((mcs G3).map mC)]]->e.length=3:=λe he=>by
    rw [List.mem_singleton.1 he];rfl
   have fH:∀e:List C,e∈[[.slice ((mcs H1).map mC),.slice ((mcs H2).map mC),.slice ((mcs H3).map mC)]]->e.length=3:=λe he=>by
    rw [List.mem_singleton.1 he];rfl
   match k,hk3 with
   | 0,_=>
    rw [if_pos rfl];simp only [go_sem,hp,hl,Zb,hB,hF];repeat first | refine Ja (by with_reducible assumption) ?_ | refine Ja (Nat.le_trans (by with_reducible assumption) (by decide)) ?_ | refine Ja (by decide) ?_
    refine⟨1,?_,by decide,by decide⟩
    rw [if_neg n10,if_pos rfl];exact Qa (by simp [okS,okV,okC,okL,okH,okB,okE,ja,Va,qa,va,wsA,ws]) ⟨vn cR1,Xaq,Xap,trivial⟩
   | 1,_=>
    rw [if_neg n10,if_pos rfl];simp only [go_sem,hp,hl,Zb,hD,hG];repeat first | refine Ja (by with_reducible assumption) ?_ | refine Ja (Nat.le_trans (by with_reducible assumption) (by decide)) ?_ | refine Ja (by decide) ?_
    refine⟨2,?_,by decide,by decide⟩
    rw [if_neg n20,if_neg n21,if_pos rfl];exact Qa (by simp [okS,okV,okC,okL,okH,okB,okE,ja,Va,qa,va,wsA,ws]) ⟨vn cR2,Xaq,Xap,trivial⟩
   | 2,_=>
    rw [if_neg n20,if_neg n21,if_pos rfl];simp only [go_sem,hp,hl,Zb,hE,hH];repeat first | refine Ja (by with_reducible assumption) ?_ | refine Ja (Nat.le_trans (by with_reducible assumption) (by decide)) ?_ | refine Ja (by decide) ?_
    refine⟨3,?_,by decide,by decide⟩
    rw [if_neg n30,if_neg n31,if_neg n32];exact Qa (by simp [okS,okV,okC,okL,okH,okB,okE,ja,Va,qa,va,wsA,ws]) ⟨vn cR3,Xaq,Xap,trivial⟩
   | 3,_=>
    rw [if_neg n30,if_neg n31,if_neg n32];have N1:=QO D2 D3;have N2:=QO D1 D3;have N3:=QO D1 D2;have F0:PB 2 218400 F1:=D1.1;have G0:PB 2 218400 G1:=D2.1;have H0:PB 2 218400 H1:=D3.1;obtain⟨m1,m2⟩:=F0.mulok N1 (by decide) (by decide)
    obtain⟨m3,m4⟩:=G0.mulok N2 (by decide) (by decide)
    obtain⟨m5,m6⟩:=H0.mulok N3 (by decide) (by decide)
    have t6:tri (2+1)=6:=rfl;have P1:=F0.mul N1 (by decide)
    have P2:=G0.mul N2 (by decide)
    have P3:=H0.mul N3 (by decide)
    rw [t6]at P1 P2 P3;have P4:=P1.sub P2;have N1c:=N1.canon;have N2c:=N2.canon;have N3c:=N3.canon;have P1c:=P1.canon;have P2c:=P2.canon;have P3c:=P3.canon;have P4c:=P4.canon;have k1:=Nat.le_trans (Nat.add_le_add P1.size P2.size) (by decide:_<=1000000000)
    have k2:=Nat.le_trans (Nat.add_le_add P4.size P3.size) (by decide:_<=1000000000)
    have F0c:=F0.canon;have G0c:=G0.canon;have H0c:=H0.canon;simp only [go_sem,hn,hm,hs,ha];repeat first | refine Ja (by with_reducible assumption) ?_ | refine Ja (Nat.le_trans (by with_reducible assumption) (by decide)) ?_ | refine Ja (by decide) ?_
    exact hK
theorem XaF(hΓ:Holds P Γ){f fk fb tE:Nat}(hk:Γ fk=.dat false (jC tE))(hb:Γ fb=.dat false ZC)(hc:check P f=some (14,(Wg fk fb).strip,[.tmp 2,.tmp 3])):Sound P f (.dat false (JG tE)):=by
 refine ka hc (waP tE) hΓ (λargs K hcl hfi hG=>?_);match args,hG with
 | [a],hG=>
  obtain⟨l,rfl,hw,hl,hK⟩:=hG;refine⟨by simp,?_⟩
  have hl2:=ki hl (by decide:1000<=100000000)
  by_cases h0:fourC l=0
  .have e0:=Zc tE;rw [h0,qF,e0]at hK;simp only [go_sem,Wg,hk,hb,h0,e0];repeat first | refine Ja (by with_reducible assumption) ?_ | refine Ja (Nat.le_trans (by with_reducible assumption) (by decide)) ?_ | refine Ja (by decide) ?_
   exact hK
  .have e1:=Wc tE h0;rw [WI h0,e1]at hK;simp only [go_sem,Wg,hk,e1];repeat first | refine Ja (by with_reducible assumption) ?_ | refine Ja (Nat.le_trans (by with_reducible assumption) (by decide)) ?_ | refine Ja (by decide) ?_
   exact hK
end Go.Abs
end
section
namespace Go.Num
open Go.Abs
theorem xB(a:V2):av (rcan a.1,rcan a.2)=a:=xbi a
theorem xw(x:Rat):decide (ordQ x 0=0)=decide (x=0):=by rw [decide_eq_decide];exact js
theorem VA(x:Rat):(ordQ x 0=0)=(x=0):=propext js
instance decH(c:CpR)(a b:V2):Decidable (hldQ c a b):=inferInstanceAs (Decidable (_/\_/\_))
end Go.Num
namespace Go.Abs
open Go.Num
variable {P:Program} {Γ:Nat->Spec}
def Xa3(tE:Nat)(l:List AV)(K:AV->Prop):Prop:=
 match l with
 | [c]=>onCp (λc=>cl c<=4000/\K (.tup [.one (.slice ((bres (cchk c) (cCur (cpv c))).map mC)),errV tE (cchk c)])) c
 | _=>False
theorem Wa9 tE c K:Xa3 tE [c] K=(onCp (λc=>cl c<=4000/\K (.tup [.one (.slice ((bres (cchk c) (cCur (cpv c))).map mC)),errV tE (cchk c)])) c):=propext Iff.rfl
@[congr] theorem ubU tE{K}{l l'}(h:l=l'):Xa3 tE l K=Xa3 tE l' K:=by subst h;rfl
attribute [go_sem,go_sem ↓] Wa9
def JaV(tE:Nat)(l:List AV)(K:AV->Prop):Prop:=
 match l with
 | [c]=>onCp (λc=>cl c<=4000/\K (.tup [.one (.slice ((bres (cchk c) (cM (cpv c))).map mC)),errV tE (cchk c)])) c
 | _=>False
theorem ja7 tE c K:JaV tE [c] K=(onCp (λc=>cl c<=4000/\K (.tup [.one (.slice ((bres (cchk c) (cM (cpv c))).map mC)),errV tE (cchk c)])) c):=propext Iff.rfl
@[congr] theorem jbU tE{K}{l l'}(h:l=l'):JaV tE l K=JaV tE l' K:=by subst h;rfl
attribute [go_sem,go_sem ↓] ja7
def Va6(tE:Nat)(l:List AV)(K:AV->Prop):Prop:=
 match l with
 | [c,p]=>onCp (λc=>onA (λp=>cl c<=4000/\al p<=10000/\K (.tup [.one (.lit (.bool (decide (cchk2 c [p]=0) && decide (wV (cpv c) (av p)=0)))),errV tE (cchk2 c [p])])) p) c
 | _=>False
theorem ka2 tE c p K:Va6 tE [c,p] K=(onCp (λc=>onA (λp=>cl c<=4000/\al p<=10000/\K (.tup [.one (.lit (.bool (decide (cchk2 c [p]=0) && decide (wV (cpv c) (av p)=0)))),errV tE (cchk2 c [p])])) p) c):=propext Iff.rfl
@[congr] theorem UbU tE{K}{l l'}(h:l=l'):Va6 tE l K=Va6 tE l' K:=by subst h;rfl
attribute [go_sem,go_sem ↓] ka2
def UaO(tE:Nat)(l:List AV)(K:AV->Prop):Prop:=
 match l with
 | [c,a,b]=>onCp (λc=>onA (λa=>onA (λb=>cl c<=10000/\al a<=10000/\al b<=10000/\K (.tup [pQ (if cchk2 c [a,b]=0 then ptQ (cpv c) (av a) (av b) else (0,0)),errV tE (cchk2 c [a,b])])) b) a) c
 | _=>False
theorem xa8 tE c a b K:UaO tE [c,a,b] K=(onCp (λc=>onA (λa=>onA (λb=>cl c<=10000/\al a<=10000/\al b<=10000/\K (.tup [pQ (if cchk2 c [a,b]=0 then ptQ (cpv c) (av a) (av b) else (0,0)),errV tE (cchk2 c [a,b])])) b) a) c):=propext Iff.rfl
@[congr] theorem VbW tE{K}{l l'}(h:l=l'):UaO tE l K=UaO tE l' K:=by subst h;rfl
attribute [go_sem,go_sem ↓] xa8
def XaY(tE:Nat)(l:List AV)(K:AV->Prop):Prop:=
 match l with
 | [c,a,b]=>onCp (λc=>onA (λa=>onA (λb=>cl c<=10000/\al a<=10000/\al b<=10000/\K (.tup [.one (.lit (.bool (decide (cchk2 c [a,b]=0) && decide (hldQ (cpv c) (av a) (av b))))),errV tE (cchk2 c [a,b])])) b) a) c
 | _=>False
theorem qa6 tE c a b K:XaY tE [c,a,b] K=(onCp (λc=>onA (λa=>onA (λb=>cl c<=10000/\al a<=10000/\al b<=10000/\K (.tup [.one (.lit (.bool (decide (cchk2 c [a,b]=0) && decide (hldQ (cpv c) (av a) (av b))))),errV tE (cchk2 c [a,b])])) b) a) c):=propext Iff.rfl
@[congr] theorem UbT tE{K}{l l'}(h:l=l'):XaY tE l K=XaY tE l' K:=by subst h;rfl
attribute [go_sem,go_sem ↓] qa6
end Go.Abs
end
