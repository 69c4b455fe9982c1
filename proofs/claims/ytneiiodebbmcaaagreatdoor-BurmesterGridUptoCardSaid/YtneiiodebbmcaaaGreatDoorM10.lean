/-
  Parts of the proof, merged: PoseI, PoseK, CoupA, CoupB, CoupC, BurP, BurA, BurB, CoupD.
-/
import Derived.Test.YtneiiodebbmcaaaGreatDoorM9
set_option linter.unusedVariables false
set_option linter.unusedSimpArgs false
set_option maxRecDepth 100000
section
namespace Go.Num
open Go.Abs
abbrev CpQ:=V2×V2×Rat×Rat×Rat×Rat×Rat
def c0:CpQ:=((0,0),(0,0),0,0,0,0,0)
def timesQ(a b:V2):V2:=(a.1*b.1-a.2*b.2,a.1*b.2+a.2*b.1)
def barQ(a:V2):V2:=(a.1,-a.2)
def lnkC(A B:List V2)(m n:V2):Nat:=if m=n then 8 else if crV A=0 then 8 else if crV B=0 then 8 else if ciV A=ciV B then 8 else 0
def lnkQ(A B:List V2)(m n:V2):CpQ:=(ciV A,ciV B,sqQ (subQ (pt 0 A) (ciV A)),sqQ (subQ n m),sqQ (subQ (pt 0 B) (ciV B)),-(m.1*(subQ n m).1+m.2*(subQ n m).2) / sqQ (subQ n m),(m.1*(subQ n m).2-m.2*(subQ n m).1) / sqQ (subQ n m))
def lkC(l:List Ps)(m n:Arc):Nat:=if chkC l [m,n]≠0 then chkC l [m,n] else lnkC (imgs l m) (imgs l n) (av m) (av n)
end Go.Num
namespace Go.Abs
open Go.Num
variable {P:Program} {Γ:Nat->Spec}
def cqC(c:CpQ):List C:=[cb (rcan c.1.1),cn (rcan c.1.1),cd (rcan c.1.1),cb (rcan c.1.2),cn (rcan c.1.2),cd (rcan c.1.2),cb (rcan c.2.1.1),cn (rcan c.2.1.1),cd (rcan c.2.1.1),cb (rcan c.2.1.2),cn (rcan c.2.1.2),cd (rcan c.2.1.2),cb (rcan c.2.2.1),cn (rcan c.2.2.1),cd (rcan c.2.2.1),cb (rcan c.2.2.2.1),cn (rcan c.2.2.2.1),cd (rcan c.2.2.2.1),cb (rcan c.2.2.2.2.1),cn (rcan c.2.2.2.2.1),cd (rcan c.2.2.2.2.1),cb (rcan c.2.2.2.2.2.1),cn (rcan c.2.2.2.2.2.1),cd (rcan c.2.2.2.2.2.1),cb (rcan c.2.2.2.2.2.2),cn (rcan c.2.2.2.2.2.2),cd (rcan c.2.2.2.2.2.2)]
def cqA(c:CpQ):AV:=.agg (cqC c)
def cl(c:Cp):Nat:=max (al c.1) (max (al c.2.1) (max (rl c.2.2.1) (max (rl c.2.2.2.1) (max (rl c.2.2.2.2.1) (max (rl c.2.2.2.2.2.1) (rl c.2.2.2.2.2.2))))))
def XU(l:List AV)(K:AV->Prop):Prop:=
 match l with
 | [a,b]=>onA (λp=>onA (λq=>al p<=100000000/\al q<=100000000/\K (pQ (timesQ (av p) (av q)))) b) a
 | _=>False
theorem W7 a b K:XU [a,b] K=(onA (λp=>onA (λq=>al p<=100000000/\al q<=100000000/\K (pQ (timesQ (av p) (av q)))) b) a):=propext Iff.rfl
@[congr] theorem kbL{K}{l l'}(h:l=l'):XU l K=XU l' K:=by subst h;rfl
attribute [go_sem,go_sem ↓] W7
def ZaN(l:List AV)(K:AV->Prop):Prop:=
 match l with
 | [a]=>onA (λp=>al p<=100000000/\vldR p.1=true/\K (pQ (barQ (av p)))) a
 | _=>False
theorem yaY a K:ZaN [a] K=(onA (λp=>al p<=100000000/\vldR p.1=true/\K (pQ (barQ (av p)))) a):=propext Iff.rfl
@[congr] theorem wb1{K}{l l'}(h:l=l'):ZaN l K=ZaN l' K:=by subst h;rfl
attribute [go_sem,go_sem ↓] yaY
def qal(tE:Nat)(l:List AV)(K:AV->Prop):Prop:=
 match l with
 | [a,b,c]=>onPs (λl=>onA (λm=>onA (λn=>okPs 1000 l/\al m<=10000/\al n<=10000/\K (.tup [cqA (if lkC l m n=0 then lnkQ (imgs l m) (imgs l n) (av m) (av n) else c0),errV tE (lkC l m n)])) c) b) a
 | _=>False
theorem jaB tE a b c K:qal tE [a,b,c] K=(onPs (λl=>onA (λm=>onA (λn=>okPs 1000 l/\al m<=10000/\al n<=10000/\K (.tup [cqA (if lkC l m n=0 then lnkQ (imgs l m) (imgs l n) (av m) (av n) else c0),errV tE (lkC l m n)])) c) b) a):=propext Iff.rfl
@[congr] theorem ybN tE{K}{l l'}(h:l=l'):qal tE l K=qal tE l' K:=by subst h;rfl
attribute [go_sem,go_sem ↓] jaB
def Jak(l:List AV)(K:AV->Prop):Prop:=
 match l with
 | [a,b,c]=>onPs (λl=>onA (λm=>onA (λn=>okPs 1000 l/\al m<=10000/\al n<=10000/\l.length=3/\K (.tup [cqA (if lnkC (imgs l m) (imgs l n) (av m) (av n)=0 then lnkQ (imgs l m) (imgs l n) (av m) (av n) else c0),.one (.lit (.int .i64 (lnkC (imgs l m) (imgs l n) (av m) (av n):Nat)))])) c) b) a
 | _=>False
theorem zaq a b c K:Jak [a,b,c] K=(onPs (λl=>onA (λm=>onA (λn=>okPs 1000 l/\al m<=10000/\al n<=10000/\l.length=3/\K (.tup [cqA (if lnkC (imgs l m) (imgs l n) (av m) (av n)=0 then lnkQ (imgs l m) (imgs l n) (av m) (av n) else c0),.one (.lit (.int .i64 (lnkC (imgs l m) (imgs l n) (av m) (av n):Nat)))])) c) b) a):=propext Iff.rfl
@[congr] theorem jbO{K}{l l'}(h:l=l'):Jak l K=Jak l' K:=by subst h;rfl
attribute [go_sem,go_sem ↓] zaq
end Go.Abs
end
section
namespace Go.Num
open Go.Abs
abbrev Cp5:=R×R×R×R×R
instance decC5:DecidableEq Cp5:=λa b=>decidable_of_iff (a.1=b.1/\a.2.1=b.2.1/\a.2.2.1=b.2.2.1/\a.2.2.2.1=b.2.2.2.1/\a.2.2.2.2=b.2.2.2.2) ⟨λ⟨h1,h2,h3,h4,h5⟩=>Prod.ext h1 (Prod.ext h2 (Prod.ext h3 (Prod.ext h4 h5))),λh=>by subst h;exact⟨rfl,rfl,rfl,rfl,rfl⟩⟩
instance decCp:DecidableEq Cp:=λa b=>decidable_of_iff (a.1=b.1/\a.2.1=b.2.1/\(a.2.2:Cp5)=b.2.2) ⟨λ⟨h1,h2,h3⟩=>Prod.ext h1 (Prod.ext h2 h3),λh=>by subst h;exact⟨rfl,rfl,rfl⟩⟩
end Go.Num
namespace Go.Abs
open Go.Num
variable {P:Program} {Γ:Nat->Spec}
def cpC(c:Cp):List C:=[cb c.1.1,cn c.1.1,cd c.1.1,cb c.1.2,cn c.1.2,cd c.1.2,cb c.2.1.1,cn c.2.1.1,cd c.2.1.1,cb c.2.1.2,cn c.2.1.2,cd c.2.1.2,cb c.2.2.1,cn c.2.2.1,cd c.2.2.1,cb c.2.2.2.1,cn c.2.2.2.1,cd c.2.2.2.1,cb c.2.2.2.2.1,cn c.2.2.2.2.1,cd c.2.2.2.2.1,cb c.2.2.2.2.2.1,cn c.2.2.2.2.2.1,cd c.2.2.2.2.2.1,cb c.2.2.2.2.2.2,cn c.2.2.2.2.2.2,cd c.2.2.2.2.2.2]
def cpA(c:Cp):AV:=.agg (cpC c)
theorem qbB{x y:R}(h1:cb x=cb y)(h2:cn x=cn y)(h3:cd x=cd y):x=y:=Yp _ _ (by simp only [rA];rw [h1,h2,h3])
def onCp(k:Cp->Prop)(a:AV):Prop:=onE cpA (λc=>WLC c/\k c) a
@[congr] theorem qb1{k:Cp->Prop}{a a'}(h:a=a'):onCp k a=onCp k a':=by subst h;rfl
theorem Vbk(k:Cp->Prop)(a1 a2 a3 b1 b2 b3 c1 c2 c3 d1 d2 d3 e1 e2 e3 f1 f2 f3 g1 g2 g3 h1 h2 h3 i1 i2 i3:C):onCp k (.agg [a1,a2,a3,b1,b2,b3,c1,c2,c3,d1,d2,d3,e1,e2,e3,f1,f2,f3,g1,g2,g3,h1,h2,h3,i1,i2,i3]) =
  onO (λa=>onO (λb=>onO (λc=>onO (λd=>onO (λe=>onO (λf=>onO (λg=>onO (λh=>onO (λi=>WLC ((a,b),(c,d),e,f,g,h,i)/\k ((a,b),(c,d),e,f,g,h,i)) (dR i1 i2 i3)) (dR h1 h2 h3)) (dR g1 g2 g3)) (dR f1 f2 f3)) (dR e1 e2 e3)) (dR d1 d2 d3)) (dR c1 c2 c3)) (dR b1 b2 b3)) (dR a1 a2 a3):=by
 refine propext ⟨λ⟨t,h,hh⟩=>?_,λh=>?_⟩
 .simp only [cpA,cpC,AV.agg.injEq,List.cons.injEq,and_true]at h;obtain⟨rfl,rfl,rfl,rfl,rfl,rfl,rfl,rfl,rfl,rfl,rfl,rfl,rfl,rfl,rfl,rfl,rfl,rfl,rfl,rfl,rfl,rfl,rfl,rfl,rfl,rfl,rfl⟩:=h;simp only [dR_e,qN];exact hh
 .obtain⟨a,ha,q1⟩:=Qc.1 h;obtain⟨b,hb,q2⟩:=Qc.1 q1;obtain⟨c,hc,q3⟩:=Qc.1 q2;obtain⟨d,hd,q4⟩:=Qc.1 q3;obtain⟨e,he,q5⟩:=Qc.1 q4;obtain⟨f,hf,q6⟩:=Qc.1 q5;obtain⟨g,hg,q7⟩:=Qc.1 q6;obtain⟨hh,hhh,q8⟩:=Qc.1 q7;obtain⟨i,hi,q9⟩:=Qc.1 q8;obtain⟨rfl,rfl,rfl⟩:=Jc.1 ha;obtain⟨rfl,rfl,rfl⟩:=Jc.1 hb;obtain⟨rfl,rfl,rfl⟩:=Jc.1 hc;obtain⟨rfl,rfl,rfl⟩:=Jc.1 hd;obtain⟨rfl,rfl,rfl⟩:=Jc.1 he;obtain⟨rfl,rfl,rfl⟩:=Jc.1 hf;obtain⟨rfl,rfl,rfl⟩:=Jc.1 hg;obtain⟨rfl,rfl,rfl⟩:=Jc.1 hhh;obtain⟨rfl,rfl,rfl⟩:=Jc.1 hi;exact⟨((a,b),(c,d),e,f,g,hh,i),rfl,q9⟩
attribute [go_sem,go_sem ↓] Vbk
def wX(l:List AV)(K:AV->Prop):Prop:=
 match l with
 | [a,b]=>onCp (λc=>onCp (λd=>cl c<=4294967296/\K (.one (.lit (.bool (decide (c=d)))))) b) a
 | _=>False
theorem zac a b K:wX [a,b] K=(onCp (λc=>onCp (λd=>cl c<=4294967296/\K (.one (.lit (.bool (decide (c=d)))))) b) a):=propext Iff.rfl
@[congr] theorem UbB{K}{l l'}(h:l=l'):wX l K=wX l' K:=by subst h;rfl
attribute [go_sem,go_sem ↓] zac
def YD(l:List AV)(K:AV->Prop):Prop:=
 match l with
 | [a,b,c]=>onPs (λl=>onDy (λd=>onA (λn=>okPs 1048576 l/\dl d<=1048576/\al n<=1048576/\K (.one (.lit (.bool true)))) c) b) a
 | _=>False
theorem YH a b c K:YD [a,b,c] K=(onPs (λl=>onDy (λd=>onA (λn=>okPs 1048576 l/\dl d<=1048576/\al n<=1048576/\K (.one (.lit (.bool true)))) c) b) a):=propext Iff.rfl
@[congr] theorem qbo{K}{l l'}(h:l=l'):YD l K=YD l' K:=by subst h;rfl
attribute [go_sem,go_sem ↓] YH
end Go.Abs
end
section
namespace Go.Num
open Go.Abs
theorem Vby{p q:BQ}(h:mcs p=mcs q):p=q:=by rw [<-jB p,h,jB]
theorem uD{p:BQ}{N:Nat}(h:sz p<=N):∀t∈mcs p,rl t.2.2<=N:=λt ht=>by
 obtain⟨u,hu,rfl⟩:=List.mem_map.1 ht;have h1:=zbf hu;have h2:rl (mcan u).2.2=rz u.2.2:=rfl;omega
theorem XY{p q:BQ}(hp:Canon p)(hq:Canon q):chk2 (mcs p) (mcs q)=0:=by unfold chk2;rw [qB hp,if_neg (by decide),qB hq]
theorem zbe{p q:BQ}(hp:Canon p)(hq:Canon q)(hd:degB p+degB q<=24):mulC (mcs p) (mcs q)=0:=by
 unfold mulC;rw [XY hp hq,if_neg (by decide),ku,ku,if_neg (by omega)]
theorem va3{p:BQ}(hp:Canon p){d:Nat}(hd:Deg d p):degB p<=d:=by
 unfold degB;cases hl:p.getLast? with
 | none=>simp only;omega
 | some u=>exact hd u (List.mem_of_getLast? hl)
theorem PB.dd{d s e t:Nat}{p q:BQ}(hp:PB d s p)(hq:PB e t q)(h:d+e<=24):degB p+degB q<=24:=by
 have h1:=va3 hp.canon hp.deg;have h2:=va3 hq.canon hq.deg;omega
theorem va9{p q:BQ}(hp:Canon p)(hq:Canon q):Canon (addB p q):=Qm (kg.2 ⟨hp.ins,hq.ins⟩)
theorem VaU{p q:BQ}(hp:Canon p)(hq:Canon q):Canon (subB p q):=Qm (kg.2 ⟨hp.ins,jZ hq.ins⟩)
theorem waP{p q:BQ}(hp:Canon p)(hq:Canon q)(hd:degB p+degB q<=24):Canon (mulB p q):=by
 refine Qm λt ht=>?_;obtain⟨a,ha,hb⟩:=List.mem_flatMap.1 ht;obtain⟨b,hb',rfl⟩:=List.mem_map.1 hb;obtain⟨x1,x2,x3⟩:=hp.ins a ha;obtain⟨y1,y2,y3⟩:=hq.ins b hb';have h1:=zM hp a ha;have h2:=zM hq b hb';unfold inQ mulT;simp only;omega
end Go.Num
namespace Go.Abs
open Go.Num
variable {P:Program} {Γ:Nat->Spec}
def bC(p:BQ):C:=.slice ((mcs p).map mC)
def onB(k:BQ->Prop)(a:AV):Prop:=∃p,a=.one (bC p)/\Canon p/\k p
@[congr] theorem Jb3{k:BQ->Prop}{a a'}(h:a=a'):onB k a=onB k a':=by subst h;rfl
theorem ZT{p q:BQ}(h:bC p=bC q):p=q:=by
 simp only [bC,C.slice.injEq]at h;exact Vby (um h)
theorem XbI(k:BQ->Prop)(p:BQ):onB k (.one (bC p))=(Canon p/\k p):=by
 refine propext ⟨λ⟨x,h,h1,h2⟩=>?_,λh=>⟨p,rfl,h⟩⟩;simp only [AV.one.injEq]at h;have:=ZT h;subst this;exact⟨h1,h2⟩
theorem Xby(k:BQ->Prop)(p:BQ):onB k (.one (.slice ((mcs p).map mC)))=(Canon p/\k p):=XbI k p
theorem uag{β:Type}{T:BQ->(β->Prop)->Prop}(h:∀p,GoodT (T p)){a:AV}:GoodT λK=>onB (λp=>T p K) a:=
 .of λK hx=>by
  obtain⟨p,rfl,hc,hk⟩:=hx;have:(λK=>onB (λp=>T p K) (.one (bC p)))=λK=>Canon p/\T p K:=funext λK=>XbI _ p;rw [this];exact .and λ_=>h p
def onV(k:BQ×BQ->Prop)(a:AV):Prop:=∃p q,a=.agg [bC p,bC q]/\(Canon p/\Canon q)/\k (p,q)
@[congr] theorem zb3{k:BQ×BQ->Prop}{a a'}(h:a=a'):onV k a=onV k a':=by subst h;rfl
theorem qbZ(k:BQ×BQ->Prop)(p q:BQ):onV k (.agg [bC p,bC q])=((Canon p/\Canon q)/\k (p,q)):=by
 refine propext ⟨λ⟨x,y,h,h1,h2⟩=>?_,λh=>⟨p,q,rfl,h⟩⟩;simp only [AV.agg.injEq,List.cons.injEq,and_true]at h;obtain⟨e1,e2⟩:=h;have:=ZT e1;have:=ZT e2
 subst_vars;exact⟨h1,h2⟩
theorem vbK(k:BQ×BQ->Prop)(p q:BQ):onV k (.agg [.slice ((mcs p).map mC),.slice ((mcs q).map mC)])=((Canon p/\Canon q)/\k (p,q)):=qbZ k p q
theorem WbB(p:BQ):bC p=.slice ((mcs p).map mC):=eq_of_heq (HEq.refl _)
attribute [go_sem,go_sem ↓] Xby vbK WbB
def Zp(l:List AV)(K:AV->Prop):Prop:=
 match l with
 | [p,e]=>e=.one (.lit .nilIface)/\onB (λp=>K (.one (bC p))) p
 | _=>False
theorem Qaz p e K:Zp [p,e] K=(e=.one (.lit .nilIface)/\onB (λp=>K (.one (bC p))) p):=propext Iff.rfl
@[congr] theorem wbR{K}{l l'}(h:l=l'):Zp l K=Zp l' K:=by subst h;rfl
attribute [go_sem,go_sem ↓] Qaz
theorem vaH:Good Zp:=Ya λas=>by
 unfold Zp;split
 .exact(.and λ_=>(uag λ_=>(.ret _)))
 .exact .of λK hk=>hk.elim
def wC(l:List AV)(K:AV->Prop):Prop:=
 match l with
 | [a,b]=>onB (λp=>onB (λq=>sz p+sz q<=1000000000/\K (.one (bC (addB p q)))) b) a
 | _=>False
theorem zaN a b K:wC [a,b] K=(onB (λp=>onB (λq=>sz p+sz q<=1000000000/\K (.one (bC (addB p q)))) b) a):=propext Iff.rfl
@[congr] theorem kbW{K}{l l'}(h:l=l'):wC l K=wC l' K:=by subst h;rfl
attribute [go_sem,go_sem ↓] zaN
theorem JaW:Good wC:=Ya λas=>by
 unfold wC;split
 .exact(uag λ_=>(uag λ_=>(.and λ_=>(.ret _))))
 .exact .of λK hk=>hk.elim
def vB(l:List AV)(K:AV->Prop):Prop:=
 match l with
 | [a,b]=>onB (λp=>onB (λq=>sz p+sz q<=1000000000/\K (.one (bC (subB p q)))) b) a
 | _=>False
theorem zaY a b K:vB [a,b] K=(onB (λp=>onB (λq=>sz p+sz q<=1000000000/\K (.one (bC (subB p q)))) b) a):=propext Iff.rfl
@[congr] theorem VbX{K}{l l'}(h:l=l'):vB l K=vB l' K:=by subst h;rfl
attribute [go_sem,go_sem ↓] zaY
theorem waV:Good vB:=Ya λas=>by
 unfold vB;split
 .exact(uag λ_=>(uag λ_=>(.and λ_=>(.ret _))))
 .exact .of λK hk=>hk.elim
def QB(l:List AV)(K:AV->Prop):Prop:=
 match l with
 | [a,b]=>onB (λp=>onB (λq=>sz p+sz q<=3000000/\degB p+degB q<=24/\K (.one (bC (mulB p q)))) b) a
 | _=>False
theorem Xa1 a b K:QB [a,b] K=(onB (λp=>onB (λq=>sz p+sz q<=3000000/\degB p+degB q<=24/\K (.one (bC (mulB p q)))) b) a):=propext Iff.rfl
@[congr] theorem jbW{K}{l l'}(h:l=l'):QB l K=QB l' K:=by subst h;rfl
attribute [go_sem,go_sem ↓] Xa1
theorem Wa5:Good QB:=Ya λas=>by
 unfold QB;split
 .exact(uag λ_=>(uag λ_=>(.and λ_=>(.and λ_=>(.ret _)))))
 .exact .of λK hk=>hk.elim
def ZV(l:List AV)(K:AV->Prop):Prop:=
 match l with
 | [a,x]=>onB (λp=>onR (λx=>rl x<=1000000/\sz p<=100000000/\K (.one (bC (sclB (rv x) p)))) x) a
 | _=>False
theorem Q1 a x K:ZV [a,x] K=(onB (λp=>onR (λx=>rl x<=1000000/\sz p<=100000000/\K (.one (bC (sclB (rv x) p)))) x) a):=propext Iff.rfl
@[congr] theorem vbC{K}{l l'}(h:l=l'):ZV l K=ZV l' K:=by subst h;rfl
attribute [go_sem,go_sem ↓] Q1
def za2(l:List AV)(K:AV->Prop):Prop:=
 match l with
 | [b,x]=>asBool (λb=>onR (λx=>rl x<=1000000/\K (.one (bC (linB b (rv x))))) x) b
 | _=>False
theorem xa2 b x K:za2 [b,x] K=(asBool (λb=>onR (λx=>rl x<=1000000/\K (.one (bC (linB b (rv x))))) x) b):=propext Iff.rfl
@[congr] theorem Yb0{K}{l l'}(h:l=l'):za2 l K=za2 l' K:=by subst h;rfl
attribute [go_sem,go_sem ↓] xa2
def JaT(l:List AV)(K:AV->Prop):Prop:=
 match l with
 | [x]=>onR (λx=>rl x<=1000000/\vldR x=true/\K (.one (bC (conB (rv x))))) x
 | _=>False
theorem ya9 x K:JaT [x] K=(onR (λx=>rl x<=1000000/\vldR x=true/\K (.one (bC (conB (rv x))))) x):=propext Iff.rfl
@[congr] theorem yb1{K}{l l'}(h:l=l'):JaT l K=JaT l' K:=by subst h;rfl
attribute [go_sem,go_sem ↓] ya9
def Vf:AC:=(.seq (.ops false [.m 6 (.c (.one .emp))])
 (.fg [0,1,2] (.seq (.seq (.ops false [.m 7 (.t 0),.u 8 (.nilck (.t 7)),.u 9 (.fa 0 (.t 8)),.u 10 (.ld none 1 false (.t 9)),.u 11 (.binn .eql (.t 10) (.c (.one (.lit .nilIface))))])
 (.fg [0,1,2,11] (.cond (.t 11) (.ops false [.m 12 (.t 0),.m 13 (.t 2),.u 14 (.nilck (.t 12)),.u 15 (.fa 0 (.t 14)),.n (.st none 1 (.t 15) (.t 13))]) .skip)))
 (.fg [1] (.seq (.ops false [.m 16 (.t 1),.m 6 (.t 16)])
 .ret)))))
def Qg(f0 f1:Nat):AC:=(.seq (.ops false [.m 6 (.c (.one .emp))])
 (.fg [0,1,2] (.seq (.ops false [.m 7 (.t 0),.m 8 (.t 1),.m 9 (.t 2),.u 10 (.call f0 [(.t 8),(.t 9)]),.u 11 (.ext 0 (.t 10)),.u 12 (.ext 1 (.t 10)),.u 13 (.callr f1 [(.t 7),(.t 11),(.t 12)]),.m 6 (.t 13)])
 .ret)))
def Xf(f0 f1:Nat):AC:=(.seq (.ops false [.m 6 (.c (.one .emp))])
 (.fg [0,1,2] (.seq (.ops false [.m 7 (.t 0),.m 8 (.t 1),.m 9 (.t 2),.u 10 (.call f0 [(.t 8),(.t 9)]),.u 11 (.ext 0 (.t 10)),.u 12 (.ext 1 (.t 10)),.u 13 (.callr f1 [(.t 7),(.t 11),(.t 12)]),.m 6 (.t 13)])
 .ret)))
def Uf(f0 f1:Nat):AC:=(.seq (.ops false [.m 6 (.c (.one .emp))])
 (.fg [0,1,2] (.seq (.ops false [.m 7 (.t 0),.m 8 (.t 1),.m 9 (.t 2),.u 10 (.call f0 [(.t 8),(.t 9)]),.u 11 (.ext 0 (.t 10)),.u 12 (.ext 1 (.t 10)),.u 13 (.callr f1 [(.t 7),(.t 11),(.t 12)]),.m 6 (.t 13)])
 .ret)))
theorem kH{h:Nat->HB}{r ver:Nat}(hr:h r=⟨ver,some mk0⟩):upd h r ⟨ver,some ⟨[[.lit .nilIface]],1,true⟩⟩=h:=Wbc hr
theorem Zah(hΓ:Holds P Γ){f:Nat}(hc:check P f=some (17,Vf.strip,[.tmp 6])):Sound P f (.red Zp):=by
 refine qo hc vaH hΓ (λrest h r ver K hr hcl hfi hG=>?_);match rest,hG with
 | [a,b],hG=>
  obtain⟨rfl,p,rfl,hp,hK⟩:=hG;refine⟨by simp,?_⟩
  simp only [go_sem,Vf,hr];rw [kH hr];exact hK
theorem uaF(hΓ:Holds P Γ){f fa ft tE:Nat}(ha:Γ fa=.dat false (wG tE))(ht:Γ ft=.red Zp)(hc:check P f=some (14,(Qg fa ft).strip,[.tmp 6])):Sound P f (.red wC):=by
 refine qo hc JaW hΓ (λrest h r ver K hr hcl hfi hG=>?_);match rest,hG with
 | [a,b],hG=>
  obtain⟨p,rfl,hp,q,rfl,hq,hsz,hK⟩:=hG;refine⟨by simp,?_⟩
  have hc0:=XY hp hq;have hrp:=uD (p:=p) (N:=4294967296) (by omega)
  have hrq:=uD (p:=q) (N:=4294967296) (by omega)
  simp only [go_sem,Qg,hr,ha,ht,hc0,jB,ZE,ub];refine⟨Uy hp.ins,Uy hq.ins,hrp,hrq,hsz,va9 hp hq,?_⟩;rw [kH hr];exact hK
theorem yaJ(hΓ:Holds P Γ){f fa ft tE:Nat}(ha:Γ fa=.dat false (VG tE))(ht:Γ ft=.red Zp)(hc:check P f=some (14,(Xf fa ft).strip,[.tmp 6])):Sound P f (.red vB):=by
 refine qo hc waV hΓ (λrest h r ver K hr hcl hfi hG=>?_);match rest,hG with
 | [a,b],hG=>
  obtain⟨p,rfl,hp,q,rfl,hq,hsz,hK⟩:=hG;refine⟨by simp,?_⟩
  have hc0:=XY hp hq;have hrp:=uD (p:=p) (N:=1000000000) (by omega)
  have hrq:=uD (p:=q) (N:=1000000000) (by omega)
  simp only [go_sem,Xf,hr,ha,ht,hc0,jB,ZE,ub];refine⟨Uy hp.ins,Uy hq.ins,hrp,hrq,hsz,VaU hp hq,?_⟩;rw [kH hr];exact hK
theorem yaI(hΓ:Holds P Γ){f fa ft tE:Nat}(ha:Γ fa=.dat false (xE tE))(ht:Γ ft=.red Zp)(hc:check P f=some (14,(Uf fa ft).strip,[.tmp 6])):Sound P f (.red QB):=by
 refine qo hc Wa5 hΓ (λrest h r ver K hr hcl hfi hG=>?_);match rest,hG with
 | [a,b],hG=>
  obtain⟨p,rfl,hp,q,rfl,hq,hsz,hd,hK⟩:=hG;refine⟨by simp,?_⟩
  have hc0:=zbe hp hq hd;have hrp:=uD (p:=p) (N:=1000000000) (by omega)
  have hrq:=uD (p:=q) (N:=1000000000) (by omega)
  simp only [go_sem,Uf,hr,ha,ht,hc0,jB,ZE,ub];refine⟨Uy hp.ins,Uy hq.ins,hrp,hrq,hsz,waP hp hq hd,?_⟩;rw [kH hr];exact hK
end Go.Abs
end
section
namespace Go.Num
open Go.Abs
def cps3(c:Cp):List R:=[c.2.2.1,c.2.2.2.1,c.2.2.2.2.1]
def cps5(c:Cp):List R:=[c.2.2.1,c.2.2.2.1,c.2.2.2.2.1,c.2.2.2.2.2.1,c.2.2.2.2.2.2]
def gt0R(x:R):Bool:=decide (0<rv x)
def cchk(c:Cp):Nat:=if avld c.1=false∨avld c.2.1=false then 2 else if (cps5 c).all vldR=false then 2 else if (cps3 c).all gt0R=false then 3 else if av c.1=av c.2.1 then 8 else 0
def cpv(c:Cp):CpR:=(av c.1,av c.2.1,rv c.2.2.1,rv c.2.2.2.1,rv c.2.2.2.2.1,rv c.2.2.2.2.2.1,rv c.2.2.2.2.2.2)
def cchk2(c:Cp)(l:List Arc):Nat:=if cchk c≠0 then cchk c else if l.all avld=false then 2 else 0
end Go.Num
namespace Go.Abs
open Go.Num
variable {P:Program} {Γ:Nat->Spec}
def ZaU(l:List AV)(K:AV->Prop):Prop:=
 match l with
 | [a,b]=>onR (λx=>onR (λy=>rl x<=100000000/\rl y<=100000000/\K (rQ (sqQ (rv x,rv y)))) b) a
 | _=>False
theorem uaY a b K:ZaU [a,b] K=(onR (λx=>onR (λy=>rl x<=100000000/\rl y<=100000000/\K (rQ (sqQ (rv x,rv y)))) b) a):=propext Iff.rfl
@[congr] theorem XbY{K}{l l'}(h:l=l'):ZaU l K=ZaU l' K:=by subst h;rfl
attribute [go_sem,go_sem ↓] uaY
def Xbw(l:List AV)(K:AV->Prop):Prop:=
 match l with
 | [a,b,c]=>onA (λp=>onR (λu=>onR (λv=>al p<=100000000/\rl u<=100000000/\rl v<=100000000/\K (pQ (timQ (av p) (rv u) (rv v)))) c) b) a
 | _=>False
theorem Ybi a b c K:Xbw [a,b,c] K=(onA (λp=>onR (λu=>onR (λv=>al p<=100000000/\rl u<=100000000/\rl v<=100000000/\K (pQ (timQ (av p) (rv u) (rv v)))) c) b) a):=propext Iff.rfl
@[congr] theorem xb3{K}{l l'}(h:l=l'):Xbw l K=Xbw l' K:=by subst h;rfl
attribute [go_sem,go_sem ↓] Ybi
def UaN(l:List AV)(K:AV->Prop):Prop:=
 match l with
 | [a,b]=>onA (λp=>onA (λq=>al p<=10000000/\al q<=10000000/\K (rQ (sqQ (subQ (av p) (av q))))) b) a
 | _=>False
theorem jaM a b K:UaN [a,b] K=(onA (λp=>onA (λq=>al p<=10000000/\al q<=10000000/\K (rQ (sqQ (subQ (av p) (av q))))) b) a):=propext Iff.rfl
@[congr] theorem QbX{K}{l l'}(h:l=l'):UaN l K=UaN l' K:=by subst h;rfl
attribute [go_sem,go_sem ↓] jaM
def ZaT(tE:Nat)(l:List AV)(K:AV->Prop):Prop:=
 match l with
 | [a]=>onCp (λc=>cl c<=100000000/\K (errV tE (cchk c))) a
 | _=>False
theorem JaY tE a K:ZaT tE [a] K=(onCp (λc=>cl c<=100000000/\K (errV tE (cchk c))) a):=propext Iff.rfl
@[congr] theorem kbY tE{K}{l l'}(h:l=l'):ZaT tE l K=ZaT tE l' K:=by subst h;rfl
attribute [go_sem,go_sem ↓] JaY
def wal(tE:Nat)(l:List AV)(K:AV->Prop):Prop:=
 match l with
 | [a,b]=>onCp (λc=>onAs (λl=>cl c<=100000000/\okAs 100000000 l/\K (errV tE (cchk2 c l))) b) a
 | _=>False
theorem Yar tE a b K:wal tE [a,b] K=(onCp (λc=>onAs (λl=>cl c<=100000000/\okAs 100000000 l/\K (errV tE (cchk2 c l))) b) a):=propext Iff.rfl
@[congr] theorem kbN tE{K}{l l'}(h:l=l'):wal tE l K=wal tE l' K:=by subst h;rfl
attribute [go_sem,go_sem ↓] Yar
def We(f0:Nat):AC:=(.seq (.ops false [.u 1 (.box 6 (.t 0)),.m 2 .fa])
 (.fg [1] (.seq (.ops false [.u 3 (.fa 0 (.t 1)),.u 4 (.ld none 3 true (.t 3)),.u 5 (.call f0 [(.t 4)]),.m 6 (.t 5),.w 7 6 true (.fa 3 (.t 1)),.w 8 6 true (.ld none 3 true (.t 7)),.w 9 6 true (.call f0 [(.t 8)]),.u 10 (.pick (.t 6) (.t 9) .fa),.m 2 (.t 10)])
 .ret)))
def Jw(f0:Nat):AC:=(.seq (.ops false [.u 2 (.box 6 (.t 0)),.u 3 (.box 6 (.t 1)),.u 4 (.alloc [(.lit (.bool false)),.emp,.emp,(.lit (.bool false)),.emp,.emp])])
 (.fg [2,3,4] (.seq (.ops true [.u 5 (.fa 0 (.t 2)),.u 6 (.ld none 3 true (.t 5)),.u 7 (.fa 0 (.t 3)),.u 8 (.ld none 3 true (.t 7)),.u 9 (.call f0 [(.t 6),(.t 8)]),.u 10 (.fa 3 (.t 2)),.u 11 (.ld none 3 true (.t 10)),.u 12 (.fa 3 (.t 3)),.u 13 (.ld none 3 true (.t 12)),.u 14 (.call f0 [(.t 11),(.t 13)]),.u 15 (.build [.x 3 (.t 9),.x 3 (.t 14)]),.n (.st none 6 (.t 4) (.t 15))])
 .ret)))
theorem xA(hΓ:Holds P Γ){f fv:Nat}(hv:Γ fv=.dat true kd)(hc:check P f=some (11,(We fv).strip,[.tmp 2])):Sound P f (.dat true Qe):=by
 refine Wa hc yag hΓ (λargs K hcl hfi hG=>?_);match args,hG with
 | [a],hG=>
  obtain⟨⟨x,y⟩,rfl,⟨wx,wy⟩,hl,hK⟩:=hG;refine⟨by simp,?_⟩
  have hl':=Nat.max_le.1 hl;simp only at wx wy hl';unfold avld at hK;simp only at hK;cases hx:vldR x with
  | true=>
   rw [hx,Bool.true_and]at hK;simp only [go_sem,We,hv,Wc,hx];repeat first | refine Ja (by omega) ?_ | refine Ja (by assumption) ?_ | refine Ja rfl ?_ | refine Ja ⟨rfl,by omega⟩ ?_ | refine Ja ⟨rfl,by omega,by omega⟩ ?_ | intro _
   exact hK
  | false=>
   rw [hx,Bool.false_and]at hK;simp only [go_sem,We,hv,Wc,hx];repeat first | refine Ja (by omega) ?_ | refine Ja (by assumption) ?_ | refine Ja rfl ?_ | refine Ja ⟨rfl,by omega⟩ ?_ | refine Ja ⟨rfl,by omega,by omega⟩ ?_ | intro _
   exact hK
theorem yaj(hΓ:Holds P Γ){f fs:Nat}(hs:Γ fs=.dat false Vx)(hc:check P f=some (16,(Jw fs).strip,[.cell 4 6 true])):Sound P f (.dat false Qv):=by
 refine Wa hc YaI hΓ (λargs K hcl hfi hG=>?_);match args,hG with
 | [a,b],hG=>
  obtain⟨⟨x,y⟩,rfl,⟨wx,wy⟩,⟨u,v⟩,rfl,⟨wu,wv⟩,hl,hl2,hK⟩:=hG;refine⟨by simp,?_⟩
  have hl':=Nat.max_le.1 hl;have hl2':=Nat.max_le.1 hl2;simp only at wx wy wu wv hl' hl2';simp only [go_sem,Jw,hs,Wc];repeat first | refine Ja (by omega) ?_ | refine Ja (by assumption) ?_ | refine Ja rfl ?_ | refine Ja ⟨rfl,by omega⟩ ?_ | refine Ja ⟨rfl,by omega,by omega⟩ ?_ | intro _
  exact hK
end Go.Abs
end
section
namespace Go.Num
open Go.Abs
def tOk(v:BQ×BQ)(u w:Rat):Prop:=PB 1 4006 v.1/\PB 1 4006 v.2/\rz u<=4004/\rz w<=4004
def nOk(v:BQ×BQ):Prop:=∃d s,PB d s v.1/\PB d s v.2/\d+d<=24/\s<=1000000
theorem PB.mulok{d s e t:Nat}{p q:BQ}(hp:PB d s p)(hq:PB e t q)(h:d+e<=24)(h2:s+t<=3000000):sz p+sz q<=3000000/\degB p+degB q<=24:=
 ⟨by have:=hp.size;have:=hq.size;omega,hp.dd hq h⟩
end Go.Num
namespace Go.Abs
open Go.Num
variable {P:Program} {Γ:Nat->Spec}
def Xa3(l:List AV)(K:AV->Prop):Prop:=
 match l with
 | [v,u,w]=>onV (λv=>onR (λu=>onR (λw=>tOk v (rv u) (rv w)/\rl u<=1000000/\rl w<=1000000/\K (.agg [bC (timB v (rv u) (rv w)).1,bC (timB v (rv u) (rv w)).2])) w) u) v
 | _=>False
theorem kaZ v u w K:Xa3 [v,u,w] K=(onV (λv=>onR (λu=>onR (λw=>tOk v (rv u) (rv w)/\rl u<=1000000/\rl w<=1000000/\K (.agg [bC (timB v (rv u) (rv w)).1,bC (timB v (rv u) (rv w)).2])) w) u) v):=propext Iff.rfl
@[congr] theorem JbV{K}{l l'}(h:l=l'):Xa3 l K=Xa3 l' K:=by subst h;rfl
attribute [go_sem,go_sem ↓] kaZ
def YaN(l:List AV)(K:AV->Prop):Prop:=
 match l with
 | [v]=>onV (λv=>nOk v/\K (.one (bC (nrmB v)))) v
 | _=>False
theorem ZaM v K:YaN [v] K=(onV (λv=>nOk v/\K (.one (bC (nrmB v)))) v):=propext Iff.rfl
@[congr] theorem JbT{K}{l l'}(h:l=l'):YaN l K=YaN l' K:=by subst h;rfl
attribute [go_sem,go_sem ↓] ZaM
def XaQ(l:List AV)(K:AV->Prop):Prop:=
 match l with
 | [c]=>onCp (λc=>cl c<=4000/\K (.agg [bC (cAl (cpv c)).1,bC (cAl (cpv c)).2,bC (cBe (cpv c)).1,bC (cBe (cpv c)).2,bC (cE (cpv c)),bC (cF (cpv c)),bC (cM (cpv c))])) c
 | _=>False
theorem jaQ c K:XaQ [c] K=(onCp (λc=>cl c<=4000/\K (.agg [bC (cAl (cpv c)).1,bC (cAl (cpv c)).2,bC (cBe (cpv c)).1,bC (cBe (cpv c)).2,bC (cE (cpv c)),bC (cF (cpv c)),bC (cM (cpv c))])) c):=propext Iff.rfl
@[congr] theorem JbU{K}{l l'}(h:l=l'):XaQ l K=XaQ l' K:=by subst h;rfl
attribute [go_sem,go_sem ↓] jaQ
end Go.Abs
end
section
namespace Go.Num
def ln3(a b c:Rat):BQ:=nf [(1,0,a),(0,1,b),(0,0,c)]
abbrev Rw:=BQ×BQ×BQ
def bXp(p:PsQ):BQ:=ln3 (cosQ p.1) (-sinQ p.1) p.2.1
def bYp(p:PsQ):BQ:=ln3 (sinQ p.1) (cosQ p.1) p.2.2
def rwB(p:PsQ):Rw:=(addB (mulB (bXp p) (bXp p)) (mulB (bYp p) (bYp p)),bXp p,bYp p)
def lsR(a b:Rw):Rw:=(subB a.1 b.1,subB a.2.1 b.2.1,subB a.2.2 b.2.2)
def mnR(a b:Rw):BQ:=subB (mulB a.2.1 b.2.2) (mulB a.2.2 b.2.1)
def ci3(a b c:Rw):BQ:=addB (subB (mulB a.1 (mnR b c)) (mulB b.1 (mnR a c))) (mulB c.1 (mnR a b))
def ciB(p q r s:PsQ):BQ:=ci3 (lsR (rwB q) (rwB p)) (lsR (rwB r) (rwB p)) (lsR (rwB s) (rwB p))
def PsK(p:PsQ):Prop:=rz p.1.1<=1000/\zq p.2<=1000
theorem Xbl(a b c:Rat):InQ [(1,0,a),(0,1,b),(0,0,c)]:=λt ht=>by
 simp only [List.mem_cons,List.not_mem_nil,or_false]at ht;rcases ht with rfl | rfl | rfl <;> simp [inQ]
theorem PB.ln3(a b c:Rat):PB 1 (rz a+rz b+rz c+6) (ln3 a b c):=by
 refine⟨Qm (Xbl a b c),vS λt ht=>?_,?_⟩
 .simp only [List.mem_cons,List.not_mem_nil,or_false]at ht;rcases ht with rfl | rfl | rfl <;> simp
 .refine Nat.le_trans (xaJ _) ?_;simp only [sz];omega
theorem zaT(a b c x y:Rat):ev (ln3 a b c) x y=a*x+b*y+c:=by
 unfold ln3;rw [wa3 (Xbl a b c)];simp [ev,mev,pw];grind
theorem PB.xp{p:PsQ}(h:PsK p):PB 1 9100 (bXp p):=by
 have h1:=wab p.1;have h2:=uab p.1;have h3:=h.1;have h4:rz p.2.1<=1000:=Nat.le_trans (Nat.le_max_left _ _) h.2;have h5:=kN (sinQ p.1);exact(PB.ln3 _ _ _).mono (Nat.le_refl _) (by omega)
theorem PB.yp{p:PsQ}(h:PsK p):PB 1 9100 (bYp p):=by
 have h1:=wab p.1;have h2:=uab p.1;have h3:=h.1;have h4:rz p.2.2<=1000:=Nat.le_trans (Nat.le_max_right _ _) h.2;exact(PB.ln3 _ _ _).mono (Nat.le_refl _) (by omega)
def RB(s n:Nat)(a:Rw):Prop:=PB 2 s a.1/\PB 1 n a.2.1/\PB 1 n a.2.2
theorem UC{p:PsQ}(h:PsK p):RB 109200 9100 (rwB p):=by
 have e:tri (1+1)=3:=rfl;have a1:=(PB.xp h).mul (PB.xp h) (by decide)
 have a2:=(PB.yp h).mul (PB.yp h) (by decide)
 rw [e]at a1 a2;exact⟨(a1.add a2).mono (Nat.le_refl _) (by omega),PB.xp h,PB.yp h⟩
theorem jbr{s n:Nat}{a b:Rw}(h:RB s n a)(k:RB s n b):RB (s+s) (n+n) (lsR a b):=⟨h.1.sub k.1,h.2.1.sub k.2.1,h.2.2.sub k.2.2⟩
theorem xH{s n:Nat}{a b:Rw}(h:RB s n a)(k:RB s n b):PB 2 (12*n) (mnR a b):=by
 have e:tri (1+1)=3:=rfl;have a1:=h.2.1.mul k.2.2 (by decide)
 have a2:=h.2.2.mul k.2.1 (by decide)
 rw [e]at a1 a2;exact(a1.sub a2).mono (Nat.le_refl _) (by omega)
theorem J1{s n:Nat}{a b c:Rw}(h:RB s n a)(k:RB s n b)(l:RB s n c):PB 4 (6*s+6*(12*n)) (mulB a.1 (mnR b c)):=by
 have e:tri (2+1)=6:=rfl;have a1:=h.1.mul (xH k l) (by decide)
 rw [e]at a1;exact a1
theorem vbL{s n:Nat}{a b c:Rw}(h:RB s n a)(k:RB s n b)(l:RB s n c):PB 4 (3*(6*s+6*(12*n))) (ci3 a b c):=
 (((J1 h k l).sub (J1 k h l)).add (J1 l h k)).mono (Nat.le_refl _) (by omega)
theorem rb_d{p q:PsQ}(h:PsK p)(k:PsK q):RB 218400 18200 (lsR (rwB q) (rwB p)):=jbr (UC k) (UC h)
theorem XbV{p q r s:PsQ}(h1:PsK p)(h2:PsK q)(h3:PsK r)(h4:PsK s):PB 4 10000000 (ciB p q r s):=
 (vbL (rb_d h1 h2) (rb_d h1 h3) (rb_d h1 h4)).mono (Nat.le_refl _) (by decide)
def detQ(a b c d:V2):Rat:=
 (sqQ b-sqQ a)*((c.1-a.1)*(d.2-a.2)-(c.2-a.2)*(d.1-a.1))-(sqQ c-sqQ a)*((b.1-a.1)*(d.2-a.2)-(b.2-a.2)*(d.1-a.1))+(sqQ d-sqQ a)*((b.1-a.1)*(c.2-a.2)-(b.2-a.2)*(c.1-a.1))
theorem Jbu{p:PsQ}(m:V2):ev (bXp p) m.1 m.2=(appQ p m).1:=by
 unfold bXp;rw [zaT];unfold appQ rotQ addQ;simp only;grind
theorem Wbs{p:PsQ}(m:V2):ev (bYp p) m.1 m.2=(appQ p m).2:=by
 unfold bYp;rw [zaT];unfold appQ rotQ addQ;simp only
theorem JbC{p:PsQ}(h:PsK p)(m:V2):ev (rwB p).1 m.1 m.2=sqQ (appQ p m):=by
 have e:(rwB p).1=addB (mulB (bXp p) (bXp p)) (mulB (bYp p) (bYp p)):=rfl;have a1:=PB.xp h;have a2:=PB.yp h;rw [e,Zbk (a1.mul a1 (by decide)) (a2.mul a2 (by decide)),xM a1 a1 (by decide),xM a2 a2 (by decide),Jbu,Wbs]
 rfl
theorem Qbe{p q:PsQ}(h:PsK p)(k:PsK q)(m:V2):ev (lsR (rwB q) (rwB p)).1 m.1 m.2=sqQ (appQ q m)-sqQ (appQ p m)/\ev (lsR (rwB q) (rwB p)).2.1 m.1 m.2=(appQ q m).1-(appQ p m).1/\ev (lsR (rwB q) (rwB p)).2.2 m.1 m.2=(appQ q m).2-(appQ p m).2:=by
 refine⟨?_,?_,?_⟩
 .show ev (subB _ _) _ _=_;rw [uaa (UC k).1 (UC h).1,JbC k,JbC h]
 .show ev (subB (bXp q) (bXp p)) _ _=_;rw [uaa (PB.xp k) (PB.xp h),Jbu,Jbu]
 .show ev (subB (bYp q) (bYp p)) _ _=_;rw [uaa (PB.yp k) (PB.yp h),Wbs,Wbs]
theorem xaR{s n:Nat}{a b:Rw}(h:RB s n a)(k:RB s n b)(x y:Rat):ev (mnR a b) x y=ev a.2.1 x y*ev b.2.2 x y-ev a.2.2 x y*ev b.2.1 x y:=by
 unfold mnR;rw [uaa (h.2.1.mul k.2.2 (by decide)) (h.2.2.mul k.2.1 (by decide)),xM h.2.1 k.2.2 (by decide),xM h.2.2 k.2.1 (by decide)]
theorem ybJ{s n:Nat}{a b c:Rw}(h:RB s n a)(k:RB s n b)(l:RB s n c)(x y:Rat):ev (ci3 a b c) x y=ev a.1 x y*ev (mnR b c) x y-ev b.1 x y*ev (mnR a c) x y+ev c.1 x y*ev (mnR a b) x y:=by
 unfold ci3;have e:tri (2+1)=6:=rfl;rw [Zbk ((J1 h k l).sub (J1 k h l)) (J1 l h k),uaa (J1 h k l) (J1 k h l),xM h.1 (xH k l) (by decide),xM k.1 (xH h l) (by decide),xM l.1 (xH h k) (by decide)]
theorem qbV{p q r s:PsQ}(h1:PsK p)(h2:PsK q)(h3:PsK r)(h4:PsK s)(m:V2):ev (ciB p q r s) m.1 m.2=detQ (appQ p m) (appQ q m) (appQ r m) (appQ s m):=by
 unfold ciB;have b2:=rb_d h1 h2;have b3:=rb_d h1 h3;have b4:=rb_d h1 h4;rw [ybJ b2 b3 b4,xaR b3 b4,xaR b2 b4,xaR b2 b3];obtain⟨x1,x2,x3⟩:=Qbe h1 h2 m;obtain⟨y1,y2,y3⟩:=Qbe h1 h3 m;obtain⟨z1,z2,z3⟩:=Qbe h1 h4 m;rw [x1,x2,x3,y1,y2,y3,z1,z2,z3];rfl
def crs(a b c:V2):Rat:=crossQ (subQ b a) (subQ c a)
def dy3(a b c d:V2):Option (V2×V2×V2):=
 if crs a b c≠0 then some (a,b,c) else if crs a b d≠0 then some (a,b,d) else if crs a c d≠0 then some (a,c,d) else if crs b c d≠0 then some (b,c,d) else none
def ctr3(x y z:V2):V2:=ctrQ x (subQ y x) (subQ z x)
end Go.Num
end
section
namespace Go.Num
open Go.Abs
theorem ybZ{x y z:R}(h1:vldR x=true)(h2:vldR y=true)(h3:vldR z=true):mkC [(1,0,x),(0,1,y),(0,0,z)]=0:=by
 unfold mkC;rw [if_neg (by simp)]
 simp [mkG,mkT,inM,h1,h2,h3]
theorem ZbZ(x y z:R):nf (([(1,0,x),(0,1,y),(0,0,z)]:List Mo).map mv)=ln3 (rv x) (rv y) (rv z):=rfl
def rOk(a b:Rw):Prop:=∃s n,RB s n a/\RB s n b/\s<=1000000/\n<=100000
theorem kbr{p q r:PsQ}(h1:PsK p)(h2:PsK q)(h3:PsK r):rOk (lsR (rwB q) (rwB p)) (lsR (rwB r) (rwB p)):=⟨218400,18200,rb_d h1 h2,rb_d h1 h3,by decide,by decide⟩
theorem Ubt{p q:PsQ}(h1:PsK p)(h2:PsK q):rOk (rwB q) (rwB p):=⟨109200,9100,UC h2,UC h1,by decide,by decide⟩
theorem YbM{p:Ps}(h:pvld p=true):tchk p.1=0/\avld p.2=true:=by
 unfold pvld at h;simp only [Bool.and_eq_true,decide_eq_true_eq]at h;exact h
theorem Vt{p:Ps}(hw:WLP p)(h:pl p<=1000):PsK (pv p):=
 ⟨Nat.le_trans (Jg hw.1) (Nat.le_trans (Nat.le_max_left _ _) h),Nat.le_trans (vaJ hw.2) (Nat.le_trans (Nat.le_max_right _ _) h)⟩
end Go.Num
namespace Go.Abs
open Go.Num
variable {P:Program} {Γ:Nat->Spec}
def onRw(k:Rw->Prop)(a:AV):Prop:=∃p q r,a=.agg [bC p,bC q,bC r]/\(Canon p/\Canon q/\Canon r)/\k (p,q,r)
@[congr] theorem vbW{k:Rw->Prop}{a a'}(h:a=a'):onRw k a=onRw k a':=by subst h;rfl
theorem ybj(k:Rw->Prop)(p q r:BQ):onRw k (.agg [bC p,bC q,bC r])=((Canon p/\Canon q/\Canon r)/\k (p,q,r)):=by
 refine propext ⟨λ⟨x,y,z,h,h1,h2⟩=>?_,λh=>⟨p,q,r,rfl,h⟩⟩;simp only [AV.agg.injEq,List.cons.injEq,and_true]at h;obtain⟨e1,e2,e3⟩:=h;have:=ZT e1;have:=ZT e2;have:=ZT e3
 subst_vars;exact⟨h1,h2⟩
theorem xbh(k:Rw->Prop)(p q r:BQ):onRw k (.agg [.slice ((mcs p).map mC),.slice ((mcs q).map mC),.slice ((mcs r).map mC)])=((Canon p/\Canon q/\Canon r)/\k (p,q,r)):=ybj k p q r
theorem yay{β:Type}{T:Rw->(β->Prop)->Prop}(h:∀p,GoodT (T p)){a:AV}:GoodT λK=>onRw (λp=>T p K) a:=
 .of λK hx=>by
  obtain⟨p,q,r,rfl,hc,hk⟩:=hx;have:(λK=>onRw (λp=>T p K) (.agg [bC p,bC q,bC r]))=λK=>(Canon p/\Canon q/\Canon r)/\T (p,q,r) K:=funext λK=>ybj _ p q r;rw [this];exact .and λ_=>h (p,q,r)
attribute [go_sem,go_sem ↓] xbh
def ZG(l:List AV)(K:AV->Prop):Prop:=
 match l with
 | [a,b,c]=>onR (λx=>onR (λy=>onR (λz=>rl x<=1000000/\rl y<=1000000/\rl z<=1000000/\vldR x=true/\vldR y=true/\vldR z=true/\K (.one (bC (ln3 (rv x) (rv y) (rv z))))) c) b) a
 | _=>False
theorem UaO a b c K:ZG [a,b,c] K=(onR (λx=>onR (λy=>onR (λz=>rl x<=1000000/\rl y<=1000000/\rl z<=1000000/\vldR x=true/\vldR y=true/\vldR z=true/\K (.one (bC (ln3 (rv x) (rv y) (rv z))))) c) b) a):=propext Iff.rfl
@[congr] theorem wbV{K}{l l'}(h:l=l'):ZG l K=ZG l' K:=by subst h;rfl
attribute [go_sem,go_sem ↓] UaO
theorem JaM:Good ZG:=Ya λas=>by
 unfold ZG;split
 .exact(Wm λ_=>(Wm λ_=>(Wm λ_=>(.and λ_=>(.and λ_=>(.and λ_=>(.and λ_=>(.and λ_=>(.and λ_=>(.ret _))))))))))
 .exact .of λK hk=>hk.elim
def Zy(l:List AV)(K:AV->Prop):Prop:=
 match l with
 | [a,b]=>onRw (λa=>onRw (λb=>rOk a b/\K (.agg [bC (lsR a b).1,bC (lsR a b).2.1,bC (lsR a b).2.2])) b) a
 | _=>False
theorem kau a b K:Zy [a,b] K=(onRw (λa=>onRw (λb=>rOk a b/\K (.agg [bC (lsR a b).1,bC (lsR a b).2.1,bC (lsR a b).2.2])) b) a):=propext Iff.rfl
@[congr] theorem XbO{K}{l l'}(h:l=l'):Zy l K=Zy l' K:=by subst h;rfl
attribute [go_sem,go_sem ↓] kau
theorem ZaG:Good Zy:=Ya λas=>by
 unfold Zy;split
 .exact(yay λ_=>(yay λ_=>(.and λ_=>(.ret _))))
 .exact .of λK hk=>hk.elim
def JF(l:List AV)(K:AV->Prop):Prop:=
 match l with
 | [a,b]=>onRw (λa=>onRw (λb=>rOk a b/\K (.one (bC (mnR a b)))) b) a
 | _=>False
theorem YaS a b K:JF [a,b] K=(onRw (λa=>onRw (λb=>rOk a b/\K (.one (bC (mnR a b)))) b) a):=propext Iff.rfl
@[congr] theorem WbT{K}{l l'}(h:l=l'):JF l K=JF l' K:=by subst h;rfl
attribute [go_sem,go_sem ↓] YaS
theorem JaP:Good JF:=Ya λas=>by
 unfold JF;split
 .exact(yay λ_=>(yay λ_=>(.and λ_=>(.ret _))))
 .exact .of λK hk=>hk.elim
def UF(l:List AV)(K:AV->Prop):Prop:=
 match l with
 | [p]=>onPo (λp=>pl p<=1000/\pvld p=true/\K (.agg [bC (rwB (pv p)).1,bC (rwB (pv p)).2.1,bC (rwB (pv p)).2.2])) p
 | _=>False
theorem yaS p K:UF [p] K=(onPo (λp=>pl p<=1000/\pvld p=true/\K (.agg [bC (rwB (pv p)).1,bC (rwB (pv p)).2.1,bC (rwB (pv p)).2.2])) p):=propext Iff.rfl
@[congr] theorem XbS{K}{l l'}(h:l=l'):UF l K=UF l' K:=by subst h;rfl
attribute [go_sem,go_sem ↓] yaS
theorem Qba:Good UF:=Ya λas=>by
 unfold UF;split
 .exact(ZaK λ_=>(.and λ_=>(.and λ_=>(.ret _))))
 .exact .of λK hk=>hk.elim
def Yd(f0 f1:Nat):AC:=(.seq (.ops false [.u 5 (.box 3 (.t 1)),.u 6 (.box 3 (.t 2)),.u 7 (.box 3 (.t 3)),.m 8 (.c (.one .emp))])
 (.fg [0,5,6,7] (.seq (.ops false [.m 9 (.t 0),.u 10 (.ld none 3 true (.t 5)),.u 11 (.build [.x 1 (.i 1),.z [(.lit (.int .i64 0))],.x 3 (.t 10)]),.u 12 (.ld none 3 true (.t 6)),.u 13 (.build [.z [(.lit (.int .i64 0))],.x 1 (.i 1),.x 3 (.t 12)]),.u 14 (.ld none 3 true (.t 7)),.u 15 (.build [.z [(.lit (.int .i64 0)),(.lit (.int .i64 0))],.x 3 (.t 14)]),.u 16 (.row 5 [[.x 5 (.t 11)],[.x 5 (.t 13)],[.x 5 (.t 15)]]),.u 17 (.call f0 [(.t 16)]),.u 18 (.ext 0 (.t 17)),.u 19 (.ext 1 (.t 17)),.u 20 (.callr f1 [(.t 9),(.t 18),(.t 19)]),.m 8 (.t 20)])
 .ret)))
def ke(f0:Nat):AC:=(.seq (.ops false [.u 4 (.box 3 (.t 1)),.u 5 (.box 3 (.t 2)),.u 6 (.alloc [.emp,.emp,.emp])])
 (.fg [0,4,5,6] (.seq (.ops true [.m 7 (.t 0),.u 8 (.fa 0 (.t 4)),.u 9 (.ld none 1 false (.t 8)),.u 10 (.fa 0 (.t 5)),.u 11 (.ld none 1 false (.t 10)),.u 12 (.callr f0 [(.t 7),(.t 9),(.t 11)]),.m 13 (.t 0),.u 14 (.fa 1 (.t 4)),.u 15 (.ld none 1 false (.t 14)),.u 16 (.fa 1 (.t 5)),.u 17 (.ld none 1 false (.t 16)),.u 18 (.callr f0 [(.t 13),(.t 15),(.t 17)]),.m 19 (.t 0),.u 20 (.fa 2 (.t 4)),.u 21 (.ld none 1 false (.t 20)),.u 22 (.fa 2 (.t 5)),.u 23 (.ld none 1 false (.t 22)),.u 24 (.callr f0 [(.t 19),(.t 21),(.t 23)]),.u 25 (.build [.x 1 (.t 12),.x 1 (.t 18),.x 1 (.t 24)]),.n (.st none 3 (.t 6) (.t 25))])
 .ret)))
def ze(f0 f1:Nat):AC:=(.seq (.ops false [.u 4 (.box 3 (.t 1)),.u 5 (.box 3 (.t 2)),.m 6 (.c (.one .emp))])
 (.fg [0,4,5] (.seq (.ops true [.m 7 (.t 0),.m 8 (.t 0),.u 9 (.fa 1 (.t 4)),.u 10 (.ld none 1 false (.t 9)),.u 11 (.fa 2 (.t 5)),.u 12 (.ld none 1 false (.t 11)),.u 13 (.callr f0 [(.t 8),(.t 10),(.t 12)]),.m 14 (.t 0),.u 15 (.fa 2 (.t 4)),.u 16 (.ld none 1 false (.t 15)),.u 17 (.fa 1 (.t 5)),.u 18 (.ld none 1 false (.t 17)),.u 19 (.callr f0 [(.t 14),(.t 16),(.t 18)]),.u 20 (.callr f1 [(.t 7),(.t 13),(.t 19)]),.m 6 (.t 20)])
 .ret)))
def Vd(f0 f1 f2 f3 f4:Nat):AC:=(.seq (.ops false [.u 3 (.box 10 (.t 1)),.u 4 (.alloc [.emp,.emp,.emp])])
 (.fg [0,3,4] (.seq (.ops false [.u 11 (.fa 0 (.t 3)),.u 12 (.ld none 4 true (.t 11)),.u 13 (.call f0 [(.t 12)]),.m 10 (.t 13),.u 14 (.ext 0 (.t 10)),.u 15 (.ext 1 (.t 10)),.u 16 (.ext 2 (.t 10)),.u 5 (.alloc [(.lit (.bool false)),.emp,.emp]),.u 6 (.alloc [(.lit (.bool false)),.emp,.emp]),.n (.st none 3 (.t 5) (.t 14)),.n (.st none 3 (.t 6) (.t 15)),.m 7 (.t 16)])
 (.fg [0,3,4,5,6,7] (.seq (.seq (.ops false [.m 17 (.t 0),.u 18 (.nilck (.t 17)),.u 19 (.fa 0 (.t 18)),.u 20 (.ld none 1 false (.t 19)),.u 21 (.binn .eql (.t 20) (.c (.one (.lit .nilIface))))])
 (.fg [0,3,4,5,6,7,21] (.cond (.t 21) (.ops false [.m 22 (.t 0),.m 23 (.t 7),.u 24 (.nilck (.t 22)),.u 25 (.fa 0 (.t 24)),.n (.st none 1 (.t 25) (.t 23))]) .skip)))
 (.fg [0,3,4,5,6] (.seq (.ops true [.m 26 (.t 0),.u 27 (.ld none 3 true (.t 5)),.u 28 (.ld none 3 true (.t 6)),.u 29 (.call f1 [(.t 28)]),.u 30 (.fa 4 (.t 3)),.u 31 (.fa 0 (.t 30)),.u 32 (.ld none 3 true (.t 31)),.u 33 (.callr f2 [(.t 26),(.t 27),(.t 29),(.t 32)]),.m 8 (.t 33)])
 (.fg [0,3,4,5,6,8] (.seq (.ops false [.m 34 (.t 0),.u 35 (.ld none 3 true (.t 6)),.u 36 (.ld none 3 true (.t 5)),.u 37 (.fa 4 (.t 3)),.u 38 (.fa 3 (.t 37)),.u 39 (.ld none 3 true (.t 38)),.u 40 (.callr f2 [(.t 34),(.t 35),(.t 36),(.t 39)]),.m 9 (.t 40)])
 (.fg [0,4,8,9] (.seq (.ops false [.m 41 (.t 0),.m 42 (.t 0),.m 43 (.t 8),.m 44 (.t 8),.u 45 (.callr f3 [(.t 42),(.t 43),(.t 44)]),.m 46 (.t 0),.m 47 (.t 9),.m 48 (.t 9),.u 49 (.callr f3 [(.t 46),(.t 47),(.t 48)]),.u 50 (.callr f4 [(.t 41),(.t 45),(.t 49)]),.m 51 (.t 8),.m 52 (.t 9),.u 53 (.build [.x 1 (.t 50),.x 1 (.t 51),.x 1 (.t 52)]),.n (.st none 3 (.t 4) (.t 53))])
 .ret)))))))))))
theorem WaG(hΓ:Holds P Γ){f fm ft tE:Nat}(hm:Γ fm=.dat false (jy tE))(ht:Γ ft=.red Zp)(hc:check P f=some (21,(Yd fm ft).strip,[.tmp 8])):Sound P f (.red ZG):=by
 refine qo hc JaM hΓ (λrest h r ver K hr hcl hfi hG=>?_);match rest,hG with
 | [a,b,c],hG=>
  obtain⟨x,rfl,wx,y,rfl,wy,z,rfl,wz,lx,ly,lz,vx,vy,vz,hK⟩:=hG;refine⟨by simp,?_⟩
  have zx:=Jg wx;have zy:=Jg wy;have zz:=Jg wz;have hmk:=ybZ vx vy vz;have hcl0:=(PB.ln3 (rv x) (rv y) (rv z)).canon;simp only [go_sem,Yd,hr,hm,ht,rA];change onMs _ (.one (.slice (List.map mC [((1:Int),(0:Int),x),(0,1,y),(0,0,z)])));rw [jP,hmk,ub,ZE,ZbZ,Xby,kH hr];refine⟨λt ht=>?_,λt ht=>?_,?_,rfl,rfl,hcl0,hK⟩
  .simp only [List.mem_cons,List.not_mem_nil,or_false]at ht;rcases ht with rfl | rfl | rfl
   .exact⟨by simp [i64r],by simp [i64r],wx⟩
   .exact⟨by simp [i64r],by simp [i64r],wy⟩
   .exact⟨by simp [i64r],by simp [i64r],wz⟩
  .simp only [List.mem_cons,List.not_mem_nil,or_false]at ht;rcases ht with rfl | rfl | rfl
   .simp only;omega
   .simp only;omega
   .simp only;omega
  .simp only [List.map_cons,List.map_nil,mv,sz];omega
theorem Wan(hΓ:Holds P Γ){f fs:Nat}(hs:Γ fs=.red vB)(hc:check P f=some (26,(ke fs).strip,[.cell 6 3 true])):Sound P f (.red Zy):=by
 refine qo hc ZaG hΓ (λrest h r ver K hr hcl hfi hG=>?_);match rest,hG with
 | [a,b],hG=>
  obtain⟨p,q,r1,rfl,⟨hp,hq,hr1⟩,p',q',r',rfl,⟨hp',hq',hr'⟩,⟨s,n,⟨a1,a2,a3⟩,⟨b1,b2,b3⟩,h1,h2⟩,hK⟩:=hG;refine⟨by simp,?_⟩
  simp only at a1 a2 a3 b1 b2 b3 hK;have s1:=a1.size;have s2:=a2.size;have s3:=a3.size;have s4:=b1.size;have s5:=b2.size;have s6:=b3.size;have k1:sz p+sz p'<=1000000000:=by omega
  have k2:sz q+sz q'<=1000000000:=by omega
  have k3:sz r1+sz r'<=1000000000:=by omega
  simp only [go_sem,ke,hr,hs];repeat first | refine Ja (by with_reducible assumption) ?_ | refine Ja (Nat.le_trans (by with_reducible assumption) (by decide)) ?_ | refine Ja (by decide) ?_
  rw [kH hr];exact hK
theorem qaJ(hΓ:Holds P Γ){f fm fs:Nat}(hm:Γ fm=.red QB)(hs:Γ fs=.red vB)(hc:check P f=some (21,(ze fm fs).strip,[.tmp 6])):Sound P f (.red JF):=by
 refine qo hc JaP hΓ (λrest h r ver K hr hcl hfi hG=>?_);match rest,hG with
 | [a,b],hG=>
  obtain⟨p,q,r1,rfl,⟨hp,hq,hr1⟩,p',q',r',rfl,⟨hp',hq',hr'⟩,⟨s,n,⟨a1,a2,a3⟩,⟨b1,b2,b3⟩,h1,h2⟩,hK⟩:=hG;refine⟨by simp,?_⟩
  simp only at a1 a2 a3 b1 b2 b3 hK;obtain⟨m1,m2⟩:=a2.mulok b3 (by decide) (by omega)
  obtain⟨m3,m4⟩:=a3.mulok b2 (by decide) (by omega)
  have e:tri (1+1)=3:=rfl;have q1:=a2.mul b3 (by decide)
  have q2:=a3.mul b2 (by decide)
  rw [e]at q1 q2;have c1:=q1.canon;have c2:=q2.canon;have s1:=q1.size;have s2:=q2.size;have k1:sz (mulB q r')+sz (mulB r1 q')<=1000000000:=by omega
  simp only [go_sem,ze,hr,hm,hs];repeat first | refine Ja (by with_reducible assumption) ?_ | refine Ja (Nat.le_trans (by with_reducible assumption) (by decide)) ?_ | refine Ja (by decide) ?_
  rw [kH hr];exact hK
set_option maxHeartbeats 1000000 in
theorem ZaJ(hΓ:Holds P Γ){f fd fn fl fm fa tE:Nat}(hd:Γ fd=.dat false (YC tE))(hn:Γ fn=.dat false xC)(hl:Γ fl=.red ZG)(hm:Γ fm=.red QB)(ha:Γ fa=.red wC)(hc:check P f=some (54,(Vd fd fn fl fm fa).strip,[.cell 4 3 true])):Sound P f (.red UF):=by
 refine qo hc Qba hΓ (λrest h r ver K hr hcl hfi hG=>?_);match rest,hG with
 | [a],hG=>
  obtain⟨p,rfl,wp,hl0,hv,hK⟩:=hG;refine⟨by simp,?_⟩
  obtain⟨ht0,hva⟩:=YbM hv;have hk:=Vt wp hl0;have wt:=wp.1;have wa1:=wp.2.1;have wa2:=wp.2.2;have lt:rl p.1.1<=10000000:=Nat.le_trans (Nat.le_max_left _ _) (Nat.le_trans hl0 (by decide))
  have la:al p.2<=1000000:=Nat.le_trans (Nat.le_max_right _ _) (Nat.le_trans hl0 (by decide))
  have la1:=(Nat.max_le.1 la).1;have la2:=(Nat.max_le.1 la).2;have va1:vldR p.2.1=true:=by unfold avld at hva;simp only [Bool.and_eq_true]at hva;exact hva.1
  have va2:vldR p.2.2=true:=by unfold avld at hva;simp only [Bool.and_eq_true]at hva;exact hva.2
  have r1:=wab (pv p).1;have r2:=uab (pv p).1;have k1:=hk.1;have X1:=PB.xp hk;have Y1:=PB.yp hk;have eX:bXp (pv p)=ln3 (cosQ (tv p.1)) (-sinQ (tv p.1)) (rv p.2.1):=rfl;have eY:bYp (pv p)=ln3 (sinQ (tv p.1)) (cosQ (tv p.1)) (rv p.2.2):=rfl;have eS:(rwB (pv p)).1=addB (mulB (bXp (pv p)) (bXp (pv p))) (mulB (bYp (pv p)) (bYp (pv p))):=rfl;have e2:(rwB (pv p)).2.1=bXp (pv p):=rfl;have e3:(rwB (pv p)).2.2=bYp (pv p):=rfl;rw [eS,e2,e3,eX,eY]at hK;rw [eX]at X1;rw [eY]at Y1;have et:(pv p).1=tv p.1:=rfl;rw [et]at r1 r2;obtain⟨C,hC⟩:∃C,cosQ (tv p.1)=C:=⟨_,rfl⟩;obtain⟨S,hS⟩:∃S,sinQ (tv p.1)=S:=⟨_,rfl⟩;rw [hC,hS]at X1 Y1 hK;rw [hC]at r1;rw [hS]at r2;have et1:(tv p.1).1=(pv p).1.1:=rfl;rw [et1]at r1 r2;have lC:rz C<=1000000:=by omega
  have lS:rz S<=1000000:=by omega
  have lS2:rz S<=4294967296:=by omega
  have lS3:rz (-S)<=1000000:=by rw [kN];omega
  obtain⟨X,hX⟩:∃X,ln3 C (-S) (rv p.2.1)=X:=⟨_,rfl⟩;obtain⟨Y,hY⟩:∃Y,ln3 S C (rv p.2.2)=Y:=⟨_,rfl⟩;rw [hX]at X1 hK;rw [hY]at Y1 hK;obtain⟨m1,m2⟩:=X1.mulok X1 (by decide) (by decide)
  obtain⟨m3,m4⟩:=Y1.mulok Y1 (by decide) (by decide)
  have e:tri (1+1)=3:=rfl;have q1:=X1.mul X1 (by decide)
  have q2:=Y1.mul Y1 (by decide)
  rw [e]at q1 q2;have cX:=X1.canon;have cY:=Y1.canon;have c1:=q1.canon;have c2:=q2.canon;have s1:=q1.size;have s2:=q2.size;have k5:sz (mulB X X)+sz (mulB Y Y)<=1000000000:=by omega
  have e0:=ub tE;simp only [go_sem,Vd,hr,hd,hn,hl,hm,ha,poA,pC,Qb,rA,ht0,hC,hS,Wb,Jm,hX,hY,e0];repeat first | refine Ja (by with_reducible assumption) ?_ | refine Ja (Nat.le_trans (by with_reducible assumption) (by decide)) ?_ | refine Ja (by decide) ?_
  rw [kH hr];exact hK
end Go.Abs
end
section
namespace Go.Num
open Go.Abs
def fourC(l:List Ps):Nat:=if plchk l≠0 then plchk l else if l.length=4 then 0 else 10
def bcL:List Ps->BQ
 | [p,q,r,s]=>ciB (pv p) (pv q) (pv r) (pv s)
 | _=>[]
def dtL:List Ps->V2->Rat
 | [p,q,r,s],m=>detQ (appQ (pv p) m) (appQ (pv q) m) (appQ (pv r) m) (appQ (pv s) m)
 | _,_=>0
theorem vay{l:List Ps}(h:fourC l=0):l.length=4/\l.all pvld=true:=by
 unfold fourC at h;split at h
 .rename_i h1;exact absurd h h1
 .rename_i h1;have h2:plchk l=0:=by omega
  split at h
  .rename_i h3;refine⟨h3,?_⟩;unfold plchk at h2;split at h2
   .contradiction
   .split at h2
    .contradiction
    .split at h2
     .rename_i h5;exact h5
     .contradiction
  .contradiction
theorem ZaX{l:List Ps}(h1:l.length=4)(h2:l.all pvld=true):fourC l=0:=by
 have h3:plchk l=0:=by
  unfold plchk;rw [if_neg (by omega),if_neg (by omega),if_pos h2]
 unfold fourC;rw [if_neg (by omega),if_pos h1]
theorem jbd{l:List Ps}(h:l.length=4):∃p q r s,l=[p,q,r,s]:=by
 match l,h with
 | [p,q,r,s],_=>exact⟨p,q,r,s,rfl⟩
end Go.Num
namespace Go.Abs
open Go.Num
variable {P:Program} {Γ:Nat->Spec}
theorem gE1y(K:List C->Prop)(e0 e1:List C)(r:List (List C)):getE K (e0::e1::r) 1=K e1:=by simp [getE]
theorem gE2y(K:List C->Prop)(e0 e1 e2:List C)(r:List (List C)):getE K (e0::e1::e2::r) 2=K e2:=by simp [getE]
theorem gE3y(K:List C->Prop)(e0 e1 e2 e3:List C)(r:List (List C)):getE K (e0::e1::e2::e3::r) 3=K e3:=by simp [getE]
attribute [go_sem,go_sem ↓] gE1y gE2y gE3y
theorem jaz{h h' : Nat->HB}:okB h h' (some ⟨[[.lit .nilIface]],1,true⟩) (some ⟨[[.lit .nilIface]],1,true⟩):=
 ⟨⟨rfl,rfl⟩,.inl ⟨rfl,λe he c hc=>by
  rw [List.mem_singleton.1 he]at hc;rw [List.mem_singleton.1 hc];exact of_eq_true (XE _)⟩⟩
theorem yaw{h h' : Nat->HB}{p q r:List Mo}:okB h h' (some ⟨[[.slice (p.map mC),.slice (q.map mC),.slice (r.map mC)]],3,true⟩) (some ⟨[[.slice (p.map mC),.slice (q.map mC),.slice (r.map mC)]],3,true⟩):=
 ⟨⟨rfl,rfl⟩,.inl ⟨rfl,λe he c hc=>by
  rw [List.mem_singleton.1 he]at hc;simp only [List.mem_cons,List.not_mem_nil,or_false]at hc;rcases hc with rfl | rfl | rfl <;> exact of_eq_true (WF _)⟩⟩
theorem uu{h h' : Nat->HB}{es:List (List C)}{z:Nat}{b:Bool}(hc:CleanR es):okB h h' (some ⟨es,z,b⟩) (some ⟨es,z,b⟩):=⟨⟨rfl,rfl⟩,.inl ⟨rfl,hc⟩⟩
theorem cl3(p q r:List Mo):CleanL [.slice (p.map mC),.slice (q.map mC),.slice (r.map mC)]:=λc hc=>by
 simp only [List.mem_cons,List.not_mem_nil,or_false]at hc;rcases hc with rfl | rfl | rfl <;> exact of_eq_true (WF _)
theorem cR1{p q r:List Mo}:CleanR [[.slice (p.map mC),.slice (q.map mC),.slice (r.map mC)]]:=λe he=>by
 rw [List.mem_singleton.1 he];exact cl3 _ _ _
theorem cR2{p q r p' q' r' : List Mo}:CleanR [[.slice (p.map mC),.slice (q.map mC),.slice (r.map mC)],[.slice (p'.map mC),.slice (q'.map mC),.slice (r'.map mC)]]:=λe he=>by
 simp only [List.mem_cons,List.not_mem_nil,or_false]at he;rcases he with rfl | rfl <;> exact cl3 _ _ _
theorem cR3{p q r p' q' r' x y z:List Mo}:CleanR [[.slice (p.map mC),.slice (q.map mC),.slice (r.map mC)],[.slice (p'.map mC),.slice (q'.map mC),.slice (r'.map mC)],[.slice (x.map mC),.slice (y.map mC),.slice (z.map mC)]]:=λe he=>by
 simp only [List.mem_cons,List.not_mem_nil,or_false]at he;rcases he with rfl | rfl | rfl <;> exact cl3 _ _ _
def uz(tE:Nat)(l:List AV)(K:AV->Prop):Prop:=
 match l with
 | [a]=>onPs (λl=>okPs 100000000 l/\K (errV tE (fourC l))) a
 | _=>False
theorem vaZ tE a K:uz tE [a] K=(onPs (λl=>okPs 100000000 l/\K (errV tE (fourC l))) a):=propext Iff.rfl
@[congr] theorem ZbV tE{K}{l l'}(h:l=l'):uz tE l K=uz tE l' K:=by subst h;rfl
attribute [go_sem,go_sem ↓] vaZ
theorem QaR(tE:Nat):Good (uz tE):=Ya λas=>by
 unfold uz;split
 .exact(VB λ_=>(.and λ_=>(.ret _)))
 .exact .of λK hk=>hk.elim
def qA(l:List AV)(K:AV->Prop):Prop:=
 match l with
 | [a]=>onPs (λl=>okPs 1000 l/\fourC l=0/\K (.tup [.one (.slice ((mcs (bcL l)).map mC)),.one (.lit .nilIface)])) a
 | _=>False
theorem ja3 a K:qA [a] K=(onPs (λl=>okPs 1000 l/\fourC l=0/\K (.tup [.one (.slice ((mcs (bcL l)).map mC)),.one (.lit .nilIface)])) a):=propext Iff.rfl
@[congr] theorem vbU{K}{l l'}(h:l=l'):qA l K=qA l' K:=by subst h;rfl
attribute [go_sem,go_sem ↓] ja3
theorem yaU:Good qA:=Ya λas=>by
 unfold qA;split
 .exact(VB λ_=>(.and λ_=>(.and λ_=>(.ret _))))
 .exact .of λK hk=>hk.elim
def kG(tE:Nat)(l:List AV)(K:AV->Prop):Prop:=
 match l with
 | [a]=>onPs (λl=>okPs 1000 l/\K (.tup [.one (.slice ((bres (fourC l) (bcL l)).map mC)),errV tE (fourC l)])) a
 | _=>False
theorem XaK tE a K:kG tE [a] K=(onPs (λl=>okPs 1000 l/\K (.tup [.one (.slice ((bres (fourC l) (bcL l)).map mC)),errV tE (fourC l)])) a):=propext Iff.rfl
@[congr] theorem kbU tE{K}{l l'}(h:l=l'):kG tE l K=kG tE l' K:=by subst h;rfl
attribute [go_sem,go_sem ↓] XaK
theorem UaJ(tE:Nat):Good (kG tE):=Ya λas=>by
 unfold kG;split
 .exact(VB λ_=>(.and λ_=>(.ret _)))
 .exact .of λK hk=>hk.elim
def qf(f0 tE:Nat):AC:=(.seq (.ops false [.m 2 (.c (.one (.lit .nilIface)))])
 (.fg [0] (.seq (.seq (.ops false [.m 4 (.t 0),.u 5 (.call f0 [(.t 4)]),.m 3 (.t 5)])
 (.fg [0,3] (.seq (.ops false [.m 6 (.t 3),.u 7 (.binn .neq (.t 6) (.c (.one (.lit .nilIface))))])
 (.fg [0,3,7] (.cond (.t 7) (.seq (.ops false [.m 8 (.t 3),.m 2 (.t 8)])
 .ret) .skip)))))
 (.fg [0] (.seq (.seq (.ops false [.m 9 (.t 0),.u 10 (.len (.t 9)),.u 11 (.bin .neq (.t 10) (.i 4))])
 (.fg [11] (.cond (.t 11) (.seq (.ops false [.u 12 (.iface tE (.i 10)),.m 2 (.t 12)])
 .ret) .skip)))
 (.fg [] (.seq (.ops false [.m 2 (.c (.one (.lit .nilIface)))])
 .ret)))))))
def uk(f0 f1 f2 f3 f4 f5:Nat):AC:=(.seq (.ops false [.m 2 (.c (.one .emp)),.m 3 (.c (.one (.lit .nilIface)))])
 (.fg [0] (.seq (.ops false [.u 10 (.build [.z [(.lit .nilIface)]]),.u 11 (.box 1 (.t 10)),.m 4 (.t 11)])
 (.fg [0,4] (.seq (.ops false [.m 12 (.t 4),.m 13 (.t 0),.u 14 (.idx 10 (.t 13) (.i 0)),.u 15 (.ld none 10 true (.t 14)),.u 16 (.callr f0 [(.t 12),(.t 15)]),.u 5 (.alloc [.emp,.emp,.emp]),.n (.st none 3 (.t 5) (.t 16))])
 (.fg [0,4,5] (.seq (.ops false [.m 6 (.c (.one .emp))])
 (.fg [0,4,5,6] (.seq (.seq (.ops false [.m 17 (.t 0),.u 18 (.sl 10 (.t 17) (some (.i 1)) none),.u 19 (.len (.t 18)),.m 20 (.i 0)])
 (.fg [4,5,6,18,19,20] (.block 0 (.loop (.seq (.ops false [.u 21 (.bin .lss (.t 20) (.t 19))])
 (.fg [4,5,6,18,19,20,21] (.seq (.cond (.t 21) .skip (.exit 0))
 (.fg [4,5,6,18,19,20] (.seq (.block 1 (.seq (.ops false [.u 22 (.idx 10 (.t 18) (.t 20)),.u 23 (.ld none 10 true (.t 22)),.u 8 (.alloc [(.lit (.bool false)),.emp,.emp,(.lit (.bool false)),(.lit (.bool false)),.emp,.emp,(.lit (.bool false)),.emp,.emp]),.n (.st none 10 (.t 8) (.t 23))])
 (.fg [4,5,6,8,18,19,20] (.ops true [.m 24 (.t 6),.m 25 (.t 4),.m 26 (.t 4),.u 27 (.ld none 10 true (.t 8)),.u 28 (.callr f0 [(.t 26),(.t 27)]),.u 29 (.ld none 3 true (.t 5)),.u 30 (.callr f1 [(.t 25),(.t 28),(.t 29)]),.u 31 (.row 3 [[.x 3 (.t 30)]]),.u 32 (.app 3 (.t 24) (.t 31)),.m 6 (.t 32)]))))
 (.fg [4,5,6,18,19,20] (.ops false [.u 33 (.bin .add (.t 20) (.i 1)),.m 20 (.t 33)])))))))))))
 (.fg [4,6] (.seq (.ops true [.m 34 (.t 4),.m 35 (.t 6),.u 36 (.idx 3 (.t 35) (.i 0)),.u 37 (.fa 0 (.t 36)),.u 38 (.ld none 1 false (.t 37)),.m 39 (.t 4),.m 40 (.t 6),.u 41 (.idx 3 (.t 40) (.i 1)),.u 42 (.ld none 3 true (.t 41)),.m 43 (.t 6),.u 44 (.idx 3 (.t 43) (.i 2)),.u 45 (.ld none 3 true (.t 44)),.u 46 (.callr f2 [(.t 39),(.t 42),(.t 45)]),.u 47 (.callr f3 [(.t 34),(.t 38),(.t 46)]),.m 9 (.t 47)])
 (.fg [4,6,9] (.seq (.ops true [.m 48 (.t 4),.m 49 (.t 9),.m 50 (.t 4),.m 51 (.t 6),.u 52 (.idx 3 (.t 51) (.i 1)),.u 53 (.fa 0 (.t 52)),.u 54 (.ld none 1 false (.t 53)),.m 55 (.t 4),.m 56 (.t 6),.u 57 (.idx 3 (.t 56) (.i 0)),.u 58 (.ld none 3 true (.t 57)),.m 59 (.t 6),.u 60 (.idx 3 (.t 59) (.i 2)),.u 61 (.ld none 3 true (.t 60)),.u 62 (.callr f2 [(.t 55),(.t 58),(.t 61)]),.u 63 (.callr f3 [(.t 50),(.t 54),(.t 62)]),.u 64 (.callr f4 [(.t 48),(.t 49),(.t 63)]),.m 9 (.t 64)])
 (.fg [4,6,9] (.seq (.ops true [.m 65 (.t 4),.m 66 (.t 9),.m 67 (.t 4),.m 68 (.t 6),.u 69 (.idx 3 (.t 68) (.i 2)),.u 70 (.fa 0 (.t 69)),.u 71 (.ld none 1 false (.t 70)),.m 72 (.t 4),.m 73 (.t 6),.u 74 (.idx 3 (.t 73) (.i 0)),.u 75 (.ld none 3 true (.t 74)),.m 76 (.t 6),.u 77 (.idx 3 (.t 76) (.i 1)),.u 78 (.ld none 3 true (.t 77)),.u 79 (.callr f2 [(.t 72),(.t 75),(.t 78)]),.u 80 (.callr f3 [(.t 67),(.t 71),(.t 79)]),.u 81 (.callr f5 [(.t 65),(.t 66),(.t 80)]),.m 9 (.t 81)])
 (.fg [4,9] (.seq (.ops true [.m 82 (.t 9),.m 83 (.t 4),.u 84 (.nilck (.t 83)),.u 85 (.fa 0 (.t 84)),.u 86 (.ld none 1 false (.t 85)),.m 2 (.t 82),.m 3 (.t 86)])
 .ret)))))))))))))))))
def Zg(f0 f1:Nat):AC:=(.seq (.ops false [.m 2 (.c (.one .emp)),.m 3 (.c (.one (.lit .nilIface)))])
 (.fg [0] (.seq (.seq (.ops false [.m 5 (.t 0),.u 6 (.call f0 [(.t 5)]),.m 4 (.t 6)])
 (.fg [0,4] (.seq (.ops false [.m 7 (.t 4),.u 8 (.binn .neq (.t 7) (.c (.one (.lit .nilIface))))])
 (.fg [0,4,8] (.cond (.t 8) (.seq (.ops false [.m 9 (.t 4),.m 2 (.c (.one .emp)),.m 3 (.t 9)])
 .ret) .skip)))))
 (.fg [0] (.seq (.ops false [.m 10 (.t 0),.u 11 (.call f1 [(.t 10)]),.u 12 (.ext 0 (.t 11)),.u 13 (.ext 1 (.t 11)),.m 2 (.t 12),.m 3 (.t 13)])
 .ret)))))
theorem ZaI(hΓ:Holds P Γ){f fk tE:Nat}(hk:Γ fk=.dat false (XF tE))(hc:check P f=some (13,(qf fk tE).strip,[.tmp 2])):Sound P f (.dat false (uz tE)):=by
 refine Wa hc (QaR tE) hΓ (λargs K hcl hfi hG=>?_);match args,hG with
 | [a],hG=>
  obtain⟨l,rfl,hw,hl,hK⟩:=hG;refine⟨by simp,?_⟩
  by_cases h0:plchk l=0
  .have e0:=ub tE;by_cases h1:l.length=4
   .have ee:fourC l=0:=by unfold fourC;rw [if_neg (by omega),if_pos h1]
    rw [ee,e0]at hK;have h2:(((l.length:Nat):Int)=4)=True:=eq_true (by omega)
    simp only [go_sem,qf,hk,h0,e0,h2];repeat first | refine Ja (by omega) ?_ | refine Ja (by assumption) ?_ | refine Ja rfl ?_ | refine Ja ⟨rfl,by omega⟩ ?_ | refine Ja ⟨rfl,by omega,by omega⟩ ?_ | intro _
    exact hK
   .have ee:fourC l=10:=by unfold fourC;rw [if_neg (by omega),if_neg h1]
    have e1:=vc tE (by decide:(10:Nat)≠0)
    rw [ee,e1]at hK;have h2:(((l.length:Nat):Int)=4)=False:=eq_false (by omega)
    simp only [go_sem,qf,hk,h0,e0,h2];repeat first | refine Ja (by omega) ?_ | refine Ja (by assumption) ?_ | refine Ja rfl ?_ | refine Ja ⟨rfl,by omega⟩ ?_ | refine Ja ⟨rfl,by omega,by omega⟩ ?_ | intro _
    exact hK
  .have ee:fourC l=plchk l:=if_pos h0;have e1:=vc tE h0;rw [ee,e1]at hK;simp only [go_sem,qf,hk,e1];repeat first | refine Ja (by omega) ?_ | refine Ja (by assumption) ?_ | refine Ja rfl ?_ | refine Ja ⟨rfl,by omega⟩ ?_ | refine Ja ⟨rfl,by omega,by omega⟩ ?_ | intro _
   exact hK
set_option maxHeartbeats 2000000 in
theorem qaH(hΓ:Holds P Γ){f fp fl fn fm fs fa:Nat}(hp:Γ fp=.red UF)(hl:Γ fl=.red Zy)(hn:Γ fn=.red JF)(hm:Γ fm=.red QB)(hs:Γ fs=.red vB)(ha:Γ fa=.red wC)(hc:check P f=some (87,(uk fp fl fn fm fs fa).strip,[.tmp 2,.tmp 3])):Sound P f (.dat false qA):=by
 refine Wa hc yaU hΓ (λargs K hcl hfi hG=>?_);match args,hG with
 | [a],hG=>
  obtain⟨l,rfl,hw,hl0,h4,hK⟩:=hG;refine⟨by simp,?_⟩
  obtain⟨hlen,hval⟩:=vay h4;obtain⟨p,q,r,s,rfl⟩:=jbd hlen;simp only [List.all_cons,List.all_nil,Bool.and_true,Bool.and_eq_true]at hval;obtain⟨vp,vq,vr,vs⟩:=hval;have mp:=hl0 p (by simp)
  have mq:=hl0 q (by simp)
  have mr:=hl0 r (by simp)
  have ms':=hl0 s (by simp)
  have wp:=mp.1;have wq:=mq.1;have wr:=mr.1;have ws':=ms'.1;have lp:=mp.2;have lq:=mq.2;have lr:=mr.2;have ls:=ms'.2;have kp:=Vt wp lp;have kq:=Vt wq lq;have kr:=Vt wr lr;have ks:=Vt ws' ls;have eK:bcL [p,q,r,s]=ci3 (lsR (rwB (pv q)) (rwB (pv p))) (lsR (rwB (pv r)) (rwB (pv p))) (lsR (rwB (pv s)) (rwB (pv p))):=rfl;rw [eK]at hK;have Rp:=UC kp;have Rq:=UC kq;have Rr:=UC kr;have Rs:=UC ks;have o1:=Ubt kp kq;have o2:=Ubt kp kr;have o3:=Ubt kp ks;have D1:=rb_d kp kq;have D2:=rb_d kp kr;have D3:=rb_d kp ks;have u12:=kbr kp kq kr;have u13:=kbr kp kq ks;have u23:=kbr kp kr ks;obtain⟨A,hA⟩:∃A,rwB (pv p)=A:=⟨_,rfl⟩;obtain⟨B,hB⟩:∃A,rwB (pv q)=A:=⟨_,rfl⟩;obtain⟨D,hD⟩:∃A,rwB (pv r)=A:=⟨_,rfl⟩;obtain⟨E,hE⟩:∃A,rwB (pv s)=A:=⟨_,rfl⟩;rw [hA]at Rp;rw [hB]at Rq;rw [hD]at Rr;rw [hE]at Rs;rw [hA,hB]at o1 D1 hK;rw [hA,hD]at o2 D2;rw [hA,hE]at o3 D3;rw [hD,hE]at hK;rw [hA,hB,hD]at u12;rw [hA,hB,hE]at u13;rw [hA,hD,hE]at u23;obtain⟨F,hF⟩:∃x,lsR B A=x:=⟨_,rfl⟩;obtain⟨G,hG⟩:∃x,lsR D A=x:=⟨_,rfl⟩;obtain⟨H,hH⟩:∃x,lsR E A=x:=⟨_,rfl⟩;rw [hF]at D1 u12 u13 hK;rw [hG]at D2 u12 u23 hK;rw [hH]at D3 u13 u23 hK;obtain⟨A1,A2,A3⟩:=A;obtain⟨B1,B2,B3⟩:=B;obtain⟨C1,C2,C3⟩:=D;obtain⟨E1,E2,E3⟩:=E;obtain⟨F1,F2,F3⟩:=F;obtain⟨G1,G2,G3⟩:=G;obtain⟨H1,H2,H3⟩:=H;have cA:Canon A1/\Canon A2/\Canon A3:=⟨Rp.1.canon,Rp.2.1.canon,Rp.2.2.canon⟩;have cB:Canon B1/\Canon B2/\Canon B3:=⟨Rq.1.canon,Rq.2.1.canon,Rq.2.2.canon⟩;have cC:Canon C1/\Canon C2/\Canon C3:=⟨Rr.1.canon,Rr.2.1.canon,Rr.2.2.canon⟩;have cE:Canon E1/\Canon E2/\Canon E3:=⟨Rs.1.canon,Rs.2.1.canon,Rs.2.2.canon⟩;have cF:Canon F1/\Canon F2/\Canon F3:=⟨D1.1.canon,D1.2.1.canon,D1.2.2.canon⟩;have cG:Canon G1/\Canon G2/\Canon G3:=⟨D2.1.canon,D2.2.1.canon,D2.2.2.canon⟩;have cH:Canon H1/\Canon H2/\Canon H3:=⟨D3.1.canon,D3.2.1.canon,D3.2.2.canon⟩;simp only [go_sem,uk,hp,List.map_cons,List.map_nil,hA];have hL:∀e:List C,e∈[pC p,pC q,pC r,pC s]->e.length=10:=λe he=>by
   simp only [List.mem_cons,List.not_mem_nil,or_false]at he;rcases he with rfl | rfl | rfl | rfl <;> exact Wp _
  repeat first | refine Ja (by with_reducible assumption) ?_ | refine Ja (Nat.le_trans (by with_reducible assumption) (by decide)) ?_ | refine Ja (by decide) ?_
  refine Xa (λk:Nat=>if k=0 then ⟨mkV [(4,.one (.ptr 11 1 0 0)),(5,.one (.ptr 5 1 0 0)),(6,.one .emp),(18,.one (.slice [pC q,pC r,pC s])),(19,.one (.lit (.int .i64 ((3:Nat):Int)))),(20,.one (.lit (.int .i64 k)))],mkH [(5,⟨1,some ⟨[[.slice ((mcs A1).map mC),.slice ((mcs A2).map mC),.slice ((mcs A3).map mC)]],3,true⟩⟩),(11,⟨1,some ⟨[[.lit .nilIface]],1,true⟩⟩)]⟩ else ⟨mkV [(4,.one (.ptr 11 1 0 0)),(5,.one (.ptr 5 1 0 0)),(6,.one (.own 32 1 3 0 k)),(18,.one (.slice [pC q,pC r,pC s])),(19,.one (.lit (.int .i64 ((3:Nat):Int)))),(20,.one (.lit (.int .i64 k)))],mkH [(32,⟨1,some ⟨if k=1 then [[.slice ((mcs F1).map mC),.slice ((mcs F2).map mC),.slice ((mcs F3).map mC)]] else if k=2 then [[.slice ((mcs F1).map mC),.slice ((mcs F2).map mC),.slice ((mcs F3).map mC)],[.slice ((mcs G1).map mC),.slice ((mcs G2).map mC),.slice ((mcs G3).map mC)]] else [[.slice ((mcs F1).map mC),.slice ((mcs F2).map mC),.slice ((mcs F3).map mC)],[.slice ((mcs G1).map mC),.slice ((mcs G2).map mC),.slice ((mcs G3).map mC)],[.slice ((mcs H1).map mC),.slice ((mcs H2).map mC),.slice ((mcs H3).map mC)]],3,true⟩⟩),(5,⟨1,some ⟨[[.slice ((mcs A1).map mC),.slice ((mcs A2).map mC),.slice ((mcs A3).map mC)]],3,true⟩⟩),(11,⟨1,some ⟨[[.lit .nilIface]],1,true⟩⟩)]⟩) (λk=>k<=3) (λk=>3-k) 0 ?_ ?_ ?_
  .exact Qa (by simp [okS,okV,okC,okL,okH,okB,okE,ja,Va,qa,ka,wsA,ws]) ⟨yaw,jaz,trivial⟩
  .exact Nat.zero_le _
  .intro k hk3;have n10:¬(1=0):=by decide
   have n20:¬(2=0):=by decide
   have n30:¬(3=0):=by decide
   have n21:¬(2=1):=by decide
   have n31:¬(3=1):=by decide
   have n32:¬(3=2):=by decide
   have fF:∀e:List C,e∈[[.slice ((mcs F1).map mC),.slice ((mcs F2).map mC),.slice ((mcs F3).map mC)]]->e.length=3:=λe he=>by
    rw [List.mem_singleton.1 he];rfl
   have fG:∀e:List C,e∈[[.slice ((mcs G1).map mC),.slice ((mcs G2).map mC),.slice ((mcs G3).map mC)]]->e.length=3:=λe he=>by
    rw [List.mem_singleton.1 he];rfl
   have fH:∀e:List C,e∈[[.slice ((mcs H1).map mC),.slice ((mcs H2).map mC),.slice ((mcs H3).map mC)]]->e.length=3:=λe he=>by
    rw [List.mem_singleton.1 he];rfl
   match k,hk3 with
   | 0,_=>
    rw [if_pos rfl];simp only [go_sem,hp,hl,Qb,hB,hF];repeat first | refine Ja (by with_reducible assumption) ?_ | refine Ja (Nat.le_trans (by with_reducible assumption) (by decide)) ?_ | refine Ja (by decide) ?_
    refine⟨1,?_,by decide,by decide⟩
    rw [if_neg n10,if_pos rfl];exact Qa (by simp [okS,okV,okC,okL,okH,okB,okE,ja,Va,qa,ka,wsA,ws]) ⟨uu cR1,yaw,jaz,trivial⟩
   | 1,_=>
    rw [if_neg n10,if_pos rfl];simp only [go_sem,hp,hl,Qb,hD,hG];repeat first | refine Ja (by with_reducible assumption) ?_ | refine Ja (Nat.le_trans (by with_reducible assumption) (by decide)) ?_ | refine Ja (by decide) ?_
    refine⟨2,?_,by decide,by decide⟩
    rw [if_neg n20,if_neg n21,if_pos rfl];exact Qa (by simp [okS,okV,okC,okL,okH,okB,okE,ja,Va,qa,ka,wsA,ws]) ⟨uu cR2,yaw,jaz,trivial⟩
   | 2,_=>
    rw [if_neg n20,if_neg n21,if_pos rfl];simp only [go_sem,hp,hl,Qb,hE,hH];repeat first | refine Ja (by with_reducible assumption) ?_ | refine Ja (Nat.le_trans (by with_reducible assumption) (by decide)) ?_ | refine Ja (by decide) ?_
    refine⟨3,?_,by decide,by decide⟩
    rw [if_neg n30,if_neg n31,if_neg n32];exact Qa (by simp [okS,okV,okC,okL,okH,okB,okE,ja,Va,qa,ka,wsA,ws]) ⟨uu cR3,yaw,jaz,trivial⟩
   | 3,_=>
    rw [if_neg n30,if_neg n31,if_neg n32];have N1:=xH D2 D3;have N2:=xH D1 D3;have N3:=xH D1 D2;have F0:PB 2 218400 F1:=D1.1;have G0:PB 2 218400 G1:=D2.1;have H0:PB 2 218400 H1:=D3.1;obtain⟨m1,m2⟩:=F0.mulok N1 (by decide) (by decide)
    obtain⟨m3,m4⟩:=G0.mulok N2 (by decide) (by decide)
    obtain⟨m5,m6⟩:=H0.mulok N3 (by decide) (by decide)
    have t6:tri (2+1)=6:=rfl;have P1:=F0.mul N1 (by decide)
    have P2:=G0.mul N2 (by decide)
    have P3:=H0.mul N3 (by decide)
    rw [t6]at P1 P2 P3;have P4:=P1.sub P2;have N1c:=N1.canon;have N2c:=N2.canon;have N3c:=N3.canon;have P1c:=P1.canon;have P2c:=P2.canon;have P3c:=P3.canon;have P4c:=P4.canon;have k1:=Nat.le_trans (Nat.add_le_add P1.size P2.size) (by decide:_<=1000000000)
    have k2:=Nat.le_trans (Nat.add_le_add P4.size P3.size) (by decide:_<=1000000000)
    have F0c:=F0.canon;have G0c:=G0.canon;have H0c:=H0.canon;simp only [go_sem,hn,hm,hs,ha];repeat first | refine Ja (by with_reducible assumption) ?_ | refine Ja (Nat.le_trans (by with_reducible assumption) (by decide)) ?_ | refine Ja (by decide) ?_
    exact hK
theorem xaF(hΓ:Holds P Γ){f fk fb tE:Nat}(hk:Γ fk=.dat false (uz tE))(hb:Γ fb=.dat false qA)(hc:check P f=some (14,(Zg fk fb).strip,[.tmp 2,.tmp 3])):Sound P f (.dat false (kG tE)):=by
 refine Wa hc (UaJ tE) hΓ (λargs K hcl hfi hG=>?_);match args,hG with
 | [a],hG=>
  obtain⟨l,rfl,hw,hl,hK⟩:=hG;refine⟨by simp,?_⟩
  have hl2:=Vi hl (by decide:1000<=100000000)
  by_cases h0:fourC l=0
  .have e0:=ub tE;rw [h0,ZE,e0]at hK;simp only [go_sem,Zg,hk,hb,h0,e0];repeat first | refine Ja (by with_reducible assumption) ?_ | refine Ja (Nat.le_trans (by with_reducible assumption) (by decide)) ?_ | refine Ja (by decide) ?_
   exact hK
  .have e1:=vc tE h0;rw [yH h0,e1]at hK;simp only [go_sem,Zg,hk,e1];repeat first | refine Ja (by with_reducible assumption) ?_ | refine Ja (Nat.le_trans (by with_reducible assumption) (by decide)) ?_ | refine Ja (by decide) ?_
   exact hK
end Go.Abs
end
section
namespace Go.Num
open Go.Abs
theorem QD(a:V2):av (rcan a.1,rcan a.2)=a:=qbh a
theorem Jn(x:Rat):decide (ordQ x 0=0)=decide (x=0):=by rw [decide_eq_decide];exact Vq
theorem xo(x:Rat):(ordQ x 0=0)=(x=0):=propext Vq
instance decH(c:CpR)(a b:V2):Decidable (hldQ c a b):=inferInstanceAs (Decidable (_/\_/\_))
end Go.Num
namespace Go.Abs
open Go.Num
variable {P:Program} {Γ:Nat->Spec}
def ya8(tE:Nat)(l:List AV)(K:AV->Prop):Prop:=
 match l with
 | [c]=>onCp (λc=>cl c<=4000/\K (.tup [.one (.slice ((bres (cchk c) (cCur (cpv c))).map mC)),errV tE (cchk c)])) c
 | _=>False
theorem Va0 tE c K:ya8 tE [c] K=(onCp (λc=>cl c<=4000/\K (.tup [.one (.slice ((bres (cchk c) (cCur (cpv c))).map mC)),errV tE (cchk c)])) c):=propext Iff.rfl
@[congr] theorem ubS tE{K}{l l'}(h:l=l'):ya8 tE l K=ya8 tE l' K:=by subst h;rfl
attribute [go_sem,go_sem ↓] Va0
def kaK(tE:Nat)(l:List AV)(K:AV->Prop):Prop:=
 match l with
 | [c]=>onCp (λc=>cl c<=4000/\K (.tup [.one (.slice ((bres (cchk c) (cM (cpv c))).map mC)),errV tE (cchk c)])) c
 | _=>False
theorem uaX tE c K:kaK tE [c] K=(onCp (λc=>cl c<=4000/\K (.tup [.one (.slice ((bres (cchk c) (cM (cpv c))).map mC)),errV tE (cchk c)])) c):=propext Iff.rfl
@[congr] theorem qb2 tE{K}{l l'}(h:l=l'):kaK tE l K=kaK tE l' K:=by subst h;rfl
attribute [go_sem,go_sem ↓] uaX
def Qa5(tE:Nat)(l:List AV)(K:AV->Prop):Prop:=
 match l with
 | [c,p]=>onCp (λc=>onA (λp=>cl c<=4000/\al p<=10000/\K (.tup [.one (.lit (.bool (decide (cchk2 c [p]=0) && decide (wV (cpv c) (av p)=0)))),errV tE (cchk2 c [p])])) p) c
 | _=>False
theorem qaS tE c p K:Qa5 tE [c,p] K=(onCp (λc=>onA (λp=>cl c<=4000/\al p<=10000/\K (.tup [.one (.lit (.bool (decide (cchk2 c [p]=0) && decide (wV (cpv c) (av p)=0)))),errV tE (cchk2 c [p])])) p) c):=propext Iff.rfl
@[congr] theorem Qb0 tE{K}{l l'}(h:l=l'):Qa5 tE l K=Qa5 tE l' K:=by subst h;rfl
attribute [go_sem,go_sem ↓] qaS
def WaN(tE:Nat)(l:List AV)(K:AV->Prop):Prop:=
 match l with
 | [c,a,b]=>onCp (λc=>onA (λa=>onA (λb=>cl c<=10000/\al a<=10000/\al b<=10000/\K (.tup [pQ (if cchk2 c [a,b]=0 then ptQ (cpv c) (av a) (av b) else (0,0)),errV tE (cchk2 c [a,b])])) b) a) c
 | _=>False
theorem XaV tE c a b K:WaN tE [c,a,b] K=(onCp (λc=>onA (λa=>onA (λb=>cl c<=10000/\al a<=10000/\al b<=10000/\K (.tup [pQ (if cchk2 c [a,b]=0 then ptQ (cpv c) (av a) (av b) else (0,0)),errV tE (cchk2 c [a,b])])) b) a) c):=propext Iff.rfl
@[congr] theorem QbT tE{K}{l l'}(h:l=l'):WaN tE l K=WaN tE l' K:=by subst h;rfl
attribute [go_sem,go_sem ↓] XaV
def qa4(tE:Nat)(l:List AV)(K:AV->Prop):Prop:=
 match l with
 | [c,a,b]=>onCp (λc=>onA (λa=>onA (λb=>cl c<=10000/\al a<=10000/\al b<=10000/\K (.tup [.one (.lit (.bool (decide (cchk2 c [a,b]=0) && decide (hldQ (cpv c) (av a) (av b))))),errV tE (cchk2 c [a,b])])) b) a) c
 | _=>False
theorem ya2 tE c a b K:qa4 tE [c,a,b] K=(onCp (λc=>onA (λa=>onA (λb=>cl c<=10000/\al a<=10000/\al b<=10000/\K (.tup [.one (.lit (.bool (decide (cchk2 c [a,b]=0) && decide (hldQ (cpv c) (av a) (av b))))),errV tE (cchk2 c [a,b])])) b) a) c):=propext Iff.rfl
@[congr] theorem JbW tE{K}{l l'}(h:l=l'):qa4 tE l K=qa4 tE l' K:=by subst h;rfl
attribute [go_sem,go_sem ↓] ya2
end Go.Abs
end
