/-
  Parts of the proof, merged: PoseI, PoseK, CoupA, CoupB, CoupC, BurP, BurA, BurB, CoupD.
-/
import Derived.Test.YtneiiodebbmcaaaGreatDoorM9
set_option linter.unusedVariables false
set_option linter.unusedSimpArgs false
set_option maxRecDepth 100000
section
namespace Go.Num
open Go.Abs
abbrev CpQ:=V2×V2×Rat×Rat×Rat×Rat×Rat
def c0:CpQ:=((0,0),(0,0),0,0,0,0,0)
def timesQ(a b:V2):V2:=(a.1*b.1-a.2*b.2,a.1*b.2+a.2*b.1)
def barQ(a:V2):V2:=(a.1,-a.2)
def lnkC(A B:List V2)(m n:V2):Nat:=if m=n then 8 else if crV A=0 then 8 else if crV B=0 then 8 else if ciV A=ciV B then 8 else 0
def lnkQ(A B:List V2)(m n:V2):CpQ:=(ciV A,ciV B,sqQ (subQ (pt 0 A) (ciV A)),sqQ (subQ n m),sqQ (subQ (pt 0 B) (ciV B)),-(m.1*(subQ n m).1+m.2*(subQ n m).2) / sqQ (subQ n m),(m.1*(subQ n m).2-m.2*(subQ n m).1) / sqQ (subQ n m))
def lkC(l:List Ps)(m n:Arc):Nat:=if chkC l [m,n]≠0 then chkC l [m,n] else lnkC (imgs l m) (imgs l n) (av m) (av n)
end Go.Num
namespace Go.Abs
open Go.Num
variable {P:Program} {Γ:Nat->Spec}
def cqC(c:CpQ):List C:=[cb (rcan c.1.1),cn (rcan c.1.1),cd (rcan c.1.1),cb (rcan c.1.2),cn (rcan c.1.2),cd (rcan c.1.2),cb (rcan c.2.1.1),cn (rcan c.2.1.1),cd (rcan c.2.1.1),cb (rcan c.2.1.2),cn (rcan c.2.1.2),cd (rcan c.2.1.2),cb (rcan c.2.2.1),cn (rcan c.2.2.1),cd (rcan c.2.2.1),cb (rcan c.2.2.2.1),cn (rcan c.2.2.2.1),cd (rcan c.2.2.2.1),cb (rcan c.2.2.2.2.1),cn (rcan c.2.2.2.2.1),cd (rcan c.2.2.2.2.1),cb (rcan c.2.2.2.2.2.1),cn (rcan c.2.2.2.2.2.1),cd (rcan c.2.2.2.2.2.1),cb (rcan c.2.2.2.2.2.2),cn (rcan c.2.2.2.2.2.2),cd (rcan c.2.2.2.2.2.2)]
def cqA(c:CpQ):AV:=.agg (cqC c)
def cl(c:Cp):Nat:=max (al c.1) (max (al c.2.1) (max (rl c.2.2.1) (max (rl c.2.2.2.1) (max (rl c.2.2.2.2.1) (max (rl c.2.2.2.2.2.1) (rl c.2.2.2.2.2.2))))))
def Z9(l:List AV)(K:AV->Prop):Prop:=
 match l with
 | [a,b]=>onA (λp=>onA (λq=>al p<=100000000/\al q<=100000000/\K (pQ (timesQ (av p) (av q)))) b) a
 | _=>False
theorem wah a b K:Z9 [a,b] K=(onA (λp=>onA (λq=>al p<=100000000/\al q<=100000000/\K (pQ (timesQ (av p) (av q)))) b) a):=propext Iff.rfl
@[congr] theorem kbY{K}{l l'}(h:l=l'):Z9 l K=Z9 l' K:=by subst h;rfl
attribute [go_sem,go_sem ↓] wah
def Ua6(l:List AV)(K:AV->Prop):Prop:=
 match l with
 | [a]=>onA (λp=>al p<=100000000/\vldR p.1=true/\K (pQ (barQ (av p)))) a
 | _=>False
theorem Ubd a K:Ua6 [a] K=(onA (λp=>al p<=100000000/\vldR p.1=true/\K (pQ (barQ (av p)))) a):=propext Iff.rfl
@[congr] theorem Zca{K}{l l'}(h:l=l'):Ua6 l K=Ua6 l' K:=by subst h;rfl
attribute [go_sem,go_sem ↓] Ubd
def qat(tE:Nat)(l:List AV)(K:AV->Prop):Prop:=
 match l with
 | [a,b,c]=>onPs (λl=>onA (λm=>onA (λn=>okPs 1000 l/\al m<=10000/\al n<=10000/\K (.tup [cqA (if lkC l m n=0 then lnkQ (imgs l m) (imgs l n) (av m) (av n) else c0),errV tE (lkC l m n)])) c) b) a
 | _=>False
theorem Zaw tE a b c K:qat tE [a,b,c] K=(onPs (λl=>onA (λm=>onA (λn=>okPs 1000 l/\al m<=10000/\al n<=10000/\K (.tup [cqA (if lkC l m n=0 then lnkQ (imgs l m) (imgs l n) (av m) (av n) else c0),errV tE (lkC l m n)])) c) b) a):=propext Iff.rfl
@[congr] theorem vb5 tE{K}{l l'}(h:l=l'):qat tE l K=qat tE l' K:=by subst h;rfl
attribute [go_sem,go_sem ↓] Zaw
def Qav(l:List AV)(K:AV->Prop):Prop:=
 match l with
 | [a,b,c]=>onPs (λl=>onA (λm=>onA (λn=>okPs 1000 l/\al m<=10000/\al n<=10000/\l.length=3/\K (.tup [cqA (if lnkC (imgs l m) (imgs l n) (av m) (av n)=0 then lnkQ (imgs l m) (imgs l n) (av m) (av n) else c0),.one (.lit (.int .i64 (lnkC (imgs l m) (imgs l n) (av m) (av n):Nat)))])) c) b) a
 | _=>False
theorem uaE a b c K:Qav [a,b,c] K=(onPs (λl=>onA (λm=>onA (λn=>okPs 1000 l/\al m<=10000/\al n<=10000/\l.length=3/\K (.tup [cqA (if lnkC (imgs l m) (imgs l n) (av m) (av n)=0 then lnkQ (imgs l m) (imgs l n) (av m) (av n) else c0),.one (.lit (.int .i64 (lnkC (imgs l m) (imgs l n) (av m) (av n):Nat)))])) c) b) a):=propext Iff.rfl
@[congr] theorem vb3{K}{l l'}(h:l=l'):Qav l K=Qav l' K:=by subst h;rfl
attribute [go_sem,go_sem ↓] uaE
end Go.Abs
end
section
namespace Go.Num
open Go.Abs
abbrev Cp5:=R×R×R×R×R
instance decC5:DecidableEq Cp5:=λa b=>decidable_of_iff (a.1=b.1/\a.2.1=b.2.1/\a.2.2.1=b.2.2.1/\a.2.2.2.1=b.2.2.2.1/\a.2.2.2.2=b.2.2.2.2) ⟨λ⟨h1,h2,h3,h4,h5⟩=>Prod.ext h1 (Prod.ext h2 (Prod.ext h3 (Prod.ext h4 h5))),λh=>by subst h;exact⟨rfl,rfl,rfl,rfl,rfl⟩⟩
instance decCp:DecidableEq Cp:=λa b=>decidable_of_iff (a.1=b.1/\a.2.1=b.2.1/\(a.2.2:Cp5)=b.2.2) ⟨λ⟨h1,h2,h3⟩=>Prod.ext h1 (Prod.ext h2 h3),λh=>by subst h;exact⟨rfl,rfl,rfl⟩⟩
end Go.Num
namespace Go.Abs
open Go.Num
variable {P:Program} {Γ:Nat->Spec}
def cpC(c:Cp):List C:=[cb c.1.1,cn c.1.1,cd c.1.1,cb c.1.2,cn c.1.2,cd c.1.2,cb c.2.1.1,cn c.2.1.1,cd c.2.1.1,cb c.2.1.2,cn c.2.1.2,cd c.2.1.2,cb c.2.2.1,cn c.2.2.1,cd c.2.2.1,cb c.2.2.2.1,cn c.2.2.2.1,cd c.2.2.2.1,cb c.2.2.2.2.1,cn c.2.2.2.2.1,cd c.2.2.2.2.1,cb c.2.2.2.2.2.1,cn c.2.2.2.2.2.1,cd c.2.2.2.2.2.1,cb c.2.2.2.2.2.2,cn c.2.2.2.2.2.2,cd c.2.2.2.2.2.2]
def cpA(c:Cp):AV:=.agg (cpC c)
theorem YbT{x y:R}(h1:cb x=cb y)(h2:cn x=cn y)(h3:cd x=cd y):x=y:=Yt _ _ (by simp only [rA];rw [h1,h2,h3])
def onCp(k:Cp->Prop)(a:AV):Prop:=onE cpA (λc=>WLC c/\k c) a
@[congr] theorem jch{k:Cp->Prop}{a a'}(h:a=a'):onCp k a=onCp k a':=by subst h;rfl
theorem zbx(k:Cp->Prop)(a1 a2 a3 b1 b2 b3 c1 c2 c3 d1 d2 d3 e1 e2 e3 f1 f2 f3 g1 g2 g3 h1 h2 h3 i1 i2 i3:C):onCp k (.agg [a1,a2,a3,b1,b2,b3,c1,c2,c3,d1,d2,d3,e1,e2,e3,f1,f2,f3,g1,g2,g3,h1,h2,h3,i1,i2,i3]) =
  onO (λa=>onO (λb=>onO (λc=>onO (λd=>onO (λe=>onO (λf=>onO (λg=>onO (λh=>onO (λi=>WLC ((a,b),(c,d),e,f,g,h,i)/\k ((a,b),(c,d),e,f,g,h,i)) (dR i1 i2 i3)) (dR h1 h2 h3)) (dR g1 g2 g3)) (dR f1 f2 f3)) (dR e1 e2 e3)) (dR d1 d2 d3)) (dR c1 c2 c3)) (dR b1 b2 b3)) (dR a1 a2 a3):=by
 refine propext ⟨λ⟨t,h,hh⟩=>?_,λh=>?_⟩
 .simp only [cpA,cpC,AV.agg.injEq,List.cons.injEq,and_true]at h;obtain⟨rfl,rfl,rfl,rfl,rfl,rfl,rfl,rfl,rfl,rfl,rfl,rfl,rfl,rfl,rfl,rfl,rfl,rfl,rfl,rfl,rfl,rfl,rfl,rfl,rfl,rfl,rfl⟩:=h;simp only [dR_e,VP];exact hh
 .obtain⟨a,ha,q1⟩:=Uc.1 h;obtain⟨b,hb,q2⟩:=Uc.1 q1;obtain⟨c,hc,q3⟩:=Uc.1 q2;obtain⟨d,hd,q4⟩:=Uc.1 q3;obtain⟨e,he,q5⟩:=Uc.1 q4;obtain⟨f,hf,q6⟩:=Uc.1 q5;obtain⟨g,hg,q7⟩:=Uc.1 q6;obtain⟨hh,hhh,q8⟩:=Uc.1 q7;obtain⟨i,hi,q9⟩:=Uc.1 q8;obtain⟨rfl,rfl,rfl⟩:=jd.1 ha;obtain⟨rfl,rfl,rfl⟩:=jd.1 hb;obtain⟨rfl,rfl,rfl⟩:=jd.1 hc;obtain⟨rfl,rfl,rfl⟩:=jd.1 hd;obtain⟨rfl,rfl,rfl⟩:=jd.1 he;obtain⟨rfl,rfl,rfl⟩:=jd.1 hf;obtain⟨rfl,rfl,rfl⟩:=jd.1 hg;obtain⟨rfl,rfl,rfl⟩:=jd.1 hhh;obtain⟨rfl,rfl,rfl⟩:=jd.1 hi;exact⟨((a,b),(c,d),e,f,g,hh,i),rfl,q9⟩
attribute [go_sem,go_sem ↓] zbx
def Qaa(l:List AV)(K:AV->Prop):Prop:=
 match l with
 | [a,b]=>onCp (λc=>onCp (λd=>cl c<=4294967296/\K (.one (.lit (.bool (decide (c=d)))))) b) a
 | _=>False
theorem zaf a b K:Qaa [a,b] K=(onCp (λc=>onCp (λd=>cl c<=4294967296/\K (.one (.lit (.bool (decide (c=d)))))) b) a):=propext Iff.rfl
@[congr] theorem ubW{K}{l l'}(h:l=l'):Qaa l K=Qaa l' K:=by subst h;rfl
attribute [go_sem,go_sem ↓] zaf
def YG(l:List AV)(K:AV->Prop):Prop:=
 match l with
 | [a,b,c]=>onPs (λl=>onDy (λd=>onA (λn=>okPs 1048576 l/\dl d<=1048576/\al n<=1048576/\K (.one (.lit (.bool true)))) c) b) a
 | _=>False
theorem UK a b c K:YG [a,b,c] K=(onPs (λl=>onDy (λd=>onA (λn=>okPs 1048576 l/\dl d<=1048576/\al n<=1048576/\K (.one (.lit (.bool true)))) c) b) a):=propext Iff.rfl
@[congr] theorem uby{K}{l l'}(h:l=l'):YG l K=YG l' K:=by subst h;rfl
attribute [go_sem,go_sem ↓] UK
end Go.Abs
end
section
namespace Go.Num
open Go.Abs
theorem wbJ{p q:BQ}(h:mcs p=mcs q):p=q:=by rw [<-qH p,h,qH]
theorem vG{p:BQ}{N:Nat}(h:sz p<=N):∀t∈mcs p,rl t.2.2<=N:=λt ht=>by
 obtain⟨u,hu,rfl⟩:=List.mem_map.1 ht;have h1:=Ybn hu;have h2:rl (mcan u).2.2=rz u.2.2:=rfl;omega
theorem wab{p q:BQ}(hp:Canon p)(hq:Canon q):chk2 (mcs p) (mcs q)=0:=by unfold chk2;rw [WH hp,if_neg (by decide),WH hq]
theorem xbl{p q:BQ}(hp:Canon p)(hq:Canon q)(hd:degB p+degB q<=24):mulC (mcs p) (mcs q)=0:=by
 unfold mulC;rw [wab hp hq,if_neg (by decide),kx,kx,if_neg (by omega)]
theorem Va5{p:BQ}(hp:Canon p){d:Nat}(hd:Deg d p):degB p<=d:=by
 unfold degB;cases hl:p.getLast? with
 | none=>simp only;omega
 | some u=>exact hd u (List.mem_of_getLast? hl)
theorem PB.dd{d s e t:Nat}{p q:BQ}(hp:PB d s p)(hq:PB e t q)(h:d+e<=24):degB p+degB q<=24:=by
 have h1:=Va5 hp.canon hp.deg;have h2:=Va5 hq.canon hq.deg;omega
theorem XaZ{p q:BQ}(hp:Canon p)(hq:Canon q):Canon (addB p q):=Wp (yf.2 ⟨hp.ins,hq.ins⟩)
theorem zbd{p q:BQ}(hp:Canon p)(hq:Canon q):Canon (subB p q):=Wp (yf.2 ⟨hp.ins,W6 hq.ins⟩)
theorem ja3{p q:BQ}(hp:Canon p)(hq:Canon q)(hd:degB p+degB q<=24):Canon (mulB p q):=by
 refine Wp λt ht=>?_;obtain⟨a,ha,hb⟩:=List.mem_flatMap.1 ht;obtain⟨b,hb',rfl⟩:=List.mem_map.1 hb;obtain⟨x1,x2,x3⟩:=hp.ins a ha;obtain⟨y1,y2,y3⟩:=hq.ins b hb';have h1:=xQ hp a ha;have h2:=xQ hq b hb';unfold inQ mulT;simp only;omega
end Go.Num
namespace Go.Abs
open Go.Num
variable {P:Program} {Γ:Nat->Spec}
def bC(p:BQ):C:=.slice ((mcs p).map mC)
def onB(k:BQ->Prop)(a:AV):Prop:=∃p,a=.one (bC p)/\Canon p/\k p
@[congr] theorem Uch{k:BQ->Prop}{a a'}(h:a=a'):onB k a=onB k a':=by subst h;rfl
theorem yY{p q:BQ}(h:bC p=bC q):p=q:=by
 simp only [bC,C.slice.injEq]at h;exact wbJ (uq h)
theorem Vb0(k:BQ->Prop)(p:BQ):onB k (.one (bC p))=(Canon p/\k p):=by
 refine propext ⟨λ⟨x,h,h1,h2⟩=>?_,λh=>⟨p,rfl,h⟩⟩;simp only [AV.one.injEq]at h;have:=yY h;subst this;exact⟨h1,h2⟩
theorem VbK(k:BQ->Prop)(p:BQ):onB k (.one (.slice ((mcs p).map mC)))=(Canon p/\k p):=Vb0 k p
theorem zav{β:Type}{T:BQ->(β->Prop)->Prop}(h:∀p,GoodT (T p)){a:AV}:GoodT λK=>onB (λp=>T p K) a:=
 .of λK hx=>by
  obtain⟨p,rfl,hc,hk⟩:=hx;have:(λK=>onB (λp=>T p K) (.one (bC p)))=λK=>Canon p/\T p K:=funext λK=>Vb0 _ p;rw [this];exact .and λ_=>h p
def onV(k:BQ×BQ->Prop)(a:AV):Prop:=∃p q,a=.agg [bC p,bC q]/\(Canon p/\Canon q)/\k (p,q)
@[congr] theorem Vch{k:BQ×BQ->Prop}{a a'}(h:a=a'):onV k a=onV k a':=by subst h;rfl
theorem xcc(k:BQ×BQ->Prop)(p q:BQ):onV k (.agg [bC p,bC q])=((Canon p/\Canon q)/\k (p,q)):=by
 refine propext ⟨λ⟨x,y,h,h1,h2⟩=>?_,λh=>⟨p,q,rfl,h⟩⟩;simp only [AV.agg.injEq,List.cons.injEq,and_true]at h;obtain⟨e1,e2⟩:=h;have:=yY e1;have:=yY e2
 subst_vars;exact⟨h1,h2⟩
theorem jbO(k:BQ×BQ->Prop)(p q:BQ):onV k (.agg [.slice ((mcs p).map mC),.slice ((mcs q).map mC)])=((Canon p/\Canon q)/\k (p,q)):=xcc k p q
theorem qb1(p:BQ):bC p=.slice ((mcs p).map mC):=eq_of_heq (HEq.refl _)
attribute [go_sem,go_sem ↓] VbK jbO qb1
def Qv(l:List AV)(K:AV->Prop):Prop:=
 match l with
 | [p,e]=>e=.one (.lit .nilIface)/\onB (λp=>K (.one (bC p))) p
 | _=>False
theorem ZaE p e K:Qv [p,e] K=(e=.one (.lit .nilIface)/\onB (λp=>K (.one (bC p))) p):=propext Iff.rfl
@[congr] theorem jb5{K}{l l'}(h:l=l'):Qv l K=Qv l' K:=by subst h;rfl
attribute [go_sem,go_sem ↓] ZaE
theorem ZaQ:Good Qv:=Wa λas=>by
 unfold Qv;split
 .exact(.and λ_=>(zav λ_=>(.ret _)))
 .exact .of λK hk=>hk.elim
def WI(l:List AV)(K:AV->Prop):Prop:=
 match l with
 | [a,b]=>onB (λp=>onB (λq=>sz p+sz q<=1000000000/\K (.one (bC (addB p q)))) b) a
 | _=>False
theorem Va7 a b K:WI [a,b] K=(onB (λp=>onB (λq=>sz p+sz q<=1000000000/\K (.one (bC (addB p q)))) b) a):=propext Iff.rfl
@[congr] theorem Vb7{K}{l l'}(h:l=l'):WI l K=WI l' K:=by subst h;rfl
attribute [go_sem,go_sem ↓] Va7
theorem Qba:Good WI:=Wa λas=>by
 unfold WI;split
 .exact(zav λ_=>(zav λ_=>(.and λ_=>(.ret _))))
 .exact .of λK hk=>hk.elim
def ZG(l:List AV)(K:AV->Prop):Prop:=
 match l with
 | [a,b]=>onB (λp=>onB (λq=>sz p+sz q<=1000000000/\K (.one (bC (subB p q)))) b) a
 | _=>False
theorem vbg a b K:ZG [a,b] K=(onB (λp=>onB (λq=>sz p+sz q<=1000000000/\K (.one (bC (subB p q)))) b) a):=propext Iff.rfl
@[congr] theorem kcf{K}{l l'}(h:l=l'):ZG l K=ZG l' K:=by subst h;rfl
attribute [go_sem,go_sem ↓] vbg
theorem ybf:Good ZG:=Wa λas=>by
 unfold ZG;split
 .exact(zav λ_=>(zav λ_=>(.and λ_=>(.ret _))))
 .exact .of λK hk=>hk.elim
def JG(l:List AV)(K:AV->Prop):Prop:=
 match l with
 | [a,b]=>onB (λp=>onB (λq=>sz p+sz q<=3000000/\degB p+degB q<=24/\K (.one (bC (mulB p q)))) b) a
 | _=>False
theorem Wbh a b K:JG [a,b] K=(onB (λp=>onB (λq=>sz p+sz q<=3000000/\degB p+degB q<=24/\K (.one (bC (mulB p q)))) b) a):=propext Iff.rfl
@[congr] theorem xcd{K}{l l'}(h:l=l'):JG l K=JG l' K:=by subst h;rfl
attribute [go_sem,go_sem ↓] Wbh
theorem Wbd:Good JG:=Wa λas=>by
 unfold JG;split
 .exact(zav λ_=>(zav λ_=>(.and λ_=>(.and λ_=>(.ret _)))))
 .exact .of λK hk=>hk.elim
def yac(l:List AV)(K:AV->Prop):Prop:=
 match l with
 | [a,x]=>onB (λp=>onR (λx=>rl x<=1000000/\sz p<=100000000/\K (.one (bC (sclB (rv x) p)))) x) a
 | _=>False
theorem vah a x K:yac [a,x] K=(onB (λp=>onR (λx=>rl x<=1000000/\sz p<=100000000/\K (.one (bC (sclB (rv x) p)))) x) a):=propext Iff.rfl
@[congr] theorem jbN{K}{l l'}(h:l=l'):yac l K=yac l' K:=by subst h;rfl
attribute [go_sem,go_sem ↓] vah
def Wa9(l:List AV)(K:AV->Prop):Prop:=
 match l with
 | [b,x]=>asBool (λb=>onR (λx=>rl x<=1000000/\K (.one (bC (linB b (rv x))))) x) b
 | _=>False
theorem WaX b x K:Wa9 [b,x] K=(asBool (λb=>onR (λx=>rl x<=1000000/\K (.one (bC (linB b (rv x))))) x) b):=propext Iff.rfl
@[congr] theorem Qce{K}{l l'}(h:l=l'):Wa9 l K=Wa9 l' K:=by subst h;rfl
attribute [go_sem,go_sem ↓] WaX
def za8(l:List AV)(K:AV->Prop):Prop:=
 match l with
 | [x]=>onR (λx=>rl x<=1000000/\vldR x=true/\K (.one (bC (conB (rv x))))) x
 | _=>False
theorem JaV x K:za8 [x] K=(onR (λx=>rl x<=1000000/\vldR x=true/\K (.one (bC (conB (rv x))))) x):=propext Iff.rfl
@[congr] theorem yca{K}{l l'}(h:l=l'):za8 l K=za8 l' K:=by subst h;rfl
attribute [go_sem,go_sem ↓] JaV
def Ug:AC:=(.o [.m 6 (.c (.one .emp))] [0,1,2] (.f (.o [.M 7 0,.u 8 (.nilck (.t 7)),.A 9 0 8,.F 10 1 9,.u 11 (.binn .eql (.t 10) (.c (.one (.lit .nilIface))))] [0,1,2,11] (.cond (.t 11) (.p [.M 12 0,.M 13 2,.u 14 (.nilck (.t 12)),.A 15 0 14,.S 1 15 13]) .skip)) [1] (.seq (.p [.M 16 1,.M 6 16]) .ret)))
def vh(f0 f1:Nat):AC:=(.o [.m 6 (.c (.one .emp))] [0,1,2] (.seq (.p [.M 7 0,.M 8 1,.M 9 2,.D 10 f0 8 9,.X 11 0 10,.X 12 1 10,.u 13 (.callr f1 [(.t 7),(.t 11),(.t 12)]),.M 6 13]) .ret))
def wh(f0 f1:Nat):AC:=(.o [.m 6 (.c (.one .emp))] [0,1,2] (.seq (.p [.M 7 0,.M 8 1,.M 9 2,.D 10 f0 8 9,.X 11 0 10,.X 12 1 10,.u 13 (.callr f1 [(.t 7),(.t 11),(.t 12)]),.M 6 13]) .ret))
def Vh(f0 f1:Nat):AC:=(.o [.m 6 (.c (.one .emp))] [0,1,2] (.seq (.p [.M 7 0,.M 8 1,.M 9 2,.D 10 f0 8 9,.X 11 0 10,.X 12 1 10,.u 13 (.callr f1 [(.t 7),(.t 11),(.t 12)]),.M 6 13]) .ret))
theorem qN{h:Nat->HB}{r ver:Nat}(hr:h r=⟨ver,some mk0⟩):upd h r ⟨ver,some ⟨[[.lit .nilIface]],1,true⟩⟩=h:=kbn hr
theorem Qas(hΓ:Xa P Γ){f:Nat}(hc:check P f=some (17,Ug.strip,[.tmp 6])):ua P f (.red Qv):=by
 refine Ws hc ZaQ hΓ (λrest h r ver K hr hcl hfi hG=>?_);match rest,hG with
 | [a,b],hG=>
  obtain⟨rfl,p,rfl,hp,hK⟩:=hG;refine⟨by simp,?_⟩
  simp only [go_sem,Ug,hr];rw [qN hr];exact hK
theorem QaQ(hΓ:Xa P Γ){f fa ft tE:Nat}(ha:Γ fa=.dat false (VL tE))(ht:Γ ft=.red Qv)(hc:check P f=some (14,(vh fa ft).strip,[.tmp 6])):ua P f (.red WI):=by
 refine Ws hc Qba hΓ (λrest h r ver K hr hcl hfi hG=>?_);match rest,hG with
 | [a,b],hG=>
  obtain⟨p,rfl,hp,q,rfl,hq,hsz,hK⟩:=hG;refine⟨by simp,?_⟩
  have hc0:=wab hp hq;have hrp:=vG (p:=p) (N:=4294967296) (by omega)
  have hrq:=vG (p:=q) (N:=4294967296) (by omega)
  simp only [go_sem,vh,hr,ha,ht,hc0,qH,yC,Qc];refine⟨uy hp.ins,uy hq.ins,hrp,hrq,hsz,XaZ hp hq,?_⟩;rw [qN hr];exact hK
theorem uaM(hΓ:Xa P Γ){f fa ft tE:Nat}(ha:Γ fa=.dat false (yK tE))(ht:Γ ft=.red Qv)(hc:check P f=some (14,(wh fa ft).strip,[.tmp 6])):ua P f (.red ZG):=by
 refine Ws hc ybf hΓ (λrest h r ver K hr hcl hfi hG=>?_);match rest,hG with
 | [a,b],hG=>
  obtain⟨p,rfl,hp,q,rfl,hq,hsz,hK⟩:=hG;refine⟨by simp,?_⟩
  have hc0:=wab hp hq;have hrp:=vG (p:=p) (N:=1000000000) (by omega)
  have hrq:=vG (p:=q) (N:=1000000000) (by omega)
  simp only [go_sem,wh,hr,ha,ht,hc0,qH,yC,Qc];refine⟨uy hp.ins,uy hq.ins,hrp,hrq,hsz,zbd hp hq,?_⟩;rw [qN hr];exact hK
theorem kaR(hΓ:Xa P Γ){f fa ft tE:Nat}(ha:Γ fa=.dat false (YM tE))(ht:Γ ft=.red Qv)(hc:check P f=some (14,(Vh fa ft).strip,[.tmp 6])):ua P f (.red JG):=by
 refine Ws hc Wbd hΓ (λrest h r ver K hr hcl hfi hG=>?_);match rest,hG with
 | [a,b],hG=>
  obtain⟨p,rfl,hp,q,rfl,hq,hsz,hd,hK⟩:=hG;refine⟨by simp,?_⟩
  have hc0:=xbl hp hq hd;have hrp:=vG (p:=p) (N:=1000000000) (by omega)
  have hrq:=vG (p:=q) (N:=1000000000) (by omega)
  simp only [go_sem,Vh,hr,ha,ht,hc0,qH,yC,Qc];refine⟨uy hp.ins,uy hq.ins,hrp,hrq,hsz,ja3 hp hq hd,?_⟩;rw [qN hr];exact hK
end Go.Abs
end
section
namespace Go.Num
open Go.Abs
def cps3(c:Cp):List R:=[c.2.2.1,c.2.2.2.1,c.2.2.2.2.1]
def cps5(c:Cp):List R:=[c.2.2.1,c.2.2.2.1,c.2.2.2.2.1,c.2.2.2.2.2.1,c.2.2.2.2.2.2]
def gt0R(x:R):Bool:=decide (0<rv x)
def cchk(c:Cp):Nat:=if avld c.1=false∨avld c.2.1=false then 2 else if (cps5 c).all vldR=false then 2 else if (cps3 c).all gt0R=false then 3 else if av c.1=av c.2.1 then 8 else 0
def cpv(c:Cp):CpR:=(av c.1,av c.2.1,rv c.2.2.1,rv c.2.2.2.1,rv c.2.2.2.2.1,rv c.2.2.2.2.2.1,rv c.2.2.2.2.2.2)
def cchk2(c:Cp)(l:List Arc):Nat:=if cchk c≠0 then cchk c else if l.all avld=false then 2 else 0
end Go.Num
namespace Go.Abs
open Go.Num
variable {P:Program} {Γ:Nat->Spec}
def jbb(l:List AV)(K:AV->Prop):Prop:=
 match l with
 | [a,b]=>onR (λx=>onR (λy=>rl x<=100000000/\rl y<=100000000/\K (rQ (sqQ (rv x,rv y)))) b) a
 | _=>False
theorem Ua1 a b K:jbb [a,b] K=(onR (λx=>onR (λy=>rl x<=100000000/\rl y<=100000000/\K (rQ (sqQ (rv x,rv y)))) b) a):=propext Iff.rfl
@[congr] theorem Xb7{K}{l l'}(h:l=l'):jbb l K=jbb l' K:=by subst h;rfl
attribute [go_sem,go_sem ↓] Ua1
def VbD(l:List AV)(K:AV->Prop):Prop:=
 match l with
 | [a,b,c]=>onA (λp=>onR (λu=>onR (λv=>al p<=100000000/\rl u<=100000000/\rl v<=100000000/\K (pQ (timQ (av p) (rv u) (rv v)))) c) b) a
 | _=>False
theorem ybs a b c K:VbD [a,b,c] K=(onA (λp=>onR (λu=>onR (λv=>al p<=100000000/\rl u<=100000000/\rl v<=100000000/\K (pQ (timQ (av p) (rv u) (rv v)))) c) b) a):=propext Iff.rfl
@[congr] theorem xch{K}{l l'}(h:l=l'):VbD l K=VbD l' K:=by subst h;rfl
attribute [go_sem,go_sem ↓] ybs
def vbh(l:List AV)(K:AV->Prop):Prop:=
 match l with
 | [a,b]=>onA (λp=>onA (λq=>al p<=10000000/\al q<=10000000/\K (rQ (sqQ (subQ (av p) (av q))))) b) a
 | _=>False
theorem wa6 a b K:vbh [a,b] K=(onA (λp=>onA (λq=>al p<=10000000/\al q<=10000000/\K (rQ (sqQ (subQ (av p) (av q))))) b) a):=propext Iff.rfl
@[congr] theorem uce{K}{l l'}(h:l=l'):vbh l K=vbh l' K:=by subst h;rfl
attribute [go_sem,go_sem ↓] wa6
def VaY(tE:Nat)(l:List AV)(K:AV->Prop):Prop:=
 match l with
 | [a]=>onCp (λc=>cl c<=100000000/\K (errV tE (cchk c))) a
 | _=>False
theorem qa3 tE a K:VaY tE [a] K=(onCp (λc=>cl c<=100000000/\K (errV tE (cchk c))) a):=propext Iff.rfl
@[congr] theorem ucf tE{K}{l l'}(h:l=l'):VaY tE l K=VaY tE l' K:=by subst h;rfl
attribute [go_sem,go_sem ↓] qa3
def jat(tE:Nat)(l:List AV)(K:AV->Prop):Prop:=
 match l with
 | [a,b]=>onCp (λc=>onAs (λl=>cl c<=100000000/\okAs 100000000 l/\K (errV tE (cchk2 c l))) b) a
 | _=>False
theorem Yay tE a b K:jat tE [a,b] K=(onCp (λc=>onAs (λl=>cl c<=100000000/\okAs 100000000 l/\K (errV tE (cchk2 c l))) b) a):=propext Iff.rfl
@[congr] theorem Ub2 tE{K}{l l'}(h:l=l'):jat tE l K=jat tE l' K:=by subst h;rfl
attribute [go_sem,go_sem ↓] Yay
def kf(f0:Nat):AC:=(.o [.K 1 6 0,.m 2 .fa] [1] (.seq (.p [.A 3 0 1,.L 4 3 3,.H 5 f0 4,.M 6 5,.T 7 6 true 3 1,.U 8 6 true 3 true 7,.W 9 6 true f0 8,.P 10 6 9,.M 2 10]) .ret))
def Jr(f0:Nat):AC:=(.o [.K 2 6 0,.K 3 6 1,.G 4 [.z,.emp,.emp,.z,.emp,.emp]] [2,3,4] (.seq (.y [.A 5 0 2,.L 6 3 5,.A 7 0 3,.L 8 3 7,.D 9 f0 6 8,.A 10 3 2,.L 11 3 10,.A 12 3 3,.L 13 3 12,.D 14 f0 11 13,.u 15 (.build [.x 3 (.t 9),.x 3 (.t 14)]),.S 6 4 15]) .ret))
theorem YE(hΓ:Xa P Γ){f fv:Nat}(hv:Γ fv=.dat true qf)(hc:check P f=some (11,(kf fv).strip,[.tmp 2])):ua P f (.dat true Uk):=by
 refine ka hc xav hΓ (λargs K hcl hfi hG=>?_);match args,hG with
 | [a],hG=>
  obtain⟨⟨x,y⟩,rfl,⟨wx,wy⟩,hl,hK⟩:=hG;refine⟨by simp,?_⟩
  have hl':=Nat.max_le.1 hl;simp only at wx wy hl';unfold avld at hK;simp only at hK;cases hx:vldR x with
  | true=>
   rw [hx,Bool.true_and]at hK;simp only [go_sem,kf,hv,ze,hx];repeat first | refine Wk ?_ | intro _
   exact hK
  | false=>
   rw [hx,Bool.false_and]at hK;simp only [go_sem,kf,hv,ze,hx];repeat first | refine Wk ?_ | intro _
   exact hK
theorem jP(hΓ:Xa P Γ){f fs:Nat}(hs:Γ fs=.dat false yw)(hc:check P f=some (16,(Jr fs).strip,[.cell 4 6 true])):ua P f (.dat false Xv):=by
 refine ka hc vaN hΓ (λargs K hcl hfi hG=>?_);match args,hG with
 | [a,b],hG=>
  obtain⟨⟨x,y⟩,rfl,⟨wx,wy⟩,⟨u,v⟩,rfl,⟨wu,wv⟩,hl,hl2,hK⟩:=hG;refine⟨by simp,?_⟩
  have hl':=Nat.max_le.1 hl;have hl2':=Nat.max_le.1 hl2;simp only at wx wy wu wv hl' hl2';simp only [go_sem,Jr,hs,ze];repeat first | refine Wk ?_ | intro _
  exact hK
end Go.Abs
end
section
namespace Go.Num
open Go.Abs
def tOk(v:BQ×BQ)(u w:Rat):Prop:=PB 1 4006 v.1/\PB 1 4006 v.2/\rz u<=4004/\rz w<=4004
def nOk(v:BQ×BQ):Prop:=∃d s,PB d s v.1/\PB d s v.2/\d+d<=24/\s<=1000000
theorem PB.mulok{d s e t:Nat}{p q:BQ}(hp:PB d s p)(hq:PB e t q)(h:d+e<=24)(h2:s+t<=3000000):sz p+sz q<=3000000/\degB p+degB q<=24:=
 ⟨by have:=hp.size;have:=hq.size;omega,hp.dd hq h⟩
end Go.Num
namespace Go.Abs
open Go.Num
variable {P:Program} {Γ:Nat->Spec}
def qbj(l:List AV)(K:AV->Prop):Prop:=
 match l with
 | [v,u,w]=>onV (λv=>onR (λu=>onR (λw=>tOk v (rv u) (rv w)/\rl u<=1000000/\rl w<=1000000/\K (.agg [bC (timB v (rv u) (rv w)).1,bC (timB v (rv u) (rv w)).2])) w) u) v
 | _=>False
theorem ybb v u w K:qbj [v,u,w] K=(onV (λv=>onR (λu=>onR (λw=>tOk v (rv u) (rv w)/\rl u<=1000000/\rl w<=1000000/\K (.agg [bC (timB v (rv u) (rv w)).1,bC (timB v (rv u) (rv w)).2])) w) u) v):=propext Iff.rfl
@[congr] theorem Ucg{K}{l l'}(h:l=l'):qbj l K=qbj l' K:=by subst h;rfl
attribute [go_sem,go_sem ↓] ybb
def yba(l:List AV)(K:AV->Prop):Prop:=
 match l with
 | [v]=>onV (λv=>nOk v/\K (.one (bC (nrmB v)))) v
 | _=>False
theorem ka7 v K:yba [v] K=(onV (λv=>nOk v/\K (.one (bC (nrmB v)))) v):=propext Iff.rfl
@[congr] theorem Ucb{K}{l l'}(h:l=l'):yba l K=yba l' K:=by subst h;rfl
attribute [go_sem,go_sem ↓] ka7
def xbi(l:List AV)(K:AV->Prop):Prop:=
 match l with
 | [c]=>onCp (λc=>cl c<=4000/\K (.agg [bC (cAl (cpv c)).1,bC (cAl (cpv c)).2,bC (cBe (cpv c)).1,bC (cBe (cpv c)).2,bC (cE (cpv c)),bC (cF (cpv c)),bC (cM (cpv c))])) c
 | _=>False
theorem va3 c K:xbi [c] K=(onCp (λc=>cl c<=4000/\K (.agg [bC (cAl (cpv c)).1,bC (cAl (cpv c)).2,bC (cBe (cpv c)).1,bC (cBe (cpv c)).2,bC (cE (cpv c)),bC (cF (cpv c)),bC (cM (cpv c))])) c):=propext Iff.rfl
@[congr] theorem Ucc{K}{l l'}(h:l=l'):xbi l K=xbi l' K:=by subst h;rfl
attribute [go_sem,go_sem ↓] va3
end Go.Abs
end
section
namespace Go.Num
def ln3(a b c:Rat):BQ:=nf [(1,0,a),(0,1,b),(0,0,c)]
abbrev Rw:=BQ×BQ×BQ
def bXp(p:PsQ):BQ:=ln3 (cosQ p.1) (-sinQ p.1) p.2.1
def bYp(p:PsQ):BQ:=ln3 (sinQ p.1) (cosQ p.1) p.2.2
def rwB(p:PsQ):Rw:=(addB (mulB (bXp p) (bXp p)) (mulB (bYp p) (bYp p)),bXp p,bYp p)
def lsR(a b:Rw):Rw:=(subB a.1 b.1,subB a.2.1 b.2.1,subB a.2.2 b.2.2)
def mnR(a b:Rw):BQ:=subB (mulB a.2.1 b.2.2) (mulB a.2.2 b.2.1)
def ci3(a b c:Rw):BQ:=addB (subB (mulB a.1 (mnR b c)) (mulB b.1 (mnR a c))) (mulB c.1 (mnR a b))
def ciB(p q r s:PsQ):BQ:=ci3 (lsR (rwB q) (rwB p)) (lsR (rwB r) (rwB p)) (lsR (rwB s) (rwB p))
def PsK(p:PsQ):Prop:=rz p.1.1<=1000/\zq p.2<=1000
theorem wbA(a b c:Rat):InQ [(1,0,a),(0,1,b),(0,0,c)]:=λt ht=>by
 simp only [List.mem_cons,List.not_mem_nil,or_false]at ht;rcases ht with rfl | rfl | rfl <;> simp [inQ]
theorem PB.ln3(a b c:Rat):PB 1 (rz a+rz b+rz c+6) (ln3 a b c):=by
 refine⟨Wp (wbA a b c),XZ λt ht=>?_,?_⟩
 .simp only [List.mem_cons,List.not_mem_nil,or_false]at ht;rcases ht with rfl | rfl | rfl <;> simp
 .refine Nat.le_trans (UaQ _) ?_;simp only [sz];omega
theorem kaU(a b c x y:Rat):ev (ln3 a b c) x y=a*x+b*y+c:=by
 unfold ln3;rw [Ua4 (wbA a b c)];simp [ev,mev,pw];grind
theorem PB.xp{p:PsQ}(h:PsK p):PB 1 9100 (bXp p):=by
 have h1:=xM p.1;have h2:=XH p.1;have h3:=h.1;have h4:rz p.2.1<=1000:=Nat.le_trans (Nat.le_max_left _ _) h.2;have h5:=qA (sinQ p.1);exact(PB.ln3 _ _ _).mono (Nat.le_refl _) (by omega)
theorem PB.yp{p:PsQ}(h:PsK p):PB 1 9100 (bYp p):=by
 have h1:=xM p.1;have h2:=XH p.1;have h3:=h.1;have h4:rz p.2.2<=1000:=Nat.le_trans (Nat.le_max_right _ _) h.2;exact(PB.ln3 _ _ _).mono (Nat.le_refl _) (by omega)
def RB(s n:Nat)(a:Rw):Prop:=PB 2 s a.1/\PB 1 n a.2.1/\PB 1 n a.2.2
theorem jG{p:PsQ}(h:PsK p):RB 109200 9100 (rwB p):=by
 have e:tri (1+1)=3:=rfl;have a1:=(PB.xp h).mul (PB.xp h) (by decide)
 have a2:=(PB.yp h).mul (PB.yp h) (by decide)
 rw [e]at a1 a2;exact⟨(a1.add a2).mono (Nat.le_refl _) (by omega),PB.xp h,PB.yp h⟩
theorem WbD{s n:Nat}{a b:Rw}(h:RB s n a)(k:RB s n b):RB (s+s) (n+n) (lsR a b):=⟨h.1.sub k.1,h.2.1.sub k.2.1,h.2.2.sub k.2.2⟩
theorem QN{s n:Nat}{a b:Rw}(h:RB s n a)(k:RB s n b):PB 2 (12*n) (mnR a b):=by
 have e:tri (1+1)=3:=rfl;have a1:=h.2.1.mul k.2.2 (by decide)
 have a2:=h.2.2.mul k.2.1 (by decide)
 rw [e]at a1 a2;exact(a1.sub a2).mono (Nat.le_refl _) (by omega)
theorem jah{s n:Nat}{a b c:Rw}(h:RB s n a)(k:RB s n b)(l:RB s n c):PB 4 (6*s+6*(12*n)) (mulB a.1 (mnR b c)):=by
 have e:tri (2+1)=6:=rfl;have a1:=h.1.mul (QN k l) (by decide)
 rw [e]at a1;exact a1
theorem qbQ{s n:Nat}{a b c:Rw}(h:RB s n a)(k:RB s n b)(l:RB s n c):PB 4 (3*(6*s+6*(12*n))) (ci3 a b c):=
 (((jah h k l).sub (jah k h l)).add (jah l h k)).mono (Nat.le_refl _) (by omega)
theorem rb_d{p q:PsQ}(h:PsK p)(k:PsK q):RB 218400 18200 (lsR (rwB q) (rwB p)):=WbD (jG k) (jG h)
theorem Wcb{p q r s:PsQ}(h1:PsK p)(h2:PsK q)(h3:PsK r)(h4:PsK s):PB 4 10000000 (ciB p q r s):=
 (qbQ (rb_d h1 h2) (rb_d h1 h3) (rb_d h1 h4)).mono (Nat.le_refl _) (by decide)
def detQ(a b c d:V2):Rat:=
 (sqQ b-sqQ a)*((c.1-a.1)*(d.2-a.2)-(c.2-a.2)*(d.1-a.1))-(sqQ c-sqQ a)*((b.1-a.1)*(d.2-a.2)-(b.2-a.2)*(d.1-a.1))+(sqQ d-sqQ a)*((b.1-a.1)*(c.2-a.2)-(b.2-a.2)*(c.1-a.1))
theorem ybJ{p:PsQ}(m:V2):ev (bXp p) m.1 m.2=(appQ p m).1:=by
 unfold bXp;rw [kaU];unfold appQ rotQ addQ;simp only;grind
theorem ubC{p:PsQ}(m:V2):ev (bYp p) m.1 m.2=(appQ p m).2:=by
 unfold bYp;rw [kaU];unfold appQ rotQ addQ;simp only
theorem ubT{p:PsQ}(h:PsK p)(m:V2):ev (rwB p).1 m.1 m.2=sqQ (appQ p m):=by
 have e:(rwB p).1=addB (mulB (bXp p) (bXp p)) (mulB (bYp p) (bYp p)):=rfl;have a1:=PB.xp h;have a2:=PB.yp h;rw [e,Qbu (a1.mul a1 (by decide)) (a2.mul a2 (by decide)),JU a1 a1 (by decide),JU a2 a2 (by decide),ybJ,ubC]
 rfl
theorem Zbm{p q:PsQ}(h:PsK p)(k:PsK q)(m:V2):ev (lsR (rwB q) (rwB p)).1 m.1 m.2=sqQ (appQ q m)-sqQ (appQ p m)/\ev (lsR (rwB q) (rwB p)).2.1 m.1 m.2=(appQ q m).1-(appQ p m).1/\ev (lsR (rwB q) (rwB p)).2.2 m.1 m.2=(appQ q m).2-(appQ p m).2:=by
 refine⟨?_,?_,?_⟩
 .show ev (subB _ _) _ _=_;rw [wan (jG k).1 (jG h).1,ubT k,ubT h]
 .show ev (subB (bXp q) (bXp p)) _ _=_;rw [wan (PB.xp k) (PB.xp h),ybJ,ybJ]
 .show ev (subB (bYp q) (bYp p)) _ _=_;rw [wan (PB.yp k) (PB.yp h),ubC,ubC]
theorem xbc{s n:Nat}{a b:Rw}(h:RB s n a)(k:RB s n b)(x y:Rat):ev (mnR a b) x y=ev a.2.1 x y*ev b.2.2 x y-ev a.2.2 x y*ev b.2.1 x y:=by
 unfold mnR;rw [wan (h.2.1.mul k.2.2 (by decide)) (h.2.2.mul k.2.1 (by decide)),JU h.2.1 k.2.2 (by decide),JU h.2.2 k.2.1 (by decide)]
theorem jbT{s n:Nat}{a b c:Rw}(h:RB s n a)(k:RB s n b)(l:RB s n c)(x y:Rat):ev (ci3 a b c) x y=ev a.1 x y*ev (mnR b c) x y-ev b.1 x y*ev (mnR a c) x y+ev c.1 x y*ev (mnR a b) x y:=by
 unfold ci3;have e:tri (2+1)=6:=rfl;rw [Qbu ((jah h k l).sub (jah k h l)) (jah l h k),wan (jah h k l) (jah k h l),JU h.1 (QN k l) (by decide),JU k.1 (QN h l) (by decide),JU l.1 (QN h k) (by decide)]
theorem zb7{p q r s:PsQ}(h1:PsK p)(h2:PsK q)(h3:PsK r)(h4:PsK s)(m:V2):ev (ciB p q r s) m.1 m.2=detQ (appQ p m) (appQ q m) (appQ r m) (appQ s m):=by
 unfold ciB;have b2:=rb_d h1 h2;have b3:=rb_d h1 h3;have b4:=rb_d h1 h4;rw [jbT b2 b3 b4,xbc b3 b4,xbc b2 b4,xbc b2 b3];obtain⟨x1,x2,x3⟩:=Zbm h1 h2 m;obtain⟨y1,y2,y3⟩:=Zbm h1 h3 m;obtain⟨z1,z2,z3⟩:=Zbm h1 h4 m;rw [x1,x2,x3,y1,y2,y3,z1,z2,z3];rfl
def crs(a b c:V2):Rat:=Je (subQ b a) (subQ c a)
def dy3(a b c d:V2):Option (V2×V2×V2):=
 if crs a b c≠0 then some (a,b,c) else if crs a b d≠0 then some (a,b,d) else if crs a c d≠0 then some (a,c,d) else if crs b c d≠0 then some (b,c,d) else none
def ctr3(x y z:V2):V2:=ctrQ x (subQ y x) (subQ z x)
end Go.Num
end
section
namespace Go.Num
open Go.Abs
theorem wcf{x y z:R}(h1:vldR x=true)(h2:vldR y=true)(h3:vldR z=true):mkC [(1,0,x),(0,1,y),(0,0,z)]=0:=by
 unfold mkC;rw [if_neg (by simp)]
 simp [mkG,mkT,inM,h1,h2,h3]
theorem Jcb(x y z:R):nf (([(1,0,x),(0,1,y),(0,0,z)]:List Mo).map mv)=ln3 (rv x) (rv y) (rv z):=rfl
def rOk(a b:Rw):Prop:=∃s n,RB s n a/\RB s n b/\s<=1000000/\n<=100000
theorem QbK{p q r:PsQ}(h1:PsK p)(h2:PsK q)(h3:PsK r):rOk (lsR (rwB q) (rwB p)) (lsR (rwB r) (rwB p)):=⟨218400,18200,rb_d h1 h2,rb_d h1 h3,by decide,by decide⟩
theorem YbI{p q:PsQ}(h1:PsK p)(h2:PsK q):rOk (rwB q) (rwB p):=⟨109200,9100,jG h2,jG h1,by decide,by decide⟩
theorem Vbd{p:Ps}(h:pvld p=true):tchk p.1=0/\avld p.2=true:=by
 unfold pvld at h;simp only [Bool.and_eq_true,decide_eq_true_eq]at h;exact h
theorem Yg{p:Ps}(hw:WLP p)(h:pl p<=1000):PsK (pv p):=
 ⟨Nat.le_trans (Vg hw.1) (Nat.le_trans (Nat.le_max_left _ _) h),Nat.le_trans (kac hw.2) (Nat.le_trans (Nat.le_max_right _ _) h)⟩
end Go.Num
namespace Go.Abs
open Go.Num
variable {P:Program} {Γ:Nat->Spec}
def onRw(k:Rw->Prop)(a:AV):Prop:=∃p q r,a=.agg [bC p,bC q,bC r]/\(Canon p/\Canon q/\Canon r)/\k (p,q,r)
@[congr] theorem Uca{k:Rw->Prop}{a a'}(h:a=a'):onRw k a=onRw k a':=by subst h;rfl
theorem wbw(k:Rw->Prop)(p q r:BQ):onRw k (.agg [bC p,bC q,bC r])=((Canon p/\Canon q/\Canon r)/\k (p,q,r)):=by
 refine propext ⟨λ⟨x,y,z,h,h1,h2⟩=>?_,λh=>⟨p,q,r,rfl,h⟩⟩;simp only [AV.agg.injEq,List.cons.injEq,and_true]at h;obtain⟨e1,e2,e3⟩:=h;have:=yY e1;have:=yY e2;have:=yY e3
 subst_vars;exact⟨h1,h2⟩
theorem Qbw(k:Rw->Prop)(p q r:BQ):onRw k (.agg [.slice ((mcs p).map mC),.slice ((mcs q).map mC),.slice ((mcs r).map mC)])=((Canon p/\Canon q/\Canon r)/\k (p,q,r)):=wbw k p q r
theorem YaG{β:Type}{T:Rw->(β->Prop)->Prop}(h:∀p,GoodT (T p)){a:AV}:GoodT λK=>onRw (λp=>T p K) a:=
 .of λK hx=>by
  obtain⟨p,q,r,rfl,hc,hk⟩:=hx;have:(λK=>onRw (λp=>T p K) (.agg [bC p,bC q,bC r]))=λK=>(Canon p/\Canon q/\Canon r)/\T (p,q,r) K:=funext λK=>wbw _ p q r;rw [this];exact .and λ_=>h (p,q,r)
attribute [go_sem,go_sem ↓] Qbw
def YL(l:List AV)(K:AV->Prop):Prop:=
 match l with
 | [a,b,c]=>onR (λx=>onR (λy=>onR (λz=>rl x<=1000000/\rl y<=1000000/\rl z<=1000000/\vldR x=true/\vldR y=true/\vldR z=true/\K (.one (bC (ln3 (rv x) (rv y) (rv z))))) c) b) a
 | _=>False
theorem vbi a b c K:YL [a,b,c] K=(onR (λx=>onR (λy=>onR (λz=>rl x<=1000000/\rl y<=1000000/\rl z<=1000000/\vldR x=true/\vldR y=true/\vldR z=true/\K (.one (bC (ln3 (rv x) (rv y) (rv z))))) c) b) a):=propext Iff.rfl
@[congr] theorem qcd{K}{l l'}(h:l=l'):YL l K=YL l' K:=by subst h;rfl
attribute [go_sem,go_sem ↓] vbi
theorem Zbi:Good YL:=Wa λas=>by
 unfold YL;split
 .exact(Jj λ_=>(Jj λ_=>(Jj λ_=>(.and λ_=>(.and λ_=>(.and λ_=>(.and λ_=>(.and λ_=>(.and λ_=>(.ret _))))))))))
 .exact .of λK hk=>hk.elim
def zF(l:List AV)(K:AV->Prop):Prop:=
 match l with
 | [a,b]=>onRw (λa=>onRw (λb=>rOk a b/\K (.agg [bC (lsR a b).1,bC (lsR a b).2.1,bC (lsR a b).2.2])) b) a
 | _=>False
theorem Xaz a b K:zF [a,b] K=(onRw (λa=>onRw (λb=>rOk a b/\K (.agg [bC (lsR a b).1,bC (lsR a b).2.1,bC (lsR a b).2.2])) b) a):=propext Iff.rfl
@[congr] theorem zb5{K}{l l'}(h:l=l'):zF l K=zF l' K:=by subst h;rfl
attribute [go_sem,go_sem ↓] Xaz
theorem XaM:Good zF:=Wa λas=>by
 unfold zF;split
 .exact(YaG λ_=>(YaG λ_=>(.and λ_=>(.ret _))))
 .exact .of λK hk=>hk.elim
def qM(l:List AV)(K:AV->Prop):Prop:=
 match l with
 | [a,b]=>onRw (λa=>onRw (λb=>rOk a b/\K (.one (bC (mnR a b)))) b) a
 | _=>False
theorem Va1 a b K:qM [a,b] K=(onRw (λa=>onRw (λb=>rOk a b/\K (.one (bC (mnR a b)))) b) a):=propext Iff.rfl
@[congr] theorem qb8{K}{l l'}(h:l=l'):qM l K=qM l' K:=by subst h;rfl
attribute [go_sem,go_sem ↓] Va1
theorem uaZ:Good qM:=Wa λas=>by
 unfold qM;split
 .exact(YaG λ_=>(YaG λ_=>(.and λ_=>(.ret _))))
 .exact .of λK hk=>hk.elim
def XM(l:List AV)(K:AV->Prop):Prop:=
 match l with
 | [p]=>onPo (λp=>pl p<=1000/\pvld p=true/\K (.agg [bC (rwB (pv p)).1,bC (rwB (pv p)).2.1,bC (rwB (pv p)).2.2])) p
 | _=>False
theorem zbb p K:XM [p] K=(onPo (λp=>pl p<=1000/\pvld p=true/\K (.agg [bC (rwB (pv p)).1,bC (rwB (pv p)).2.1,bC (rwB (pv p)).2.2])) p):=propext Iff.rfl
@[congr] theorem Qca{K}{l l'}(h:l=l'):XM l K=XM l' K:=by subst h;rfl
attribute [go_sem,go_sem ↓] zbb
theorem Ybh:Good XM:=Wa λas=>by
 unfold XM;split
 .exact(Q1 λ_=>(.and λ_=>(.and λ_=>(.ret _))))
 .exact .of λK hk=>hk.elim
def ke(f0 f1:Nat):AC:=(.o [.K 5 3 1,.K 6 3 2,.K 7 3 3,.m 8 (.c (.one .emp))] [0,5,6,7] (.seq (.p [.M 9 0,.L 10 3 5,.u 11 (.build [.x 1 (.i 1),.z [(.lit (.int .i64 0))],.x 3 (.t 10)]),.L 12 3 6,.u 13 (.build [.z [(.lit (.int .i64 0))],.x 1 (.i 1),.x 3 (.t 12)]),.L 14 3 7,.u 15 (.build [.z [(.lit (.int .i64 0)),(.lit (.int .i64 0))],.x 3 (.t 14)]),.u 16 (.row 5 [[.x 5 (.t 11)],[.x 5 (.t 13)],[.x 5 (.t 15)]]),.H 17 f0 16,.X 18 0 17,.X 19 1 17,.u 20 (.callr f1 [(.t 9),(.t 18),(.t 19)]),.M 8 20]) .ret))
def Jf(f0:Nat):AC:=(.o [.K 4 3 1,.K 5 3 2,.G 6 [.emp,.emp,.emp]] [0,4,5,6] (.seq (.y [.M 7 0,.A 8 0 4,.F 9 1 8,.A 10 0 5,.F 11 1 10,.u 12 (.callr f0 [(.t 7),(.t 9),(.t 11)]),.M 13 0,.A 14 1 4,.F 15 1 14,.A 16 1 5,.F 17 1 16,.u 18 (.callr f0 [(.t 13),(.t 15),(.t 17)]),.M 19 0,.A 20 2 4,.F 21 1 20,.A 22 2 5,.F 23 1 22,.u 24 (.callr f0 [(.t 19),(.t 21),(.t 23)]),.u 25 (.build [.x 1 (.t 12),.x 1 (.t 18),.x 1 (.t 24)]),.S 3 6 25]) .ret))
def ue(f0 f1:Nat):AC:=(.o [.K 4 3 1,.K 5 3 2,.m 6 (.c (.one .emp))] [0,4,5] (.seq (.y [.M 7 0,.M 8 0,.A 9 1 4,.F 10 1 9,.A 11 2 5,.F 12 1 11,.u 13 (.callr f0 [(.t 8),(.t 10),(.t 12)]),.M 14 0,.A 15 2 4,.F 16 1 15,.A 17 1 5,.F 18 1 17,.u 19 (.callr f0 [(.t 14),(.t 16),(.t 18)]),.u 20 (.callr f1 [(.t 7),(.t 13),(.t 19)]),.M 6 20]) .ret))
def Qe(f0 f1 f2 f3 f4:Nat):AC:=(.o [.K 3 10 1,.G 4 [.emp,.emp,.emp]] [0,3,4] (.o [.A 11 0 3,.L 12 4 11,.H 13 f0 12,.M 10 13,.X 14 0 10,.X 15 1 10,.X 16 2 10,.G 5 [.z,.emp,.emp],.G 6 [.z,.emp,.emp],.S 3 5 14,.S 3 6 15,.M 7 16] [0,3,4,5,6,7] (.f (.o [.M 17 0,.u 18 (.nilck (.t 17)),.A 19 0 18,.F 20 1 19,.u 21 (.binn .eql (.t 20) (.c (.one (.lit .nilIface))))] [0,3,4,5,6,7,21] (.cond (.t 21) (.p [.M 22 0,.M 23 7,.u 24 (.nilck (.t 22)),.A 25 0 24,.S 1 25 23]) .skip)) [0,3,4,5,6] (.f (.y [.M 26 0,.L 27 3 5,.L 28 3 6,.H 29 f1 28,.A 30 4 3,.A 31 0 30,.L 32 3 31,.u 33 (.callr f2 [(.t 26),(.t 27),(.t 29),(.t 32)]),.M 8 33]) [0,3,4,5,6,8] (.o [.M 34 0,.L 35 3 6,.L 36 3 5,.A 37 4 3,.A 38 3 37,.L 39 3 38,.u 40 (.callr f2 [(.t 34),(.t 35),(.t 36),(.t 39)]),.M 9 40] [0,4,8,9] (.seq (.p [.M 41 0,.M 42 0,.M 43 8,.M 44 8,.u 45 (.callr f3 [(.t 42),(.t 43),(.t 44)]),.M 46 0,.M 47 9,.M 48 9,.u 49 (.callr f3 [(.t 46),(.t 47),(.t 48)]),.u 50 (.callr f4 [(.t 41),(.t 45),(.t 49)]),.M 51 8,.M 52 9,.u 53 (.build [.x 1 (.t 50),.x 1 (.t 51),.x 1 (.t 52)]),.S 3 4 53]) .ret))))))
theorem ZaO(hΓ:Xa P Γ){f fm ft tE:Nat}(hm:Γ fm=.dat false (YD tE))(ht:Γ ft=.red Qv)(hc:check P f=some (21,(ke fm ft).strip,[.tmp 8])):ua P f (.red YL):=by
 refine Ws hc Zbi hΓ (λrest h r ver K hr hcl hfi hG=>?_);match rest,hG with
 | [a,b,c],hG=>
  obtain⟨x,rfl,wx,y,rfl,wy,z,rfl,wz,lx,ly,lz,vx,vy,vz,hK⟩:=hG;refine⟨by simp,?_⟩
  have zx:=Vg wx;have zy:=Vg wy;have zz:=Vg wz;have hmk:=wcf vx vy vz;have hcl0:=(PB.ln3 (rv x) (rv y) (rv z)).canon;simp only [go_sem,ke,hr,hm,ht,rA];change onMs _ (.one (.slice (List.map mC [((1:Int),(0:Int),x),(0,1,y),(0,0,z)])));rw [ZW,hmk,Qc,yC,Jcb,VbK,qN hr];refine⟨λt ht=>?_,λt ht=>?_,?_,rfl,rfl,hcl0,hK⟩
  .simp only [List.mem_cons,List.not_mem_nil,or_false]at ht;rcases ht with rfl | rfl | rfl
   .exact⟨by simp [i64r],by simp [i64r],wx⟩
   .exact⟨by simp [i64r],by simp [i64r],wy⟩
   .exact⟨by simp [i64r],by simp [i64r],wz⟩
  .simp only [List.mem_cons,List.not_mem_nil,or_false]at ht;rcases ht with rfl | rfl | rfl
   .simp only;omega
   .simp only;omega
   .simp only;omega
  .simp only [List.map_cons,List.map_nil,mv,sz];omega
theorem Xav(hΓ:Xa P Γ){f fs:Nat}(hs:Γ fs=.red ZG)(hc:check P f=some (26,(Jf fs).strip,[.cell 6 3 true])):ua P f (.red zF):=by
 refine Ws hc XaM hΓ (λrest h r ver K hr hcl hfi hG=>?_);match rest,hG with
 | [a,b],hG=>
  obtain⟨p,q,r1,rfl,⟨hp,hq,hr1⟩,p',q',r',rfl,⟨hp',hq',hr'⟩,⟨s,n,⟨a1,a2,a3⟩,⟨b1,b2,b3⟩,h1,h2⟩,hK⟩:=hG;refine⟨by simp,?_⟩
  simp only at a1 a2 a3 b1 b2 b3 hK;have s1:=a1.size;have s2:=a2.size;have s3:=a3.size;have s4:=b1.size;have s5:=b2.size;have s6:=b3.size;have k1:sz p+sz p'<=1000000000:=by omega
  have k2:sz q+sz q'<=1000000000:=by omega
  have k3:sz r1+sz r'<=1000000000:=by omega
  simp only [go_sem,Jf,hr,hs];repeat refine Wr ?_
  rw [qN hr];exact hK
theorem UaN(hΓ:Xa P Γ){f fm fs:Nat}(hm:Γ fm=.red JG)(hs:Γ fs=.red ZG)(hc:check P f=some (21,(ue fm fs).strip,[.tmp 6])):ua P f (.red qM):=by
 refine Ws hc uaZ hΓ (λrest h r ver K hr hcl hfi hG=>?_);match rest,hG with
 | [a,b],hG=>
  obtain⟨p,q,r1,rfl,⟨hp,hq,hr1⟩,p',q',r',rfl,⟨hp',hq',hr'⟩,⟨s,n,⟨a1,a2,a3⟩,⟨b1,b2,b3⟩,h1,h2⟩,hK⟩:=hG;refine⟨by simp,?_⟩
  simp only at a1 a2 a3 b1 b2 b3 hK;obtain⟨m1,m2⟩:=a2.mulok b3 (by decide) (by omega)
  obtain⟨m3,m4⟩:=a3.mulok b2 (by decide) (by omega)
  have e:tri (1+1)=3:=rfl;have q1:=a2.mul b3 (by decide)
  have q2:=a3.mul b2 (by decide)
  rw [e]at q1 q2;have c1:=q1.canon;have c2:=q2.canon;have s1:=q1.size;have s2:=q2.size;have k1:sz (mulB q r')+sz (mulB r1 q')<=1000000000:=by omega
  simp only [go_sem,ue,hr,hm,hs];repeat refine Wr ?_
  rw [qN hr];exact hK
set_option maxHeartbeats 1000000 in
theorem JaN(hΓ:Xa P Γ){f fd fn fl fm fa tE:Nat}(hd:Γ fd=.dat false (JI tE))(hn:Γ fn=.dat false VA)(hl:Γ fl=.red YL)(hm:Γ fm=.red JG)(ha:Γ fa=.red WI)(hc:check P f=some (54,(Qe fd fn fl fm fa).strip,[.cell 4 3 true])):ua P f (.red XM):=by
 refine Ws hc Ybh hΓ (λrest h r ver K hr hcl hfi hG=>?_);match rest,hG with
 | [a],hG=>
  obtain⟨p,rfl,wp,hl0,hv,hK⟩:=hG;refine⟨by simp,?_⟩
  obtain⟨ht0,hva⟩:=Vbd hv;have hk:=Yg wp hl0;have wt:=wp.1;have wa1:=wp.2.1;have wa2:=wp.2.2;have lt:rl p.1.1<=10000000:=Nat.le_trans (Nat.le_max_left _ _) (Nat.le_trans hl0 (by decide))
  have la:al p.2<=1000000:=Nat.le_trans (Nat.le_max_right _ _) (Nat.le_trans hl0 (by decide))
  have la1:=(Nat.max_le.1 la).1;have la2:=(Nat.max_le.1 la).2;have va1:vldR p.2.1=true:=by unfold avld at hva;simp only [Bool.and_eq_true]at hva;exact hva.1
  have va2:vldR p.2.2=true:=by unfold avld at hva;simp only [Bool.and_eq_true]at hva;exact hva.2
  have r1:=xM (pv p).1;have r2:=XH (pv p).1;have k1:=hk.1;have X1:=PB.xp hk;have Y1:=PB.yp hk;have eX:bXp (pv p)=ln3 (cosQ (tv p.1)) (-sinQ (tv p.1)) (rv p.2.1):=rfl;have eY:bYp (pv p)=ln3 (sinQ (tv p.1)) (cosQ (tv p.1)) (rv p.2.2):=rfl;have eS:(rwB (pv p)).1=addB (mulB (bXp (pv p)) (bXp (pv p))) (mulB (bYp (pv p)) (bYp (pv p))):=rfl;have e2:(rwB (pv p)).2.1=bXp (pv p):=rfl;have e3:(rwB (pv p)).2.2=bYp (pv p):=rfl;rw [eS,e2,e3,eX,eY]at hK;rw [eX]at X1;rw [eY]at Y1;have et:(pv p).1=tv p.1:=rfl;rw [et]at r1 r2;obtain⟨C,hC⟩:∃C,cosQ (tv p.1)=C:=⟨_,rfl⟩;obtain⟨S,hS⟩:∃S,sinQ (tv p.1)=S:=⟨_,rfl⟩;rw [hC,hS]at X1 Y1 hK;rw [hC]at r1;rw [hS]at r2;have et1:(tv p.1).1=(pv p).1.1:=rfl;rw [et1]at r1 r2;have lC:rz C<=1000000:=by omega
  have lS:rz S<=1000000:=by omega
  have lS2:rz S<=4294967296:=by omega
  have lS3:rz (-S)<=1000000:=by rw [qA];omega
  obtain⟨X,hX⟩:∃X,ln3 C (-S) (rv p.2.1)=X:=⟨_,rfl⟩;obtain⟨Y,hY⟩:∃Y,ln3 S C (rv p.2.2)=Y:=⟨_,rfl⟩;rw [hX]at X1 hK;rw [hY]at Y1 hK;obtain⟨m1,m2⟩:=X1.mulok X1 (by decide) (by decide)
  obtain⟨m3,m4⟩:=Y1.mulok Y1 (by decide) (by decide)
  have e:tri (1+1)=3:=rfl;have q1:=X1.mul X1 (by decide)
  have q2:=Y1.mul Y1 (by decide)
  rw [e]at q1 q2;have cX:=X1.canon;have cY:=Y1.canon;have c1:=q1.canon;have c2:=q2.canon;have s1:=q1.size;have s2:=q2.size;have k5:sz (mulB X X)+sz (mulB Y Y)<=1000000000:=by omega
  have e0:=Qc tE;simp only [go_sem,Qe,hr,hd,hn,hl,hm,ha,poA,pC,Wb,rA,ht0,hC,hS,Vb,Qp,hX,hY,e0];repeat refine Wr ?_
  rw [qN hr];exact hK
end Go.Abs
end
section
namespace Go.Num
open Go.Abs
def Vd(l:List Ps):Nat:=if plchk l≠0 then plchk l else if l.length=4 then 0 else 10
def bcL:List Ps->BQ
 | [p,q,r,s]=>ciB (pv p) (pv q) (pv r) (pv s)
 | _=>[]
def dtL:List Ps->V2->Rat
 | [p,q,r,s],m=>detQ (appQ (pv p) m) (appQ (pv q) m) (appQ (pv r) m) (appQ (pv s) m)
 | _,_=>0
theorem kG{l:List Ps}(h:Vd l=0):l.length=4/\l.all pvld=true:=by
 unfold Vd at h;split at h
 .rename_i h1;exact absurd h h1
 .rename_i h1;have h2:plchk l=0:=by omega
  split at h
  .rename_i h3;refine⟨h3,?_⟩;unfold plchk at h2;split at h2
   .contradiction
   .split at h2
    .contradiction
    .split at h2
     .rename_i h5;exact h5
     .contradiction
  .contradiction
theorem wbe{l:List Ps}(h1:l.length=4)(h2:l.all pvld=true):Vd l=0:=by
 have h3:plchk l=0:=by
  unfold plchk;rw [if_neg (by omega),if_neg (by omega),if_pos h2]
 unfold Vd;rw [if_neg (by omega),if_pos h1]
theorem Y7{l:List Ps}(h:l.length=4):∃p q r s,l=[p,q,r,s]:=by
 match l,h with
 | [p,q,r,s],_=>exact⟨p,q,r,s,rfl⟩
end Go.Num
namespace Go.Abs
open Go.Num
variable {P:Program} {Γ:Nat->Spec}
theorem gE1y(K:List C->Prop)(e0 e1:List C)(r:List (List C)):getE K (e0::e1::r) 1=K e1:=by simp [getE]
theorem gE2y(K:List C->Prop)(e0 e1 e2:List C)(r:List (List C)):getE K (e0::e1::e2::r) 2=K e2:=by simp [getE]
theorem gE3y(K:List C->Prop)(e0 e1 e2 e3:List C)(r:List (List C)):getE K (e0::e1::e2::e3::r) 3=K e3:=by simp [getE]
attribute [go_sem,go_sem ↓] gE1y gE2y gE3y
theorem Yaw{h h' : Nat->HB}:okB h h' (some ⟨[[.lit .nilIface]],1,true⟩) (some ⟨[[.lit .nilIface]],1,true⟩):=
 ⟨⟨rfl,rfl⟩,.inl ⟨rfl,λe he c hc=>by
  rw [List.mem_singleton.1 he]at hc;rw [List.mem_singleton.1 hc];exact of_eq_true (kJ _)⟩⟩
theorem YaJ{h h' : Nat->HB}{p q r:List Mo}:okB h h' (some ⟨[[.slice (p.map mC),.slice (q.map mC),.slice (r.map mC)]],3,true⟩) (some ⟨[[.slice (p.map mC),.slice (q.map mC),.slice (r.map mC)]],3,true⟩):=
 ⟨⟨rfl,rfl⟩,.inl ⟨rfl,λe he c hc=>by
  rw [List.mem_singleton.1 he]at hc;simp only [List.mem_cons,List.not_mem_nil,or_false]at hc;rcases hc with rfl | rfl | rfl <;> exact of_eq_true (YH _)⟩⟩
theorem kT{h h' : Nat->HB}{es:List (List C)}{z:Nat}{b:Bool}(hc:jc es):okB h h' (some ⟨es,z,b⟩) (some ⟨es,z,b⟩):=⟨⟨rfl,rfl⟩,.inl ⟨rfl,hc⟩⟩
theorem cl3(p q r:List Mo):Jd [.slice (p.map mC),.slice (q.map mC),.slice (r.map mC)]:=λc hc=>by
 simp only [List.mem_cons,List.not_mem_nil,or_false]at hc;rcases hc with rfl | rfl | rfl <;> exact of_eq_true (YH _)
theorem cR1{p q r:List Mo}:jc [[.slice (p.map mC),.slice (q.map mC),.slice (r.map mC)]]:=λe he=>by
 rw [List.mem_singleton.1 he];exact cl3 _ _ _
theorem cR2{p q r p' q' r' : List Mo}:jc [[.slice (p.map mC),.slice (q.map mC),.slice (r.map mC)],[.slice (p'.map mC),.slice (q'.map mC),.slice (r'.map mC)]]:=λe he=>by
 simp only [List.mem_cons,List.not_mem_nil,or_false]at he;rcases he with rfl | rfl <;> exact cl3 _ _ _
theorem cR3{p q r p' q' r' x y z:List Mo}:jc [[.slice (p.map mC),.slice (q.map mC),.slice (r.map mC)],[.slice (p'.map mC),.slice (q'.map mC),.slice (r'.map mC)],[.slice (x.map mC),.slice (y.map mC),.slice (z.map mC)]]:=λe he=>by
 simp only [List.mem_cons,List.not_mem_nil,or_false]at he;rcases he with rfl | rfl | rfl <;> exact cl3 _ _ _
def zD(tE:Nat)(l:List AV)(K:AV->Prop):Prop:=
 match l with
 | [a]=>onPs (λl=>okPs 100000000 l/\K (errV tE (Vd l))) a
 | _=>False
theorem ya0 tE a K:zD tE [a] K=(onPs (λl=>okPs 100000000 l/\K (errV tE (Vd l))) a):=propext Iff.rfl
@[congr] theorem zb8 tE{K}{l l'}(h:l=l'):zD tE l K=zD tE l' K:=by subst h;rfl
attribute [go_sem,go_sem ↓] ya0
theorem ka8(tE:Nat):Good (zD tE):=Wa λas=>by
 unfold zD;split
 .exact(Qs λ_=>(.and λ_=>(.ret _)))
 .exact .of λK hk=>hk.elim
def VE(l:List AV)(K:AV->Prop):Prop:=
 match l with
 | [a]=>onPs (λl=>okPs 1000 l/\Vd l=0/\K (.tup [.one (.slice ((mcs (bcL l)).map mC)),.one (.lit .nilIface)])) a
 | _=>False
theorem Qa6 a K:VE [a] K=(onPs (λl=>okPs 1000 l/\Vd l=0/\K (.tup [.one (.slice ((mcs (bcL l)).map mC)),.one (.lit .nilIface)])) a):=propext Iff.rfl
@[congr] theorem qcc{K}{l l'}(h:l=l'):VE l K=VE l' K:=by subst h;rfl
attribute [go_sem,go_sem ↓] Qa6
theorem wa3:Good VE:=Wa λas=>by
 unfold VE;split
 .exact(Qs λ_=>(.and λ_=>(.and λ_=>(.ret _))))
 .exact .of λK hk=>hk.elim
def XI(tE:Nat)(l:List AV)(K:AV->Prop):Prop:=
 match l with
 | [a]=>onPs (λl=>okPs 1000 l/\K (.tup [.one (.slice ((bres (Vd l) (bcL l)).map mC)),errV tE (Vd l)])) a
 | _=>False
theorem ua1 tE a K:XI tE [a] K=(onPs (λl=>okPs 1000 l/\K (.tup [.one (.slice ((bres (Vd l) (bcL l)).map mC)),errV tE (Vd l)])) a):=propext Iff.rfl
@[congr] theorem Vce tE{K}{l l'}(h:l=l'):XI tE l K=XI tE l' K:=by subst h;rfl
attribute [go_sem,go_sem ↓] ua1
theorem qbe(tE:Nat):Good (XI tE):=Wa λas=>by
 unfold XI;split
 .exact(Qs λ_=>(.and λ_=>(.ret _)))
 .exact .of λK hk=>hk.elim
def Uf(f0 tE:Nat):AC:=(.o [.m 2 (.c (.one (.lit .nilIface)))] [0] (.f (.o [.M 4 0,.H 5 f0 4,.M 3 5] [0,3] (.o [.M 6 3,.R 7 6] [0,3,7] (.cond (.t 7) (.seq (.p [.M 8 3,.M 2 8]) .ret) .skip))) [0] (.f (.o [.M 9 0,.Z 10 9,.I 11 .neq 10 4] [11] (.cond (.t 11) (.seq (.p [.u 12 (.iface tE (.i 10)),.M 2 12]) .ret) .skip)) [] (.seq (.p [.m 2 (.c (.one (.lit .nilIface)))]) .ret))))
def kn(f0 f1 f2 f3 f4 f5:Nat):AC:=(.o [.m 2 (.c (.one .emp)),.m 3 (.c (.one (.lit .nilIface)))] [0] (.o [.u 10 (.build [.z [(.lit .nilIface)]]),.K 11 1 10,.M 4 11] [0,4] (.o [.M 12 4,.M 13 0,.u 14 (.idx 10 (.t 13) (.i 0)),.L 15 10 14,.u 16 (.callr f0 [(.t 12),(.t 15)]),.G 5 [.emp,.emp,.emp],.S 3 5 16] [0,4,5] (.o [.m 6 (.c (.one .emp))] [0,4,5,6] (.f (.o [.M 17 0,.u 18 (.sl 10 (.t 17) (some (.i 1)) none),.Z 19 18,.N 20 0] [4,5,6,18,19,20] (.block 0 (.loop (.o [.B 21 .lss 20 19] [4,5,6,18,19,20,21] (.f (.cond (.t 21) .skip (.exit 0)) [4,5,6,18,19,20] (.f (.block 1 (.o [.J 22 10 18 20,.L 23 10 22,.G 8 [.z,.emp,.emp,.z,.z,.emp,.emp,.z,.emp,.emp],.S 10 8 23] [4,5,6,8,18,19,20] (.y [.M 24 6,.M 25 4,.M 26 4,.L 27 10 8,.u 28 (.callr f0 [(.t 26),(.t 27)]),.L 29 3 5,.u 30 (.callr f1 [(.t 25),(.t 28),(.t 29)]),.u 31 (.row 3 [[.x 3 (.t 30)]]),.u 32 (.app 3 (.t 24) (.t 31)),.M 6 32]))) [4,5,6,18,19,20] (.p [.I 33 .add 20 1,.M 20 33]))))))) [4,6] (.f (.y [.M 34 4,.M 35 6,.u 36 (.idx 3 (.t 35) (.i 0)),.A 37 0 36,.F 38 1 37,.M 39 4,.M 40 6,.u 41 (.idx 3 (.t 40) (.i 1)),.L 42 3 41,.M 43 6,.u 44 (.idx 3 (.t 43) (.i 2)),.L 45 3 44,.u 46 (.callr f2 [(.t 39),(.t 42),(.t 45)]),.u 47 (.callr f3 [(.t 34),(.t 38),(.t 46)]),.M 9 47]) [4,6,9] (.f (.y [.M 48 4,.M 49 9,.M 50 4,.M 51 6,.u 52 (.idx 3 (.t 51) (.i 1)),.A 53 0 52,.F 54 1 53,.M 55 4,.M 56 6,.u 57 (.idx 3 (.t 56) (.i 0)),.L 58 3 57,.M 59 6,.u 60 (.idx 3 (.t 59) (.i 2)),.L 61 3 60,.u 62 (.callr f2 [(.t 55),(.t 58),(.t 61)]),.u 63 (.callr f3 [(.t 50),(.t 54),(.t 62)]),.u 64 (.callr f4 [(.t 48),(.t 49),(.t 63)]),.M 9 64]) [4,6,9] (.f (.y [.M 65 4,.M 66 9,.M 67 4,.M 68 6,.u 69 (.idx 3 (.t 68) (.i 2)),.A 70 0 69,.F 71 1 70,.M 72 4,.M 73 6,.u 74 (.idx 3 (.t 73) (.i 0)),.L 75 3 74,.M 76 6,.u 77 (.idx 3 (.t 76) (.i 1)),.L 78 3 77,.u 79 (.callr f2 [(.t 72),(.t 75),(.t 78)]),.u 80 (.callr f3 [(.t 67),(.t 71),(.t 79)]),.u 81 (.callr f5 [(.t 65),(.t 66),(.t 80)]),.M 9 81]) [4,9] (.seq (.y [.M 82 9,.M 83 4,.u 84 (.nilck (.t 83)),.A 85 0 84,.F 86 1 85,.M 2 82,.M 3 86]) .ret)))))))))
def Jh(f0 f1:Nat):AC:=(.o [.m 2 (.c (.one .emp)),.m 3 (.c (.one (.lit .nilIface)))] [0] (.f (.o [.M 5 0,.H 6 f0 5,.M 4 6] [0,4] (.o [.M 7 4,.R 8 7] [0,4,8] (.cond (.t 8) (.seq (.p [.M 9 4,.m 2 (.c (.one .emp)),.M 3 9]) .ret) .skip))) [0] (.seq (.p [.M 10 0,.H 11 f1 10,.X 12 0 11,.X 13 1 11,.M 2 12,.M 3 13]) .ret)))
theorem WaM(hΓ:Xa P Γ){f fk tE:Nat}(hk:Γ fk=.dat false (vN tE))(hc:check P f=some (13,(Uf fk tE).strip,[.tmp 2])):ua P f (.dat false (zD tE)):=by
 refine ka hc (ka8 tE) hΓ (λargs K hcl hfi hG=>?_);match args,hG with
 | [a],hG=>
  obtain⟨l,rfl,hw,hl,hK⟩:=hG;refine⟨by simp,?_⟩
  by_cases h0:plchk l=0
  .have e0:=Qc tE;by_cases h1:l.length=4
   .have ee:Vd l=0:=by unfold Vd;rw [if_neg (by omega),if_pos h1]
    rw [ee,e0]at hK;have h2:(((l.length:Nat):Int)=4)=True:=eq_true (by omega)
    simp only [go_sem,Uf,hk,h0,e0,h2];repeat first | refine Wk ?_ | intro _
    exact hK
   .have ee:Vd l=10:=by unfold Vd;rw [if_neg (by omega),if_neg h1]
    have e1:=Zd tE (by decide:(10:Nat)≠0)
    rw [ee,e1]at hK;have h2:(((l.length:Nat):Int)=4)=False:=eq_false (by omega)
    simp only [go_sem,Uf,hk,h0,e0,h2];repeat first | refine Wk ?_ | intro _
    exact hK
  .have ee:Vd l=plchk l:=if_pos h0;have e1:=Zd tE h0;rw [ee,e1]at hK;simp only [go_sem,Uf,hk,e1];repeat first | refine Wk ?_ | intro _
   exact hK
set_option maxHeartbeats 2000000 in
theorem VaS(hΓ:Xa P Γ){f fp fl fn fm fs fa:Nat}(hp:Γ fp=.red XM)(hl:Γ fl=.red zF)(hn:Γ fn=.red qM)(hm:Γ fm=.red JG)(hs:Γ fs=.red ZG)(ha:Γ fa=.red WI)(hc:check P f=some (87,(kn fp fl fn fm fs fa).strip,[.tmp 2,.tmp 3])):ua P f (.dat false VE):=by
 refine ka hc wa3 hΓ (λargs K hcl hfi hG=>?_);match args,hG with
 | [a],hG=>
  obtain⟨l,rfl,hw,hl0,h4,hK⟩:=hG;refine⟨by simp,?_⟩
  obtain⟨hlen,hval⟩:=kG h4;obtain⟨p,q,r,s,rfl⟩:=Y7 hlen;simp only [List.all_cons,List.all_nil,Bool.and_true,Bool.and_eq_true]at hval;obtain⟨vp,vq,vr,vs⟩:=hval;have mp:=hl0 p (by simp)
  have mq:=hl0 q (by simp)
  have mr:=hl0 r (by simp)
  have ms':=hl0 s (by simp)
  have wp:=mp.1;have wq:=mq.1;have wr:=mr.1;have ws':=ms'.1;have lp:=mp.2;have lq:=mq.2;have lr:=mr.2;have ls:=ms'.2;have kp:=Yg wp lp;have kq:=Yg wq lq;have kr:=Yg wr lr;have ks:=Yg ws' ls;have eK:bcL [p,q,r,s]=ci3 (lsR (rwB (pv q)) (rwB (pv p))) (lsR (rwB (pv r)) (rwB (pv p))) (lsR (rwB (pv s)) (rwB (pv p))):=rfl;rw [eK]at hK;have Rp:=jG kp;have Rq:=jG kq;have Rr:=jG kr;have Rs:=jG ks;have o1:=YbI kp kq;have o2:=YbI kp kr;have o3:=YbI kp ks;have D1:=rb_d kp kq;have D2:=rb_d kp kr;have D3:=rb_d kp ks;have u12:=QbK kp kq kr;have u13:=QbK kp kq ks;have u23:=QbK kp kr ks;obtain⟨A,hA⟩:∃A,rwB (pv p)=A:=⟨_,rfl⟩;obtain⟨B,hB⟩:∃A,rwB (pv q)=A:=⟨_,rfl⟩;obtain⟨D,hD⟩:∃A,rwB (pv r)=A:=⟨_,rfl⟩;obtain⟨E,hE⟩:∃A,rwB (pv s)=A:=⟨_,rfl⟩;rw [hA]at Rp;rw [hB]at Rq;rw [hD]at Rr;rw [hE]at Rs;rw [hA,hB]at o1 D1 hK;rw [hA,hD]at o2 D2;rw [hA,hE]at o3 D3;rw [hD,hE]at hK;rw [hA,hB,hD]at u12;rw [hA,hB,hE]at u13;rw [hA,hD,hE]at u23;obtain⟨F,hF⟩:∃x,lsR B A=x:=⟨_,rfl⟩;obtain⟨G,hG⟩:∃x,lsR D A=x:=⟨_,rfl⟩;obtain⟨H,hH⟩:∃x,lsR E A=x:=⟨_,rfl⟩;rw [hF]at D1 u12 u13 hK;rw [hG]at D2 u12 u23 hK;rw [hH]at D3 u13 u23 hK;obtain⟨A1,A2,A3⟩:=A;obtain⟨B1,B2,B3⟩:=B;obtain⟨C1,C2,C3⟩:=D;obtain⟨E1,E2,E3⟩:=E;obtain⟨F1,F2,F3⟩:=F;obtain⟨G1,G2,G3⟩:=G;obtain⟨H1,H2,H3⟩:=H;have cA:Canon A1/\Canon A2/\Canon A3:=⟨Rp.1.canon,Rp.2.1.canon,Rp.2.2.canon⟩;have cB:Canon B1/\Canon B2/\Canon B3:=⟨Rq.1.canon,Rq.2.1.canon,Rq.2.2.canon⟩;have cC:Canon C1/\Canon C2/\Canon C3:=⟨Rr.1.canon,Rr.2.1.canon,Rr.2.2.canon⟩;have cE:Canon E1/\Canon E2/\Canon E3:=⟨Rs.1.canon,Rs.2.1.canon,Rs.2.2.canon⟩;have cF:Canon F1/\Canon F2/\Canon F3:=⟨D1.1.canon,D1.2.1.canon,D1.2.2.canon⟩;have cG:Canon G1/\Canon G2/\Canon G3:=⟨D2.1.canon,D2.2.1.canon,D2.2.2.canon⟩;have cH:Canon H1/\Canon H2/\Canon H3:=⟨D3.1.canon,D3.2.1.canon,D3.2.2.canon⟩;simp only [go_sem,kn,hp,List.map_cons,List.map_nil,hA];have hL:∀e:List C,e∈[pC p,pC q,pC r,pC s]->e.length=10:=λe he=>by
   simp only [List.mem_cons,List.not_mem_nil,or_false]at he;rcases he with rfl | rfl | rfl | rfl <;> exact uh _
  repeat refine Wr ?_
  refine Ya (λk:Nat=>if k=0 then ⟨mkV [(4,.one (.ptr 11 1 0 0)),(5,.one (.ptr 5 1 0 0)),(6,.one .emp),(18,.one (.slice [pC q,pC r,pC s])),(19,.one (.lit (.int .i64 ((3:Nat):Int)))),(20,.one (.lit (.int .i64 k)))],mkH [(5,⟨1,some ⟨[[.slice ((mcs A1).map mC),.slice ((mcs A2).map mC),.slice ((mcs A3).map mC)]],3,true⟩⟩),(11,⟨1,some ⟨[[.lit .nilIface]],1,true⟩⟩)]⟩ else ⟨mkV [(4,.one (.ptr 11 1 0 0)),(5,.one (.ptr 5 1 0 0)),(6,.one (.own 32 1 3 0 k)),(18,.one (.slice [pC q,pC r,pC s])),(19,.one (.lit (.int .i64 ((3:Nat):Int)))),(20,.one (.lit (.int .i64 k)))],mkH [(32,⟨1,some ⟨if k=1 then [[.slice ((mcs F1).map mC),.slice ((mcs F2).map mC),.slice ((mcs F3).map mC)]] else if k=2 then [[.slice ((mcs F1).map mC),.slice ((mcs F2).map mC),.slice ((mcs F3).map mC)],[.slice ((mcs G1).map mC),.slice ((mcs G2).map mC),.slice ((mcs G3).map mC)]] else [[.slice ((mcs F1).map mC),.slice ((mcs F2).map mC),.slice ((mcs F3).map mC)],[.slice ((mcs G1).map mC),.slice ((mcs G2).map mC),.slice ((mcs G3).map mC)],[.slice ((mcs H1).map mC),.slice ((mcs H2).map mC),.slice ((mcs H3).map mC)]],3,true⟩⟩),(5,⟨1,some ⟨[[.slice ((mcs A1).map mC),.slice ((mcs A2).map mC),.slice ((mcs A3).map mC)]],3,true⟩⟩),(11,⟨1,some ⟨[[.lit .nilIface]],1,true⟩⟩)]⟩) (λk=>k<=3) (λk=>3-k) 0 ?_ ?_ ?_
  .exact Qa (by simp [okS,okV,okC,okL,okH,okB,okE,ja,Ja,qa,Va,wsA,ws]) ⟨YaJ,Yaw,trivial⟩
  .exact Nat.zero_le _
  .intro k hk3;have n10:¬(1=0):=by decide
   have n20:¬(2=0):=by decide
   have n30:¬(3=0):=by decide
   have n21:¬(2=1):=by decide
   have n31:¬(3=1):=by decide
   have n32:¬(3=2):=by decide
   have fF:∀e:List C,e∈[[.slice ((mcs F1).map mC),.slice ((mcs F2).map mC),.slice ((mcs F3).map mC)]]->e.length=3:=λe he=>by
    rw [List.mem_singleton.1 he];rfl
   have fG:∀e:List C,e∈[[.slice ((mcs G1).map mC),.slice ((mcs G2).map mC),.slice ((mcs G3).map mC)]]->e.length=3:=λe he=>by
    rw [List.mem_singleton.1 he];rfl
   have fH:∀e:List C,e∈[[.slice ((mcs H1).map mC),.slice ((mcs H2).map mC),.slice ((mcs H3).map mC)]]->e.length=3:=λe he=>by
    rw [List.mem_singleton.1 he];rfl
   match k,hk3 with
   | 0,_=>
    rw [if_pos rfl];simp only [go_sem,hp,hl,Wb,hB,hF];repeat refine Wr ?_
    refine⟨1,?_,by decide,by decide⟩
    rw [if_neg n10,if_pos rfl];exact Qa (by simp [okS,okV,okC,okL,okH,okB,okE,ja,Ja,qa,Va,wsA,ws]) ⟨kT cR1,YaJ,Yaw,trivial⟩
   | 1,_=>
    rw [if_neg n10,if_pos rfl];simp only [go_sem,hp,hl,Wb,hD,hG];repeat refine Wr ?_
    refine⟨2,?_,by decide,by decide⟩
    rw [if_neg n20,if_neg n21,if_pos rfl];exact Qa (by simp [okS,okV,okC,okL,okH,okB,okE,ja,Ja,qa,Va,wsA,ws]) ⟨kT cR2,YaJ,Yaw,trivial⟩
   | 2,_=>
    rw [if_neg n20,if_neg n21,if_pos rfl];simp only [go_sem,hp,hl,Wb,hE,hH];repeat refine Wr ?_
    refine⟨3,?_,by decide,by decide⟩
    rw [if_neg n30,if_neg n31,if_neg n32];exact Qa (by simp [okS,okV,okC,okL,okH,okB,okE,ja,Ja,qa,Va,wsA,ws]) ⟨kT cR3,YaJ,Yaw,trivial⟩
   | 3,_=>
    rw [if_neg n30,if_neg n31,if_neg n32];have N1:=QN D2 D3;have N2:=QN D1 D3;have N3:=QN D1 D2;have F0:PB 2 218400 F1:=D1.1;have G0:PB 2 218400 G1:=D2.1;have H0:PB 2 218400 H1:=D3.1;obtain⟨m1,m2⟩:=F0.mulok N1 (by decide) (by decide)
    obtain⟨m3,m4⟩:=G0.mulok N2 (by decide) (by decide)
    obtain⟨m5,m6⟩:=H0.mulok N3 (by decide) (by decide)
    have t6:tri (2+1)=6:=rfl;have P1:=F0.mul N1 (by decide)
    have P2:=G0.mul N2 (by decide)
    have P3:=H0.mul N3 (by decide)
    rw [t6]at P1 P2 P3;have P4:=P1.sub P2;have N1c:=N1.canon;have N2c:=N2.canon;have N3c:=N3.canon;have P1c:=P1.canon;have P2c:=P2.canon;have P3c:=P3.canon;have P4c:=P4.canon;have k1:=Nat.le_trans (Nat.add_le_add P1.size P2.size) (by decide:_<=1000000000)
    have k2:=Nat.le_trans (Nat.add_le_add P4.size P3.size) (by decide:_<=1000000000)
    have F0c:=F0.canon;have G0c:=G0.canon;have H0c:=H0.canon;simp only [go_sem,hn,hm,hs,ha];repeat refine Wr ?_
    exact hK
theorem VaN(hΓ:Xa P Γ){f fk fb tE:Nat}(hk:Γ fk=.dat false (zD tE))(hb:Γ fb=.dat false VE)(hc:check P f=some (14,(Jh fk fb).strip,[.tmp 2,.tmp 3])):ua P f (.dat false (XI tE)):=by
 refine ka hc (qbe tE) hΓ (λargs K hcl hfi hG=>?_);match args,hG with
 | [a],hG=>
  obtain⟨l,rfl,hw,hl,hK⟩:=hG;refine⟨by simp,?_⟩
  have hl2:=Uh hl (by decide:1000<=100000000)
  by_cases h0:Vd l=0
  .have e0:=Qc tE;rw [h0,yC,e0]at hK;simp only [go_sem,Jh,hk,hb,h0,e0];repeat refine Wr ?_
   exact hK
  .have e1:=Zd tE h0;rw [wG h0,e1]at hK;simp only [go_sem,Jh,hk,e1];repeat refine Wr ?_
   exact hK
end Go.Abs
end
section
namespace Go.Num
open Go.Abs
theorem XO(a:V2):av (rcan a.1,rcan a.2)=a:=Qbt a
theorem uu(x:Rat):decide (ordQ x 0=0)=decide (x=0):=by rw [decide_eq_decide];exact Xt
theorem Wy(x:Rat):(ordQ x 0=0)=(x=0):=propext Xt
instance decH(c:CpR)(a b:V2):Decidable (hldQ c a b):=inferInstanceAs (Decidable (_/\_/\_))
end Go.Num
namespace Go.Abs
open Go.Num
variable {P:Program} {Γ:Nat->Spec}
def XaV(tE:Nat)(l:List AV)(K:AV->Prop):Prop:=
 match l with
 | [c]=>onCp (λc=>cl c<=4000/\K (.tup [.one (.slice ((bres (cchk c) (cCur (cpv c))).map mC)),errV tE (cchk c)])) c
 | _=>False
theorem Vbc tE c K:XaV tE [c] K=(onCp (λc=>cl c<=4000/\K (.tup [.one (.slice ((bres (cchk c) (cCur (cpv c))).map mC)),errV tE (cchk c)])) c):=propext Iff.rfl
@[congr] theorem Wcg tE{K}{l l'}(h:l=l'):XaV tE l K=XaV tE l' K:=by subst h;rfl
attribute [go_sem,go_sem ↓] Vbc
def WaW(tE:Nat)(l:List AV)(K:AV->Prop):Prop:=
 match l with
 | [c]=>onCp (λc=>cl c<=4000/\K (.tup [.one (.slice ((bres (cchk c) (cM (cpv c))).map mC)),errV tE (cchk c)])) c
 | _=>False
theorem Ua0 tE c K:WaW tE [c] K=(onCp (λc=>cl c<=4000/\K (.tup [.one (.slice ((bres (cchk c) (cM (cpv c))).map mC)),errV tE (cchk c)])) c):=propext Iff.rfl
@[congr] theorem ub6 tE{K}{l l'}(h:l=l'):WaW tE l K=WaW tE l' K:=by subst h;rfl
attribute [go_sem,go_sem ↓] Ua0
def ka2(tE:Nat)(l:List AV)(K:AV->Prop):Prop:=
 match l with
 | [c,p]=>onCp (λc=>onA (λp=>cl c<=4000/\al p<=10000/\K (.tup [.one (.lit (.bool (decide (cchk2 c [p]=0) && decide (wV (cpv c) (av p)=0)))),errV tE (cchk2 c [p])])) p) c
 | _=>False
theorem Wbb tE c p K:ka2 tE [c,p] K=(onCp (λc=>onA (λp=>cl c<=4000/\al p<=10000/\K (.tup [.one (.lit (.bool (decide (cchk2 c [p]=0) && decide (wV (cpv c) (av p)=0)))),errV tE (cchk2 c [p])])) p) c):=propext Iff.rfl
@[congr] theorem wb8 tE{K}{l l'}(h:l=l'):ka2 tE l K=ka2 tE l' K:=by subst h;rfl
attribute [go_sem,go_sem ↓] Wbb
def Wbc(tE:Nat)(l:List AV)(K:AV->Prop):Prop:=
 match l with
 | [c,a,b]=>onCp (λc=>onA (λa=>onA (λb=>cl c<=10000/\al a<=10000/\al b<=10000/\K (.tup [pQ (if cchk2 c [a,b]=0 then ptQ (cpv c) (av a) (av b) else (0,0)),errV tE (cchk2 c [a,b])])) b) a) c
 | _=>False
theorem xbk tE c a b K:Wbc tE [c,a,b] K=(onCp (λc=>onA (λa=>onA (λb=>cl c<=10000/\al a<=10000/\al b<=10000/\K (.tup [pQ (if cchk2 c [a,b]=0 then ptQ (cpv c) (av a) (av b) else (0,0)),errV tE (cchk2 c [a,b])])) b) a) c):=propext Iff.rfl
@[congr] theorem yb6 tE{K}{l l'}(h:l=l'):Wbc tE l K=Wbc tE l' K:=by subst h;rfl
attribute [go_sem,go_sem ↓] xbk
def kba(tE:Nat)(l:List AV)(K:AV->Prop):Prop:=
 match l with
 | [c,a,b]=>onCp (λc=>onA (λa=>onA (λb=>cl c<=10000/\al a<=10000/\al b<=10000/\K (.tup [.one (.lit (.bool (decide (cchk2 c [a,b]=0) && decide (hldQ (cpv c) (av a) (av b))))),errV tE (cchk2 c [a,b])])) b) a) c
 | _=>False
theorem Ua7 tE c a b K:kba tE [c,a,b] K=(onCp (λc=>onA (λa=>onA (λb=>cl c<=10000/\al a<=10000/\al b<=10000/\K (.tup [.one (.lit (.bool (decide (cchk2 c [a,b]=0) && decide (hldQ (cpv c) (av a) (av b))))),errV tE (cchk2 c [a,b])])) b) a) c):=propext Iff.rfl
@[congr] theorem xb8 tE{K}{l l'}(h:l=l'):kba tE l K=kba tE l' K:=by subst h;rfl
attribute [go_sem,go_sem ↓] Ua7
end Go.Abs
end
