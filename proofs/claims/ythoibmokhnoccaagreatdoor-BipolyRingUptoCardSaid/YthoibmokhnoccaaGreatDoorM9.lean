/-
  Parts of the proof, merged: PoseF, PoseG, PoseH, PoseI, PoseJ, PoseK, CoupA.
-/
import Derived.Test.YthoibmokhnoccaaGreatDoorM8
set_option linter.unusedVariables false
set_option linter.unusedSimpArgs false
set_option maxRecDepth 100000
section
namespace Go.Num
open Go.Abs
def pt(i:Nat)(A:List V2):V2:=A.getD i (0,0)
def ciV(A:List V2):V2:=ciQ (pt 0 A) (subQ (pt 1 A) (pt 0 A)) (subQ (pt 2 A) (pt 0 A))
def crV(A:List V2):Rat:=crossQ (subQ (pt 1 A) (pt 0 A)) (subQ (pt 2 A) (pt 0 A))
def othV(A:List V2):V2:=if pt 0 A=pt 1 A then pt 2 A else pt 1 A
def lnC(A:List V2):Nat:=if pt 0 A=othV A then 8 else if crV A≠0 then 21 else 0
def lnA(A:List V2):Rat:=if lnC A=0 then (pt 0 A).2-(othV A).2 else 0
def lnB(A:List V2):Rat:=if lnC A=0 then (othV A).1-(pt 0 A).1 else 0
def lnK(A:List V2):Rat:=if lnC A=0 then ((pt 0 A).2-(othV A).2)*(pt 0 A).1+((othV A).1-(pt 0 A).1)*(pt 0 A).2 else 0
abbrev DyQ:=V2×V2×Rat
def dl(d:Dy):Nat:=max (al d.1) (max (al d.2.1) (rl d.2.2))
def dvld(d:Dy):Bool:=avld d.1 && (avld d.2.1 && vldR d.2.2)
def d0:DyQ:=((0,0),(0,0),0)
def cenC(l:List Ps)(m:Arc):Nat:=if chkC l [m]≠0 then chkC l [m] else if crV (imgs l m)=0 then 8 else 0
def cenQ(A:List V2)(m:V2):DyQ:=(ciV A,m,sqQ (subQ (pt 0 A) (ciV A)))
def lineC(l:List Ps)(m:Arc):Nat:=if chkC l [m]≠0 then chkC l [m] else lnC (imgs l m)
def psnC(l:List Ps)(d:Dy):Nat:=if plchk l≠0 then plchk l else if dvld d then 0 else 2
def psnB(l:List Ps)(d:Dy):Bool:=(imgs l d.2.1).all λx=>decide (sqQ (subQ x (av d.1))=rv d.2.2)
end Go.Num
namespace Go.Abs
open Go.Num
variable {P:Program} {Γ:Nat->Spec}
def dqA(d:DyQ):AV:=.agg [cb (rcan d.1.1),cn (rcan d.1.1),cd (rcan d.1.1),cb (rcan d.1.2),cn (rcan d.1.2),cd (rcan d.1.2),cb (rcan d.2.1.1),cn (rcan d.2.1.1),cd (rcan d.2.1.1),cb (rcan d.2.1.2),cn (rcan d.2.1.2),cd (rcan d.2.1.2),cb (rcan d.2.2),cn (rcan d.2.2),cd (rcan d.2.2)]
theorem ubk(d:DyQ):dqA d=.agg [cb (rcan d.1.1),cn (rcan d.1.1),cd (rcan d.1.1),cb (rcan d.1.2),cn (rcan d.1.2),cd (rcan d.1.2),cb (rcan d.2.1.1),cn (rcan d.2.1.1),cd (rcan d.2.1.1),cb (rcan d.2.1.2),cn (rcan d.2.1.2),cd (rcan d.2.1.2),cb (rcan d.2.2),cn (rcan d.2.2),cd (rcan d.2.2)]:=eq_of_heq (HEq.refl _)
attribute [go_sem,go_sem ↓] ubk
def Qak(tE:Nat)(l:List AV)(K:AV->Prop):Prop:=
 match l with
 | [a,b]=>onPs (λl=>onA (λm=>okPs 1000 l/\al m<=10000/\K (.tup [rQ (if lineC l m=0 then lnA (imgs l m) else 0),rQ (if lineC l m=0 then lnB (imgs l m) else 0),rQ (if lineC l m=0 then lnK (imgs l m) else 0),errV tE (lineC l m)])) b) a
 | _=>False
theorem kaA tE a b K:Qak tE [a,b] K=(onPs (λl=>onA (λm=>okPs 1000 l/\al m<=10000/\K (.tup [rQ (if lineC l m=0 then lnA (imgs l m) else 0),rQ (if lineC l m=0 then lnB (imgs l m) else 0),rQ (if lineC l m=0 then lnK (imgs l m) else 0),errV tE (lineC l m)])) b) a):=propext Iff.rfl
@[congr] theorem vbN tE{K}{l l'}(h:l=l'):Qak tE l K=Qak tE l' K:=by subst h;rfl
attribute [go_sem,go_sem ↓] kaA
def kae(l:List AV)(K:AV->Prop):Prop:=
 match l with
 | [a,b]=>onPs (λl=>onA (λm=>okPs 1000 l/\al m<=10000/\l.length=3/\K (.tup [rQ (lnA (imgs l m)),rQ (lnB (imgs l m)),rQ (lnK (imgs l m)),.one (.lit (.int .i64 (lnC (imgs l m):Nat)))])) b) a
 | _=>False
theorem wap a b K:kae [a,b] K=(onPs (λl=>onA (λm=>okPs 1000 l/\al m<=10000/\l.length=3/\K (.tup [rQ (lnA (imgs l m)),rQ (lnB (imgs l m)),rQ (lnK (imgs l m)),.one (.lit (.int .i64 (lnC (imgs l m):Nat)))])) b) a):=propext Iff.rfl
@[congr] theorem YbL{K}{l l'}(h:l=l'):kae l K=kae l' K:=by subst h;rfl
attribute [go_sem,go_sem ↓] wap
def zH(tE:Nat)(l:List AV)(K:AV->Prop):Prop:=
 match l with
 | [a,b]=>onPs (λl=>onA (λm=>okPs 1000 l/\al m<=10000/\K (.tup [dqA (if cenC l m=0 then cenQ (imgs l m) (av m) else d0),errV tE (cenC l m)])) b) a
 | _=>False
theorem zP tE a b K:zH tE [a,b] K=(onPs (λl=>onA (λm=>okPs 1000 l/\al m<=10000/\K (.tup [dqA (if cenC l m=0 then cenQ (imgs l m) (av m) else d0),errV tE (cenC l m)])) b) a):=propext Iff.rfl
@[congr] theorem qbw tE{K}{l l'}(h:l=l'):zH tE l K=zH tE l' K:=by subst h;rfl
attribute [go_sem,go_sem ↓] zP
def QH(tE:Nat)(l:List AV)(K:AV->Prop):Prop:=
 match l with
 | [a,b]=>onPs (λl=>onDy (λd=>okPs 1000 l/\dl d<=100000/\K (.tup [.one (.lit (.bool (decide (psnC l d=0) && psnB l d))),errV tE (psnC l d)])) b) a
 | _=>False
theorem WN tE a b K:QH tE [a,b] K=(onPs (λl=>onDy (λd=>okPs 1000 l/\dl d<=100000/\K (.tup [.one (.lit (.bool (decide (psnC l d=0) && psnB l d))),errV tE (psnC l d)])) b) a):=propext Iff.rfl
@[congr] theorem Ybw tE{K}{l l'}(h:l=l'):QH tE l K=QH tE l' K:=by subst h;rfl
attribute [go_sem,go_sem ↓] WN
end Go.Abs
end
section
namespace Go.Num
open Go.Abs
def exPs:List Ps:=[((rcan 0,false),(rcan 0,rcan 0)),((rcan 0,false),(rcan 2,rcan 0)),((rcan 0,true),(rcan 2,rcan 2))]
def o2:Arc:=(rcan 0,rcan 0)
end Go.Num
namespace Go.Abs
open Go.Num
variable {P:Program} {Γ:Nat->Spec}
def jaP(l:List AV)(K:AV->Prop):Prop:=
 match l with
 | []=>K (psA exPs)
 | _=>False
theorem ua1 K:jaP [] K=(K (psA exPs)):=propext Iff.rfl
@[congr] theorem WbP{K}{l l'}(h:l=l'):jaP l K=jaP l' K:=by subst h;rfl
attribute [go_sem,go_sem ↓] ua1
def uak(l:List AV)(K:AV->Prop):Prop:=
 match l with
 | []=>K (.one (.lit (.bool true)))
 | _=>False
theorem waq K:uak [] K=(K (.one (.lit (.bool true)))):=propext Iff.rfl
@[congr] theorem jbO{K}{l l'}(h:l=l'):uak l K=uak l' K:=by subst h;rfl
attribute [go_sem,go_sem ↓] waq
def kT(l:List AV)(K:AV->Prop):Prop:=
 match l with
 | [a,b]=>onPs (λl=>onA (λm=>okPs 1048576 l/\al m<=1048576/\K (.one (.lit (.bool true)))) b) a
 | _=>False
theorem JZ a b K:kT [a,b] K=(onPs (λl=>onA (λm=>okPs 1048576 l/\al m<=1048576/\K (.one (.lit (.bool true)))) b) a):=propext Iff.rfl
@[congr] theorem WbK{K}{l l'}(h:l=l'):kT l K=kT l' K:=by subst h;rfl
attribute [go_sem,go_sem ↓] JZ
end Go.Abs
end
section
namespace Go.Num
open Go.Abs
instance decAR:DecidableEq (Arc×R):=instDecidableEqProd
instance decDy:DecidableEq Dy:=instDecidableEqProd
def dz:Dy:=(((false,[],[]),(false,[],[])),((false,[],[]),(false,[],[])),(false,[],[]))
def cenR(A:List V2)(m:Arc):Dy:=(acan (ciV A),m,rcan (sqQ (subQ (pt 0 A) (ciV A))))
def movR(A:List V2)(m:Arc):Dy:=(m,acan (ciV A),rcan (sqQ (subQ (pt 0 A) (ciV A))))
def pcan(p:PsQ):Ps:=((rcan p.1.1,p.1.2),acan p.2)
def imgsB(l:List Ps)(o:Arc):List V2:=l.map λp=>appQ (invQ (pv p)) (av o)
def movC(l:List Ps)(o:Arc):Nat:=if chkC l [o]≠0 then chkC l [o] else if crV (imgsB l o)=0 then 8 else 0
def movQ(A:List V2)(o:V2):DyQ:=(o,ciV A,sqQ (subQ (pt 0 A) (ciV A)))
end Go.Num
namespace Go.Abs
open Go.Num
variable {P:Program} {Γ:Nat->Spec}
def xE(l:List AV)(K:AV->Prop):Prop:=
 match l with
 | [a,b]=>onPs (λl=>onA (λm=>okPs 1000 l/\al m<=10000/\l.length=3/\K (.tup [dA (if crV (imgs l m)=0 then dz else cenR (imgs l m) m),.one (.lit (.int .i64 (if crV (imgs l m)=0 then 8 else 0)))])) b) a
 | _=>False
theorem VK a b K:xE [a,b] K=(onPs (λl=>onA (λm=>okPs 1000 l/\al m<=10000/\l.length=3/\K (.tup [dA (if crV (imgs l m)=0 then dz else cenR (imgs l m) m),.one (.lit (.int .i64 (if crV (imgs l m)=0 then 8 else 0)))])) b) a):=propext Iff.rfl
@[congr] theorem ubv{K}{l l'}(h:l=l'):xE l K=xE l' K:=by subst h;rfl
attribute [go_sem,go_sem ↓] VK
def YF(l:List AV)(K:AV->Prop):Prop:=
 match l with
 | [a,b]=>onPs (λl=>onA (λm=>okPs 1000 l/\al m<=10000/\l.length=3/\K (.tup [dA (if crV (imgsB l m)=0 then dz else movR (imgsB l m) m),.one (.lit (.int .i64 (if crV (imgsB l m)=0 then 8 else 0)))])) b) a
 | _=>False
theorem vL a b K:YF [a,b] K=(onPs (λl=>onA (λm=>okPs 1000 l/\al m<=10000/\l.length=3/\K (.tup [dA (if crV (imgsB l m)=0 then dz else movR (imgsB l m) m),.one (.lit (.int .i64 (if crV (imgsB l m)=0 then 8 else 0)))])) b) a):=propext Iff.rfl
@[congr] theorem ybw{K}{l l'}(h:l=l'):YF l K=YF l' K:=by subst h;rfl
attribute [go_sem,go_sem ↓] vL
def uE(tE:Nat)(l:List AV)(K:AV->Prop):Prop:=
 match l with
 | [a,b]=>onPs (λl=>onA (λm=>okPs 1000 l/\al m<=10000/\K (.tup [dqA (if movC l m=0 then movQ (imgsB l m) (av m) else d0),errV tE (movC l m)])) b) a
 | _=>False
theorem YO tE a b K:uE tE [a,b] K=(onPs (λl=>onA (λm=>okPs 1000 l/\al m<=10000/\K (.tup [dqA (if movC l m=0 then movQ (imgsB l m) (av m) else d0),errV tE (movC l m)])) b) a):=propext Iff.rfl
@[congr] theorem vbw tE{K}{l l'}(h:l=l'):uE tE l K=uE tE l' K:=by subst h;rfl
attribute [go_sem,go_sem ↓] YO
def WI(l:List AV)(K:AV->Prop):Prop:=
 match l with
 | [a,b]=>onPs (λl=>onDy (λd=>okPs 1000 l/\dl d<=100000/\l.length<=1000/\K (.one (.lit (.bool (psnB l d))))) b) a
 | _=>False
theorem XO a b K:WI [a,b] K=(onPs (λl=>onDy (λd=>okPs 1000 l/\dl d<=100000/\l.length<=1000/\K (.one (.lit (.bool (psnB l d))))) b) a):=propext Iff.rfl
@[congr] theorem Jbw{K}{l l'}(h:l=l'):WI l K=WI l' K:=by subst h;rfl
attribute [go_sem,go_sem ↓] XO
def Yaf(l:List AV)(K:AV->Prop):Prop:=
 match l with
 | [a]=>onDy (λd=>dl d<=100000/\K (.one (.lit (.bool (dvld d))))) a
 | _=>False
theorem Uat a K:Yaf [a] K=(onDy (λd=>dl d<=100000/\K (.one (.lit (.bool (dvld d))))) a):=propext Iff.rfl
@[congr] theorem VbM{K}{l l'}(h:l=l'):Yaf l K=Yaf l' K:=by subst h;rfl
attribute [go_sem,go_sem ↓] Uat
def XE(l:List AV)(K:AV->Prop):Prop:=
 match l with
 | [a]=>onDy (λd=>dl d<=4294967296/\K (.one (.lit (.bool (sA d.1 && (sA d.2.1 && sR 4 d.2.2)))))) a
 | _=>False
theorem UL a K:XE [a] K=(onDy (λd=>dl d<=4294967296/\K (.one (.lit (.bool (sA d.1 && (sA d.2.1 && sR 4 d.2.2)))))) a):=propext Iff.rfl
@[congr] theorem jbw{K}{l l'}(h:l=l'):XE l K=XE l' K:=by subst h;rfl
attribute [go_sem,go_sem ↓] UL
def VS(l:List AV)(K:AV->Prop):Prop:=
 match l with
 | [a,b]=>onDy (λd=>onDy (λe=>dl d<=4294967296/\K (.one (.lit (.bool (decide (d=e)))))) b) a
 | _=>False
theorem Y5 a b K:VS [a,b] K=(onDy (λd=>onDy (λe=>dl d<=4294967296/\K (.one (.lit (.bool (decide (d=e)))))) b) a):=propext Iff.rfl
@[congr] theorem xbF{K}{l l'}(h:l=l'):VS l K=VS l' K:=by subst h;rfl
attribute [go_sem,go_sem ↓] Y5
end Go.Abs
end
section
namespace Go.Num
open Go.Abs
abbrev CpQ:=V2×V2×Rat×Rat×Rat×Rat×Rat
def c0:CpQ:=((0,0),(0,0),0,0,0,0,0)
def timesQ(a b:V2):V2:=(a.1*b.1-a.2*b.2,a.1*b.2+a.2*b.1)
def barQ(a:V2):V2:=(a.1,-a.2)
def lnkC(A B:List V2)(m n:V2):Nat:=if m=n then 8 else if crV A=0 then 8 else if crV B=0 then 8 else if ciV A=ciV B then 8 else 0
def lnkQ(A B:List V2)(m n:V2):CpQ:=(ciV A,ciV B,sqQ (subQ (pt 0 A) (ciV A)),sqQ (subQ n m),sqQ (subQ (pt 0 B) (ciV B)),-(m.1*(subQ n m).1+m.2*(subQ n m).2) / sqQ (subQ n m),(m.1*(subQ n m).2-m.2*(subQ n m).1) / sqQ (subQ n m))
def lkC(l:List Ps)(m n:Arc):Nat:=if chkC l [m,n]≠0 then chkC l [m,n] else lnkC (imgs l m) (imgs l n) (av m) (av n)
end Go.Num
namespace Go.Abs
open Go.Num
variable {P:Program} {Γ:Nat->Spec}
def cqC(c:CpQ):List C:=[cb (rcan c.1.1),cn (rcan c.1.1),cd (rcan c.1.1),cb (rcan c.1.2),cn (rcan c.1.2),cd (rcan c.1.2),cb (rcan c.2.1.1),cn (rcan c.2.1.1),cd (rcan c.2.1.1),cb (rcan c.2.1.2),cn (rcan c.2.1.2),cd (rcan c.2.1.2),cb (rcan c.2.2.1),cn (rcan c.2.2.1),cd (rcan c.2.2.1),cb (rcan c.2.2.2.1),cn (rcan c.2.2.2.1),cd (rcan c.2.2.2.1),cb (rcan c.2.2.2.2.1),cn (rcan c.2.2.2.2.1),cd (rcan c.2.2.2.2.1),cb (rcan c.2.2.2.2.2.1),cn (rcan c.2.2.2.2.2.1),cd (rcan c.2.2.2.2.2.1),cb (rcan c.2.2.2.2.2.2),cn (rcan c.2.2.2.2.2.2),cd (rcan c.2.2.2.2.2.2)]
def cqA(c:CpQ):AV:=.agg (cqC c)
def cl(c:Cp):Nat:=max (al c.1) (max (al c.2.1) (max (rl c.2.2.1) (max (rl c.2.2.2.1) (max (rl c.2.2.2.2.1) (max (rl c.2.2.2.2.2.1) (rl c.2.2.2.2.2.2))))))
def ZW(l:List AV)(K:AV->Prop):Prop:=
 match l with
 | [a,b]=>onA (λp=>onA (λq=>al p<=100000000/\al q<=100000000/\K (pQ (timesQ (av p) (av q)))) b) a
 | _=>False
theorem U1 a b K:ZW [a,b] K=(onA (λp=>onA (λq=>al p<=100000000/\al q<=100000000/\K (pQ (timesQ (av p) (av q)))) b) a):=propext Iff.rfl
@[congr] theorem xbA{K}{l l'}(h:l=l'):ZW l K=ZW l' K:=by subst h;rfl
attribute [go_sem,go_sem ↓] U1
def Qa2(l:List AV)(K:AV->Prop):Prop:=
 match l with
 | [a]=>onA (λp=>al p<=100000000/\vldR p.1=true/\K (pQ (barQ (av p)))) a
 | _=>False
theorem ja3 a K:Qa2 [a] K=(onA (λp=>al p<=100000000/\vldR p.1=true/\K (pQ (barQ (av p)))) a):=propext Iff.rfl
@[congr] theorem VbR{K}{l l'}(h:l=l'):Qa2 l K=Qa2 l' K:=by subst h;rfl
attribute [go_sem,go_sem ↓] ja3
def Vae(tE:Nat)(l:List AV)(K:AV->Prop):Prop:=
 match l with
 | [a,b,c]=>onPs (λl=>onA (λm=>onA (λn=>okPs 1000 l/\al m<=10000/\al n<=10000/\K (.tup [cqA (if lkC l m n=0 then lnkQ (imgs l m) (imgs l n) (av m) (av n) else c0),errV tE (lkC l m n)])) c) b) a
 | _=>False
theorem jay tE a b c K:Vae tE [a,b,c] K=(onPs (λl=>onA (λm=>onA (λn=>okPs 1000 l/\al m<=10000/\al n<=10000/\K (.tup [cqA (if lkC l m n=0 then lnkQ (imgs l m) (imgs l n) (av m) (av n) else c0),errV tE (lkC l m n)])) c) b) a):=propext Iff.rfl
@[congr] theorem kbO tE{K}{l l'}(h:l=l'):Vae tE l K=Vae tE l' K:=by subst h;rfl
attribute [go_sem,go_sem ↓] jay
def Xah(l:List AV)(K:AV->Prop):Prop:=
 match l with
 | [a,b,c]=>onPs (λl=>onA (λm=>onA (λn=>okPs 1000 l/\al m<=10000/\al n<=10000/\l.length=3/\K (.tup [cqA (if lnkC (imgs l m) (imgs l n) (av m) (av n)=0 then lnkQ (imgs l m) (imgs l n) (av m) (av n) else c0),.one (.lit (.int .i64 (lnkC (imgs l m) (imgs l n) (av m) (av n):Nat)))])) c) b) a
 | _=>False
theorem kaC a b c K:Xah [a,b,c] K=(onPs (λl=>onA (λm=>onA (λn=>okPs 1000 l/\al m<=10000/\al n<=10000/\l.length=3/\K (.tup [cqA (if lnkC (imgs l m) (imgs l n) (av m) (av n)=0 then lnkQ (imgs l m) (imgs l n) (av m) (av n) else c0),.one (.lit (.int .i64 (lnkC (imgs l m) (imgs l n) (av m) (av n):Nat)))])) c) b) a):=propext Iff.rfl
@[congr] theorem ZbL{K}{l l'}(h:l=l'):Xah l K=Xah l' K:=by subst h;rfl
attribute [go_sem,go_sem ↓] kaC
end Go.Abs
end
section
namespace Go.Num
open Go.Abs
end Go.Num
namespace Go.Abs
open Go.Num
variable {P:Program} {Γ:Nat->Spec}
def WU(l:List AV)(K:AV->Prop):Prop:=
 match l with
 | [a,b]=>onPs (λl=>onA (λm=>okPs 1048576 l/\al m<=1048576/\K (.one (.lit (.bool true)))) b) a
 | _=>False
theorem Zab a b K:WU [a,b] K=(onPs (λl=>onA (λm=>okPs 1048576 l/\al m<=1048576/\K (.one (.lit (.bool true)))) b) a):=propext Iff.rfl
@[congr] theorem ZbI{K}{l l'}(h:l=l'):WU l K=WU l' K:=by subst h;rfl
attribute [go_sem,go_sem ↓] Zab
end Go.Abs
end
section
namespace Go.Num
open Go.Abs
abbrev Cp5:=R×R×R×R×R
instance decC5:DecidableEq Cp5:=λa b=>decidable_of_iff (a.1=b.1/\a.2.1=b.2.1/\a.2.2.1=b.2.2.1/\a.2.2.2.1=b.2.2.2.1/\a.2.2.2.2=b.2.2.2.2) ⟨λ⟨h1,h2,h3,h4,h5⟩=>Prod.ext h1 (Prod.ext h2 (Prod.ext h3 (Prod.ext h4 h5))),λh=>by subst h;exact⟨rfl,rfl,rfl,rfl,rfl⟩⟩
instance decCp:DecidableEq Cp:=λa b=>decidable_of_iff (a.1=b.1/\a.2.1=b.2.1/\(a.2.2:Cp5)=b.2.2) ⟨λ⟨h1,h2,h3⟩=>Prod.ext h1 (Prod.ext h2 h3),λh=>by subst h;exact⟨rfl,rfl,rfl⟩⟩
end Go.Num
namespace Go.Abs
open Go.Num
variable {P:Program} {Γ:Nat->Spec}
def cpC(c:Cp):List C:=[cb c.1.1,cn c.1.1,cd c.1.1,cb c.1.2,cn c.1.2,cd c.1.2,cb c.2.1.1,cn c.2.1.1,cd c.2.1.1,cb c.2.1.2,cn c.2.1.2,cd c.2.1.2,cb c.2.2.1,cn c.2.2.1,cd c.2.2.1,cb c.2.2.2.1,cn c.2.2.2.1,cd c.2.2.2.1,cb c.2.2.2.2.1,cn c.2.2.2.2.1,cd c.2.2.2.2.1,cb c.2.2.2.2.2.1,cn c.2.2.2.2.2.1,cd c.2.2.2.2.2.1,cb c.2.2.2.2.2.2,cn c.2.2.2.2.2.2,cd c.2.2.2.2.2.2]
def cpA(c:Cp):AV:=.agg (cpC c)
def onCp(k:Cp->Prop)(a:AV):Prop:=onE cpA (λc=>WLC c/\k c) a
@[congr] theorem kbV{k:Cp->Prop}{a a'}(h:a=a'):onCp k a=onCp k a':=by subst h;rfl
theorem Jbi(k:Cp->Prop)(a1 a2 a3 b1 b2 b3 c1 c2 c3 d1 d2 d3 e1 e2 e3 f1 f2 f3 g1 g2 g3 h1 h2 h3 i1 i2 i3:C):onCp k (.agg [a1,a2,a3,b1,b2,b3,c1,c2,c3,d1,d2,d3,e1,e2,e3,f1,f2,f3,g1,g2,g3,h1,h2,h3,i1,i2,i3]) =
  onO (λa=>onO (λb=>onO (λc=>onO (λd=>onO (λe=>onO (λf=>onO (λg=>onO (λh=>onO (λi=>WLC ((a,b),(c,d),e,f,g,h,i)/\k ((a,b),(c,d),e,f,g,h,i)) (dR i1 i2 i3)) (dR h1 h2 h3)) (dR g1 g2 g3)) (dR f1 f2 f3)) (dR e1 e2 e3)) (dR d1 d2 d3)) (dR c1 c2 c3)) (dR b1 b2 b3)) (dR a1 a2 a3):=by
 refine propext ⟨λ⟨t,h,hh⟩=>?_,λh=>?_⟩
 .simp only [cpA,cpC,AV.agg.injEq,List.cons.injEq,and_true]at h;obtain⟨rfl,rfl,rfl,rfl,rfl,rfl,rfl,rfl,rfl,rfl,rfl,rfl,rfl,rfl,rfl,rfl,rfl,rfl,rfl,rfl,rfl,rfl,rfl,rfl,rfl,rfl,rfl⟩:=h;simp only [dR_e,WF];exact hh
 .obtain⟨a,ha,q1⟩:=Wb.1 h;obtain⟨b,hb,q2⟩:=Wb.1 q1;obtain⟨c,hc,q3⟩:=Wb.1 q2;obtain⟨d,hd,q4⟩:=Wb.1 q3;obtain⟨e,he,q5⟩:=Wb.1 q4;obtain⟨f,hf,q6⟩:=Wb.1 q5;obtain⟨g,hg,q7⟩:=Wb.1 q6;obtain⟨hh,hhh,q8⟩:=Wb.1 q7;obtain⟨i,hi,q9⟩:=Wb.1 q8;obtain⟨rfl,rfl,rfl⟩:=Yb.1 ha;obtain⟨rfl,rfl,rfl⟩:=Yb.1 hb;obtain⟨rfl,rfl,rfl⟩:=Yb.1 hc;obtain⟨rfl,rfl,rfl⟩:=Yb.1 hd;obtain⟨rfl,rfl,rfl⟩:=Yb.1 he;obtain⟨rfl,rfl,rfl⟩:=Yb.1 hf;obtain⟨rfl,rfl,rfl⟩:=Yb.1 hg;obtain⟨rfl,rfl,rfl⟩:=Yb.1 hhh;obtain⟨rfl,rfl,rfl⟩:=Yb.1 hi;exact⟨((a,b),(c,d),e,f,g,hh,i),rfl,q9⟩
attribute [go_sem,go_sem ↓] Jbi
def xU(l:List AV)(K:AV->Prop):Prop:=
 match l with
 | [a,b]=>onCp (λc=>onCp (λd=>cl c<=4294967296/\K (.one (.lit (.bool (decide (c=d)))))) b) a
 | _=>False
theorem QX a b K:xU [a,b] K=(onCp (λc=>onCp (λd=>cl c<=4294967296/\K (.one (.lit (.bool (decide (c=d)))))) b) a):=propext Iff.rfl
@[congr] theorem wbJ{K}{l l'}(h:l=l'):xU l K=xU l' K:=by subst h;rfl
attribute [go_sem,go_sem ↓] QX
def yy(l:List AV)(K:AV->Prop):Prop:=
 match l with
 | [a,b,c]=>onPs (λl=>onDy (λd=>onA (λn=>okPs 1048576 l/\dl d<=1048576/\al n<=1048576/\K (.one (.lit (.bool true)))) c) b) a
 | _=>False
theorem UC a b c K:yy [a,b,c] K=(onPs (λl=>onDy (λd=>onA (λn=>okPs 1048576 l/\dl d<=1048576/\al n<=1048576/\K (.one (.lit (.bool true)))) c) b) a):=propext Iff.rfl
@[congr] theorem Ybi{K}{l l'}(h:l=l'):yy l K=yy l' K:=by subst h;rfl
attribute [go_sem,go_sem ↓] UC
end Go.Abs
end
section
namespace Go.Num
open Go.Abs
theorem Qbu{p q:BQ}(h:mcs p=mcs q):p=q:=by rw [<-xq p,h,xq]
theorem XaC{p q:BQ}(hp:Canon p)(hq:Canon q):chk2 (mcs p) (mcs q)=0:=by unfold chk2;rw [Ut hp,if_neg (by decide),Ut hq]
theorem Uba{p q:BQ}(hp:Canon p)(hq:Canon q)(hd:degB p+degB q<=24):mulC (mcs p) (mcs q)=0:=by
 unfold mulC;rw [XaC hp hq,if_neg (by decide),jh,jh,if_neg (by omega)]
theorem YaM{p:BQ}(hp:Canon p){d:Nat}(hd:Deg d p):degB p<=d:=by
 unfold degB;cases hl:p.getLast? with
 | none=>simp only;omega
 | some u=>exact hd u (List.mem_of_getLast? hl)
end Go.Num
namespace Go.Abs
open Go.Num
variable {P:Program} {Γ:Nat->Spec}
def bC(p:BQ):C:=.slice ((mcs p).map mC)
def onB(k:BQ->Prop)(a:AV):Prop:=∃p,a=.one (bC p)/\Canon p/\k p
@[congr] theorem Vb0{k:BQ->Prop}{a a'}(h:a=a'):onB k a=onB k a':=by subst h;rfl
theorem ZM{p q:BQ}(h:bC p=bC q):p=q:=by
 simp only [bC,C.slice.injEq]at h;exact Qbu (Uk h)
theorem xbR(k:BQ->Prop)(p:BQ):onB k (.one (bC p))=(Canon p/\k p):=by
 refine propext ⟨λ⟨x,h,h1,h2⟩=>?_,λh=>⟨p,rfl,h⟩⟩;simp only [AV.one.injEq]at h;have:=ZM h;subst this;exact⟨h1,h2⟩
theorem ybD(k:BQ->Prop)(p:BQ):onB k (.one (.slice ((mcs p).map mC)))=(Canon p/\k p):=xbR k p
def onV(k:BQ×BQ->Prop)(a:AV):Prop:=∃p q,a=.agg [bC p,bC q]/\(Canon p/\Canon q)/\k (p,q)
@[congr] theorem Qb0{k:BQ×BQ->Prop}{a a'}(h:a=a'):onV k a=onV k a':=by subst h;rfl
theorem kbW(k:BQ×BQ->Prop)(p q:BQ):onV k (.agg [bC p,bC q])=((Canon p/\Canon q)/\k (p,q)):=by
 refine propext ⟨λ⟨x,y,h,h1,h2⟩=>?_,λh=>⟨p,q,rfl,h⟩⟩;simp only [AV.agg.injEq,List.cons.injEq,and_true]at h;obtain⟨e1,e2⟩:=h;have:=ZM e1;have:=ZM e2
 subst_vars;exact⟨h1,h2⟩
theorem jbE(k:BQ×BQ->Prop)(p q:BQ):onV k (.agg [.slice ((mcs p).map mC),.slice ((mcs q).map mC)])=((Canon p/\Canon q)/\k (p,q)):=kbW k p q
theorem WbC(p:BQ):bC p=.slice ((mcs p).map mC):=eq_of_heq (HEq.refl _)
attribute [go_sem,go_sem ↓] ybD jbE WbC
def kah(l:List AV)(K:AV->Prop):Prop:=
 match l with
 | [p,e]=>e=.one (.lit .nilIface)/\onB (λp=>K (.one (bC p))) p
 | _=>False
theorem Jaz p e K:kah [p,e] K=(e=.one (.lit .nilIface)/\onB (λp=>K (.one (bC p))) p):=propext Iff.rfl
@[congr] theorem ubO{K}{l l'}(h:l=l'):kah l K=kah l' K:=by subst h;rfl
attribute [go_sem,go_sem ↓] Jaz
def kaW(l:List AV)(K:AV->Prop):Prop:=
 match l with
 | [a,b]=>onB (λp=>onB (λq=>sz p+sz q<=1000000000/\K (.one (bC (addB p q)))) b) a
 | _=>False
theorem Va6 a b K:kaW [a,b] K=(onB (λp=>onB (λq=>sz p+sz q<=1000000000/\K (.one (bC (addB p q)))) b) a):=propext Iff.rfl
@[congr] theorem XbV{K}{l l'}(h:l=l'):kaW l K=kaW l' K:=by subst h;rfl
attribute [go_sem,go_sem ↓] Va6
def JaQ(l:List AV)(K:AV->Prop):Prop:=
 match l with
 | [a,b]=>onB (λp=>onB (λq=>sz p+sz q<=1000000000/\K (.one (bC (subB p q)))) b) a
 | _=>False
theorem WaS a b K:JaQ [a,b] K=(onB (λp=>onB (λq=>sz p+sz q<=1000000000/\K (.one (bC (subB p q)))) b) a):=propext Iff.rfl
@[congr] theorem ZbR{K}{l l'}(h:l=l'):JaQ l K=JaQ l' K:=by subst h;rfl
attribute [go_sem,go_sem ↓] WaS
def uaM(l:List AV)(K:AV->Prop):Prop:=
 match l with
 | [a,b]=>onB (λp=>onB (λq=>sz p+sz q<=3000000/\degB p+degB q<=24/\K (.one (bC (mulB p q)))) b) a
 | _=>False
theorem ZaY a b K:uaM [a,b] K=(onB (λp=>onB (λq=>sz p+sz q<=3000000/\degB p+degB q<=24/\K (.one (bC (mulB p q)))) b) a):=propext Iff.rfl
@[congr] theorem ubX{K}{l l'}(h:l=l'):uaM l K=uaM l' K:=by subst h;rfl
attribute [go_sem,go_sem ↓] ZaY
def VV(l:List AV)(K:AV->Prop):Prop:=
 match l with
 | [a,x]=>onB (λp=>onR (λx=>rl x<=1000000/\sz p<=100000000/\K (.one (bC (sclB (rv x) p)))) x) a
 | _=>False
theorem Jaa a x K:VV [a,x] K=(onB (λp=>onR (λx=>rl x<=1000000/\sz p<=100000000/\K (.one (bC (sclB (rv x) p)))) x) a):=propext Iff.rfl
@[congr] theorem qbA{K}{l l'}(h:l=l'):VV l K=VV l' K:=by subst h;rfl
attribute [go_sem,go_sem ↓] Jaa
def Ja1(l:List AV)(K:AV->Prop):Prop:=
 match l with
 | [b,x]=>asBool (λb=>onR (λx=>rl x<=1000000/\K (.one (bC (linB b (rv x))))) x) b
 | _=>False
theorem vaS b x K:Ja1 [b,x] K=(asBool (λb=>onR (λx=>rl x<=1000000/\K (.one (bC (linB b (rv x))))) x) b):=propext Iff.rfl
@[congr] theorem wbS{K}{l l'}(h:l=l'):Ja1 l K=Ja1 l' K:=by subst h;rfl
attribute [go_sem,go_sem ↓] vaS
def Ja7(l:List AV)(K:AV->Prop):Prop:=
 match l with
 | [x]=>onR (λx=>rl x<=1000000/\vldR x=true/\K (.one (bC (conB (rv x))))) x
 | _=>False
theorem zaM x K:Ja7 [x] K=(onR (λx=>rl x<=1000000/\vldR x=true/\K (.one (bC (conB (rv x))))) x):=propext Iff.rfl
@[congr] theorem XbP{K}{l l'}(h:l=l'):Ja7 l K=Ja7 l' K:=by subst h;rfl
attribute [go_sem,go_sem ↓] zaM
end Go.Abs
end
