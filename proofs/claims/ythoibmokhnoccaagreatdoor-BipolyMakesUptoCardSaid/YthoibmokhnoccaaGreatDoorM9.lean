/-
  Parts of the proof, merged: PoseF, PoseG, PoseH, PoseI, PoseJ, PoseK, CoupA.
-/
import Derived.Test.YthoibmokhnoccaaGreatDoorM8
set_option linter.unusedVariables false
set_option linter.unusedSimpArgs false
set_option maxRecDepth 100000
section
namespace Go.Num
open Go.Abs
def pt(i:Nat)(A:List V2):V2:=A.getD i (0,0)
def ciV(A:List V2):V2:=ciQ (pt 0 A) (subQ (pt 1 A) (pt 0 A)) (subQ (pt 2 A) (pt 0 A))
def crV(A:List V2):Rat:=crossQ (subQ (pt 1 A) (pt 0 A)) (subQ (pt 2 A) (pt 0 A))
def othV(A:List V2):V2:=if pt 0 A=pt 1 A then pt 2 A else pt 1 A
def lnC(A:List V2):Nat:=if pt 0 A=othV A then 8 else if crV A≠0 then 21 else 0
def lnA(A:List V2):Rat:=if lnC A=0 then (pt 0 A).2-(othV A).2 else 0
def lnB(A:List V2):Rat:=if lnC A=0 then (othV A).1-(pt 0 A).1 else 0
def lnK(A:List V2):Rat:=if lnC A=0 then ((pt 0 A).2-(othV A).2)*(pt 0 A).1+((othV A).1-(pt 0 A).1)*(pt 0 A).2 else 0
abbrev DyQ:=V2×V2×Rat
def dl(d:Dy):Nat:=max (al d.1) (max (al d.2.1) (rl d.2.2))
def dvld(d:Dy):Bool:=avld d.1 && (avld d.2.1 && vldR d.2.2)
def d0:DyQ:=((0,0),(0,0),0)
def cenC(l:List Ps)(m:Arc):Nat:=if chkC l [m]≠0 then chkC l [m] else if crV (imgs l m)=0 then 8 else 0
def cenQ(A:List V2)(m:V2):DyQ:=(ciV A,m,sqQ (subQ (pt 0 A) (ciV A)))
def lineC(l:List Ps)(m:Arc):Nat:=if chkC l [m]≠0 then chkC l [m] else lnC (imgs l m)
def psnC(l:List Ps)(d:Dy):Nat:=if plchk l≠0 then plchk l else if dvld d then 0 else 2
def psnB(l:List Ps)(d:Dy):Bool:=(imgs l d.2.1).all λx=>decide (sqQ (subQ x (av d.1))=rv d.2.2)
end Go.Num
namespace Go.Abs
open Go.Num
variable {P:Program} {Γ:Nat->Spec}
def dqA(d:DyQ):AV:=.agg [cb (rcan d.1.1),cn (rcan d.1.1),cd (rcan d.1.1),cb (rcan d.1.2),cn (rcan d.1.2),cd (rcan d.1.2),cb (rcan d.2.1.1),cn (rcan d.2.1.1),cd (rcan d.2.1.1),cb (rcan d.2.1.2),cn (rcan d.2.1.2),cd (rcan d.2.1.2),cb (rcan d.2.2),cn (rcan d.2.2),cd (rcan d.2.2)]
theorem jbi(d:DyQ):dqA d=.agg [cb (rcan d.1.1),cn (rcan d.1.1),cd (rcan d.1.1),cb (rcan d.1.2),cn (rcan d.1.2),cd (rcan d.1.2),cb (rcan d.2.1.1),cn (rcan d.2.1.1),cd (rcan d.2.1.1),cb (rcan d.2.1.2),cn (rcan d.2.1.2),cd (rcan d.2.1.2),cb (rcan d.2.2),cn (rcan d.2.2),cd (rcan d.2.2)]:=eq_of_heq (HEq.refl _)
attribute [go_sem,go_sem ↓] jbi
def ZX(tE:Nat)(l:List AV)(K:AV->Prop):Prop:=
 match l with
 | [a,b]=>onPs (λl=>onA (λm=>okPs 1000 l/\al m<=10000/\K (.tup [rQ (if lineC l m=0 then lnA (imgs l m) else 0),rQ (if lineC l m=0 then lnB (imgs l m) else 0),rQ (if lineC l m=0 then lnK (imgs l m) else 0),errV tE (lineC l m)])) b) a
 | _=>False
theorem xao:type_of% @ZX.eq_1:=q_E @ZX.eq_1
@[congr] theorem vbT tE{K}{l l'}(h:l=l'):ZX tE l K=ZX tE l' K:=by subst h;rfl
attribute [go_sem,go_sem ↓] xao
def uZ(l:List AV)(K:AV->Prop):Prop:=
 match l with
 | [a,b]=>onPs (λl=>onA (λm=>okPs 1000 l/\al m<=10000/\l.length=3/\K (.tup [rQ (lnA (imgs l m)),rQ (lnB (imgs l m)),rQ (lnK (imgs l m)),.one (.lit (.int .i64 (lnC (imgs l m):Nat)))])) b) a
 | _=>False
theorem uaH:type_of% @uZ.eq_1:=q_E @uZ.eq_1
@[congr] theorem kbS{K}{l l'}(h:l=l'):uZ l K=uZ l' K:=h▸rfl
attribute [go_sem,go_sem ↓] uaH
def zC(tE:Nat)(l:List AV)(K:AV->Prop):Prop:=
 match l with
 | [a,b]=>onPs (λl=>onA (λm=>okPs 1000 l/\al m<=10000/\K (.tup [dqA (if cenC l m=0 then cenQ (imgs l m) (av m) else d0),errV tE (cenC l m)])) b) a
 | _=>False
theorem YR:type_of% @zC.eq_1:=q_E @zC.eq_1
@[congr] theorem WbA tE{K}{l l'}(h:l=l'):zC tE l K=zC tE l' K:=by subst h;rfl
attribute [go_sem,go_sem ↓] YR
def YB(tE:Nat)(l:List AV)(K:AV->Prop):Prop:=
 match l with
 | [a,b]=>onPs (λl=>onDy (λd=>okPs 1000 l/\dl d<=100000/\K (.tup [.one (.lit (.bool (decide (psnC l d=0) && psnB l d))),errV tE (psnC l d)])) b) a
 | _=>False
theorem YM:type_of% @YB.eq_1:=q_E @YB.eq_1
@[congr] theorem wbA tE{K}{l l'}(h:l=l'):YB tE l K=YB tE l' K:=by subst h;rfl
attribute [go_sem,go_sem ↓] YM
end Go.Abs
end
section
namespace Go.Num
open Go.Abs
def exPs:List Ps:=[((rcan 0,false),(rcan 0,rcan 0)),((rcan 0,false),(rcan 2,rcan 0)),((rcan 0,true),(rcan 2,rcan 2))]
def o2:Arc:=(rcan 0,rcan 0)
end Go.Num
namespace Go.Abs
open Go.Num
variable {P:Program} {Γ:Nat->Spec}
def Zaq(l:List AV)(K:AV->Prop):Prop:=
 match l with
 | []=>K (psA exPs)
 | _=>False
theorem XaW:type_of% @Zaq.eq_1:=q_E @Zaq.eq_1
@[congr] theorem JbV{K}{l l'}(h:l=l'):Zaq l K=Zaq l' K:=h▸rfl
attribute [go_sem,go_sem ↓] XaW
def uW(l:List AV)(K:AV->Prop):Prop:=
 match l with
 | []=>K (.one (.lit (.bool true)))
 | _=>False
theorem ZaI:type_of% @uW.eq_1:=q_E @uW.eq_1
@[congr] theorem VbR{K}{l l'}(h:l=l'):uW l K=uW l' K:=h▸rfl
attribute [go_sem,go_sem ↓] ZaI
def XE(l:List AV)(K:AV->Prop):Prop:=
 match l with
 | [a,b]=>onPs (λl=>onA (λm=>okPs 1048576 l/\al m<=1048576/\K (.one (.lit (.bool true)))) b) a
 | _=>False
theorem Xai:type_of% @XE.eq_1:=q_E @XE.eq_1
@[congr] theorem zbK{K}{l l'}(h:l=l'):XE l K=XE l' K:=h▸rfl
attribute [go_sem,go_sem ↓] Xai
end Go.Abs
end
section
namespace Go.Num
open Go.Abs
instance decAR:DecidableEq (Arc×R):=instDecidableEqProd
instance decDy:DecidableEq Dy:=instDecidableEqProd
def dz:Dy:=(((false,[],[]),(false,[],[])),((false,[],[]),(false,[],[])),(false,[],[]))
def cenR(A:List V2)(m:Arc):Dy:=(acan (ciV A),m,rcan (sqQ (subQ (pt 0 A) (ciV A))))
def movR(A:List V2)(m:Arc):Dy:=(m,acan (ciV A),rcan (sqQ (subQ (pt 0 A) (ciV A))))
def pcan(p:PsQ):Ps:=((rcan p.1.1,p.1.2),acan p.2)
def imgsB(l:List Ps)(o:Arc):List V2:=l.map λp=>appQ (invQ (pv p)) (av o)
def movC(l:List Ps)(o:Arc):Nat:=if chkC l [o]≠0 then chkC l [o] else if crV (imgsB l o)=0 then 8 else 0
def movQ(A:List V2)(o:V2):DyQ:=(o,ciV A,sqQ (subQ (pt 0 A) (ciV A)))
end Go.Num
namespace Go.Abs
open Go.Num
variable {P:Program} {Γ:Nat->Spec}
def ZC(l:List AV)(K:AV->Prop):Prop:=
 match l with
 | [a,b]=>onPs (λl=>onA (λm=>okPs 1000 l/\al m<=10000/\l.length=3/\K (.tup [dA (if crV (imgs l m)=0 then dz else cenR (imgs l m) m),.one (.lit (.int .i64 (if crV (imgs l m)=0 then 8 else 0)))])) b) a
 | _=>False
theorem UP:type_of% @ZC.eq_1:=q_E @ZC.eq_1
@[congr] theorem JbA{K}{l l'}(h:l=l'):ZC l K=ZC l' K:=h▸rfl
attribute [go_sem,go_sem ↓] UP
def QC(l:List AV)(K:AV->Prop):Prop:=
 match l with
 | [a,b]=>onPs (λl=>onA (λm=>okPs 1000 l/\al m<=10000/\l.length=3/\K (.tup [dA (if crV (imgsB l m)=0 then dz else movR (imgsB l m) m),.one (.lit (.int .i64 (if crV (imgsB l m)=0 then 8 else 0)))])) b) a
 | _=>False
theorem vO:type_of% @QC.eq_1:=q_E @QC.eq_1
@[congr] theorem jbA{K}{l l'}(h:l=l'):QC l K=QC l' K:=h▸rfl
attribute [go_sem,go_sem ↓] vO
def UA(tE:Nat)(l:List AV)(K:AV->Prop):Prop:=
 match l with
 | [a,b]=>onPs (λl=>onA (λm=>okPs 1000 l/\al m<=10000/\K (.tup [dqA (if movC l m=0 then movQ (imgsB l m) (av m) else d0),errV tE (movC l m)])) b) a
 | _=>False
theorem XM:type_of% @UA.eq_1:=q_E @UA.eq_1
@[congr] theorem QbA tE{K}{l l'}(h:l=l'):UA tE l K=UA tE l' K:=by subst h;rfl
attribute [go_sem,go_sem ↓] XM
def kC(l:List AV)(K:AV->Prop):Prop:=
 match l with
 | [a,b]=>onPs (λl=>onDy (λd=>okPs 1000 l/\dl d<=100000/\l.length<=1000/\K (.one (.lit (.bool (psnB l d))))) b) a
 | _=>False
theorem yP:type_of% @kC.eq_1:=q_E @kC.eq_1
@[congr] theorem zbA{K}{l l'}(h:l=l'):kC l K=kC l' K:=h▸rfl
attribute [go_sem,go_sem ↓] yP
def UX(l:List AV)(K:AV->Prop):Prop:=
 match l with
 | [a]=>onDy (λd=>dl d<=100000/\K (.one (.lit (.bool (dvld d))))) a
 | _=>False
theorem Zau:type_of% @UX.eq_1:=q_E @UX.eq_1
@[congr] theorem jbR{K}{l l'}(h:l=l'):UX l K=UX l' K:=h▸rfl
attribute [go_sem,go_sem ↓] Zau
def vB(l:List AV)(K:AV->Prop):Prop:=
 match l with
 | [a]=>onDy (λd=>dl d<=4294967296/\K (.one (.lit (.bool (sA d.1 && (sA d.2.1 && sR 4 d.2.2)))))) a
 | _=>False
theorem xP:type_of% @vB.eq_1:=q_E @vB.eq_1
@[congr] theorem YbA{K}{l l'}(h:l=l'):vB l K=vB l' K:=h▸rfl
attribute [go_sem,go_sem ↓] xP
def WG(l:List AV)(K:AV->Prop):Prop:=
 match l with
 | [a,b]=>onDy (λd=>onDy (λe=>dl d<=4294967296/\K (.one (.lit (.bool (decide (d=e)))))) b) a
 | _=>False
theorem yac:type_of% @WG.eq_1:=q_E @WG.eq_1
@[congr] theorem QbJ{K}{l l'}(h:l=l'):WG l K=WG l' K:=h▸rfl
attribute [go_sem,go_sem ↓] yac
end Go.Abs
end
section
namespace Go.Num
open Go.Abs
abbrev CpQ:=V2×V2×Rat×Rat×Rat×Rat×Rat
def c0:CpQ:=((0,0),(0,0),0,0,0,0,0)
def timesQ(a b:V2):V2:=(a.1*b.1-a.2*b.2,a.1*b.2+a.2*b.1)
def barQ(a:V2):V2:=(a.1,-a.2)
def lnkC(A B:List V2)(m n:V2):Nat:=if m=n then 8 else if crV A=0 then 8 else if crV B=0 then 8 else if ciV A=ciV B then 8 else 0
def lnkQ(A B:List V2)(m n:V2):CpQ:=(ciV A,ciV B,sqQ (subQ (pt 0 A) (ciV A)),sqQ (subQ n m),sqQ (subQ (pt 0 B) (ciV B)),-(m.1*(subQ n m).1+m.2*(subQ n m).2) / sqQ (subQ n m),(m.1*(subQ n m).2-m.2*(subQ n m).1) / sqQ (subQ n m))
def lkC(l:List Ps)(m n:Arc):Nat:=if chkC l [m,n]≠0 then chkC l [m,n] else lnkC (imgs l m) (imgs l n) (av m) (av n)
end Go.Num
namespace Go.Abs
open Go.Num
variable {P:Program} {Γ:Nat->Spec}
def cqC(c:CpQ):List C:=[cb (rcan c.1.1),cn (rcan c.1.1),cd (rcan c.1.1),cb (rcan c.1.2),cn (rcan c.1.2),cd (rcan c.1.2),cb (rcan c.2.1.1),cn (rcan c.2.1.1),cd (rcan c.2.1.1),cb (rcan c.2.1.2),cn (rcan c.2.1.2),cd (rcan c.2.1.2),cb (rcan c.2.2.1),cn (rcan c.2.2.1),cd (rcan c.2.2.1),cb (rcan c.2.2.2.1),cn (rcan c.2.2.2.1),cd (rcan c.2.2.2.1),cb (rcan c.2.2.2.2.1),cn (rcan c.2.2.2.2.1),cd (rcan c.2.2.2.2.1),cb (rcan c.2.2.2.2.2.1),cn (rcan c.2.2.2.2.2.1),cd (rcan c.2.2.2.2.2.1),cb (rcan c.2.2.2.2.2.2),cn (rcan c.2.2.2.2.2.2),cd (rcan c.2.2.2.2.2.2)]
def cqA(c:CpQ):AV:=.agg (cqC c)
def cl(c:Cp):Nat:=max (al c.1) (max (al c.2.1) (max (rl c.2.2.1) (max (rl c.2.2.2.1) (max (rl c.2.2.2.2.1) (max (rl c.2.2.2.2.2.1) (rl c.2.2.2.2.2.2))))))
def kF(l:List AV)(K:AV->Prop):Prop:=
 match l with
 | [a,b]=>onA (λp=>onA (λq=>al p<=100000000/\al q<=100000000/\K (pQ (timesQ (av p) (av q)))) b) a
 | _=>False
theorem Vad:type_of% @kF.eq_1:=q_E @kF.eq_1
@[congr] theorem qbE{K}{l l'}(h:l=l'):kF l K=kF l' K:=h▸rfl
attribute [go_sem,go_sem ↓] Vad
def zap(l:List AV)(K:AV->Prop):Prop:=
 match l with
 | [a]=>onA (λp=>al p<=100000000/\vldR p.1=true/\K (pQ (barQ (av p)))) a
 | _=>False
theorem Va3:type_of% @zap.eq_1:=q_E @zap.eq_1
@[congr] theorem UbY{K}{l l'}(h:l=l'):zap l K=zap l' K:=h▸rfl
attribute [go_sem,go_sem ↓] Va3
def UU(tE:Nat)(l:List AV)(K:AV->Prop):Prop:=
 match l with
 | [a,b,c]=>onPs (λl=>onA (λm=>onA (λn=>okPs 1000 l/\al m<=10000/\al n<=10000/\K (.tup [cqA (if lkC l m n=0 then lnkQ (imgs l m) (imgs l n) (av m) (av n) else c0),errV tE (lkC l m n)])) c) b) a
 | _=>False
theorem Waq:type_of% @UU.eq_1:=q_E @UU.eq_1
@[congr] theorem wbR tE{K}{l l'}(h:l=l'):UU tE l K=UU tE l' K:=by subst h;rfl
attribute [go_sem,go_sem ↓] Waq
def kZ(l:List AV)(K:AV->Prop):Prop:=
 match l with
 | [a,b,c]=>onPs (λl=>onA (λm=>onA (λn=>okPs 1000 l/\al m<=10000/\al n<=10000/\l.length=3/\K (.tup [cqA (if lnkC (imgs l m) (imgs l n) (av m) (av n)=0 then lnkQ (imgs l m) (imgs l n) (av m) (av n) else c0),.one (.lit (.int .i64 (lnkC (imgs l m) (imgs l n) (av m) (av n):Nat)))])) c) b) a
 | _=>False
theorem Xay:type_of% @kZ.eq_1:=q_E @kZ.eq_1
@[congr] theorem kbQ{K}{l l'}(h:l=l'):kZ l K=kZ l' K:=h▸rfl
attribute [go_sem,go_sem ↓] Xay
end Go.Abs
end
section
namespace Go.Num
open Go.Abs
end Go.Num
namespace Go.Abs
open Go.Num
variable {P:Program} {Γ:Nat->Spec}
def JG(l:List AV)(K:AV->Prop):Prop:=
 match l with
 | [a,b]=>onPs (λl=>onA (λm=>okPs 1048576 l/\al m<=1048576/\K (.one (.lit (.bool true)))) b) a
 | _=>False
theorem Zaf:type_of% @JG.eq_1:=q_E @JG.eq_1
@[congr] theorem YbB{K}{l l'}(h:l=l'):JG l K=JG l' K:=h▸rfl
attribute [go_sem,go_sem ↓] Zaf
end Go.Abs
end
section
namespace Go.Num
open Go.Abs
abbrev Cp5:=R×R×R×R×R
instance decC5:DecidableEq Cp5:=λa b=>decidable_of_iff (a.1=b.1/\a.2.1=b.2.1/\a.2.2.1=b.2.2.1/\a.2.2.2.1=b.2.2.2.1/\a.2.2.2.2=b.2.2.2.2) ⟨λ⟨h1,h2,h3,h4,h5⟩=>Prod.ext h1 (Prod.ext h2 (Prod.ext h3 (Prod.ext h4 h5))),λh=>by subst h;exact⟨rfl,rfl,rfl,rfl,rfl⟩⟩
instance decCp:DecidableEq Cp:=λa b=>decidable_of_iff (a.1=b.1/\a.2.1=b.2.1/\(a.2.2:Cp5)=b.2.2) ⟨λ⟨h1,h2,h3⟩=>Prod.ext h1 (Prod.ext h2 h3),λh=>by subst h;exact⟨rfl,rfl,rfl⟩⟩
end Go.Num
namespace Go.Abs
open Go.Num
variable {P:Program} {Γ:Nat->Spec}
def cpC(c:Cp):List C:=[cb c.1.1,cn c.1.1,cd c.1.1,cb c.1.2,cn c.1.2,cd c.1.2,cb c.2.1.1,cn c.2.1.1,cd c.2.1.1,cb c.2.1.2,cn c.2.1.2,cd c.2.1.2,cb c.2.2.1,cn c.2.2.1,cd c.2.2.1,cb c.2.2.2.1,cn c.2.2.2.1,cd c.2.2.2.1,cb c.2.2.2.2.1,cn c.2.2.2.2.1,cd c.2.2.2.2.1,cb c.2.2.2.2.2.1,cn c.2.2.2.2.2.1,cd c.2.2.2.2.2.1,cb c.2.2.2.2.2.2,cn c.2.2.2.2.2.2,cd c.2.2.2.2.2.2]
def cpA(c:Cp):AV:=.agg (cpC c)
def onCp(k:Cp->Prop)(a:AV):Prop:=onE cpA (λc=>WLC c/\k c) a
@[congr] theorem kb1{k:Cp->Prop}{a a'}(h:a=a'):onCp k a=onCp k a':=by subst h;rfl
theorem Zbp(k:Cp->Prop)(a1 a2 a3 b1 b2 b3 c1 c2 c3 d1 d2 d3 e1 e2 e3 f1 f2 f3 g1 g2 g3 h1 h2 h3 i1 i2 i3:C):onCp k (.agg [a1,a2,a3,b1,b2,b3,c1,c2,c3,d1,d2,d3,e1,e2,e3,f1,f2,f3,g1,g2,g3,h1,h2,h3,i1,i2,i3]) =
  onO (λa=>onO (λb=>onO (λc=>onO (λd=>onO (λe=>onO (λf=>onO (λg=>onO (λh=>onO (λi=>WLC ((a,b),(c,d),e,f,g,h,i)/\k ((a,b),(c,d),e,f,g,h,i)) (dR i1 i2 i3)) (dR h1 h2 h3)) (dR g1 g2 g3)) (dR f1 f2 f3)) (dR e1 e2 e3)) (dR d1 d2 d3)) (dR c1 c2 c3)) (dR b1 b2 b3)) (dR a1 a2 a3):=by
 refine propext ⟨λ⟨t,h,hh⟩=>?_,λh=>?_⟩
 .simp only [cpA,cpC,AV.agg.injEq,List.cons.injEq,and_true]at h;obtain⟨rfl,rfl,rfl,rfl,rfl,rfl,rfl,rfl,rfl,rfl,rfl,rfl,rfl,rfl,rfl,rfl,rfl,rfl,rfl,rfl,rfl,rfl,rfl,rfl,rfl,rfl,rfl⟩:=h;simp only [dR_e,UI];exact hh
 .obtain⟨a,ha,q1⟩:=kb.1 h;obtain⟨b,hb,q2⟩:=kb.1 q1;obtain⟨c,hc,q3⟩:=kb.1 q2;obtain⟨d,hd,q4⟩:=kb.1 q3;obtain⟨e,he,q5⟩:=kb.1 q4;obtain⟨f,hf,q6⟩:=kb.1 q5;obtain⟨g,hg,q7⟩:=kb.1 q6;obtain⟨hh,hhh,q8⟩:=kb.1 q7;obtain⟨i,hi,q9⟩:=kb.1 q8;obtain⟨rfl,rfl,rfl⟩:=Wb.1 ha;obtain⟨rfl,rfl,rfl⟩:=Wb.1 hb;obtain⟨rfl,rfl,rfl⟩:=Wb.1 hc;obtain⟨rfl,rfl,rfl⟩:=Wb.1 hd;obtain⟨rfl,rfl,rfl⟩:=Wb.1 he;obtain⟨rfl,rfl,rfl⟩:=Wb.1 hf;obtain⟨rfl,rfl,rfl⟩:=Wb.1 hg;obtain⟨rfl,rfl,rfl⟩:=Wb.1 hhh;obtain⟨rfl,rfl,rfl⟩:=Wb.1 hi;exact⟨((a,b),(c,d),e,f,g,hh,i),rfl,q9⟩
attribute [go_sem,go_sem ↓] Zbp
def wG(l:List AV)(K:AV->Prop):Prop:=
 match l with
 | [a,b]=>onCp (λc=>onCp (λd=>cl c<=4294967296/\K (.one (.lit (.bool (decide (c=d)))))) b) a
 | _=>False
theorem Uag:type_of% @wG.eq_1:=q_E @wG.eq_1
@[congr] theorem zbO{K}{l l'}(h:l=l'):wG l K=wG l' K:=h▸rfl
attribute [go_sem,go_sem ↓] Uag
def Jw(l:List AV)(K:AV->Prop):Prop:=
 match l with
 | [a,b,c]=>onPs (λl=>onDy (λd=>onA (λn=>okPs 1048576 l/\dl d<=1048576/\al n<=1048576/\K (.one (.lit (.bool true)))) c) b) a
 | _=>False
theorem kE:type_of% @Jw.eq_1:=q_E @Jw.eq_1
@[congr] theorem wbl{K}{l l'}(h:l=l'):Jw l K=Jw l' K:=h▸rfl
attribute [go_sem,go_sem ↓] kE
end Go.Abs
end
section
namespace Go.Num
open Go.Abs
theorem Wbz{p q:BQ}(h:mcs p=mcs q):p=q:=by rw [<-ut p,h,ut]
theorem WaA{p q:BQ}(hp:Canon p)(hq:Canon q):chk2 (mcs p) (mcs q)=0:=by unfold chk2;rw [uad hp,if_neg (by decide),uad hq]
theorem Wbh{p q:BQ}(hp:Canon p)(hq:Canon q)(hd:degB p+degB q<=24):mulC (mcs p) (mcs q)=0:=by
 unfold mulC;rw [WaA hp hq,if_neg (by decide),Vg,Vg,if_neg (by omega)]
theorem XaP{p:BQ}(hp:Canon p){d:Nat}(hd:Deg d p):degB p<=d:=by
 unfold degB;cases hl:p.getLast? with
 | none=>simp only;omega
 | some u=>exact hd u (List.mem_of_getLast? hl)
end Go.Num
namespace Go.Abs
open Go.Num
variable {P:Program} {Γ:Nat->Spec}
def bC(p:BQ):C:=.slice ((mcs p).map mC)
def onB(k:BQ->Prop)(a:AV):Prop:=∃p,a=.one (bC p)/\Canon p/\k p
@[congr] theorem Wb5{k:BQ->Prop}{a a'}(h:a=a'):onB k a=onB k a':=by subst h;rfl
theorem UR{p q:BQ}(h:bC p=bC q):p=q:=by
 simp only [bC,C.slice.injEq]at h;exact Wbz (vm h)
theorem XbV(k:BQ->Prop)(p:BQ):onB k (.one (bC p))=(Canon p/\k p):=by
 refine propext ⟨λ⟨x,h,h1,h2⟩=>?_,λh=>⟨p,rfl,h⟩⟩;simp only [AV.one.injEq]at h;have:=UR h;subst this;exact⟨h1,h2⟩
theorem WbE(k:BQ->Prop)(p:BQ):onB k (.one (.slice ((mcs p).map mC)))=(Canon p/\k p):=XbV k p
def onV(k:BQ×BQ->Prop)(a:AV):Prop:=∃p q,a=.agg [bC p,bC q]/\(Canon p/\Canon q)/\k (p,q)
@[congr] theorem ub5{k:BQ×BQ->Prop}{a a'}(h:a=a'):onV k a=onV k a':=by subst h;rfl
theorem Zb0(k:BQ×BQ->Prop)(p q:BQ):onV k (.agg [bC p,bC q])=((Canon p/\Canon q)/\k (p,q)):=by
 refine propext ⟨λ⟨x,y,h,h1,h2⟩=>?_,λh=>⟨p,q,rfl,h⟩⟩;simp only [AV.agg.injEq,List.cons.injEq,and_true]at h;obtain⟨e1,e2⟩:=h;have:=UR e1;have:=UR e2
 subst_vars;exact⟨h1,h2⟩
theorem wbJ(k:BQ×BQ->Prop)(p q:BQ):onV k (.agg [.slice ((mcs p).map mC),.slice ((mcs q).map mC)])=((Canon p/\Canon q)/\k (p,q)):=Zb0 k p q
theorem jbH(p:BQ):bC p=.slice ((mcs p).map mC):=eq_of_heq (HEq.refl _)
attribute [go_sem,go_sem ↓] WbE wbJ jbH
def wW(l:List AV)(K:AV->Prop):Prop:=
 match l with
 | [p,e]=>e=.one (.lit .nilIface)/\onB (λp=>K (.one (bC p))) p
 | _=>False
theorem YaH:type_of% @wW.eq_1:=q_E @wW.eq_1
@[congr] theorem UbS{K}{l l'}(h:l=l'):wW l K=wW l' K:=h▸rfl
attribute [go_sem,go_sem ↓] YaH
def xav(l:List AV)(K:AV->Prop):Prop:=
 match l with
 | [a,b]=>onB (λp=>onB (λq=>sz p+sz q<=1000000000/\K (.one (bC (addB p q)))) b) a
 | _=>False
theorem VaP:type_of% @xav.eq_1:=q_E @xav.eq_1
@[congr] theorem xb0{K}{l l'}(h:l=l'):xav l K=xav l' K:=h▸rfl
attribute [go_sem,go_sem ↓] VaP
def XaD(l:List AV)(K:AV->Prop):Prop:=
 match l with
 | [a,b]=>onB (λp=>onB (λq=>sz p+sz q<=1000000000/\K (.one (bC (subB p q)))) b) a
 | _=>False
theorem WaS:type_of% @XaD.eq_1:=q_E @XaD.eq_1
@[congr] theorem wb3{K}{l l'}(h:l=l'):XaD l K=XaD l' K:=h▸rfl
attribute [go_sem,go_sem ↓] WaS
def Vap(l:List AV)(K:AV->Prop):Prop:=
 match l with
 | [a,b]=>onB (λp=>onB (λq=>sz p+sz q<=3000000/\degB p+degB q<=24/\K (.one (bC (mulB p q)))) b) a
 | _=>False
theorem za6:type_of% @Vap.eq_1:=q_E @Vap.eq_1
@[congr] theorem UbW{K}{l l'}(h:l=l'):Vap l K=Vap l' K:=h▸rfl
attribute [go_sem,go_sem ↓] za6
def wH(l:List AV)(K:AV->Prop):Prop:=
 match l with
 | [a,x]=>onB (λp=>onR (λx=>rl x<=1000000/\sz p<=100000000/\K (.one (bC (sclB (rv x) p)))) x) a
 | _=>False
theorem uaf:type_of% @wH.eq_1:=q_E @wH.eq_1
@[congr] theorem UbH{K}{l l'}(h:l=l'):wH l K=wH l' K:=h▸rfl
attribute [go_sem,go_sem ↓] uaf
def waE(l:List AV)(K:AV->Prop):Prop:=
 match l with
 | [b,x]=>asBool (λb=>onR (λx=>rl x<=1000000/\K (.one (bC (linB b (rv x))))) x) b
 | _=>False
theorem ua1:type_of% @waE.eq_1:=q_E @waE.eq_1
@[congr] theorem kbV{K}{l l'}(h:l=l'):waE l K=waE l' K:=h▸rfl
attribute [go_sem,go_sem ↓] ua1
def kaG(l:List AV)(K:AV->Prop):Prop:=
 match l with
 | [x]=>onR (λx=>rl x<=1000000/\vldR x=true/\K (.one (bC (conB (rv x))))) x
 | _=>False
theorem Za8:type_of% @kaG.eq_1:=q_E @kaG.eq_1
@[congr] theorem VbW{K}{l l'}(h:l=l'):kaG l K=kaG l' K:=h▸rfl
attribute [go_sem,go_sem ↓] Za8
end Go.Abs
end
