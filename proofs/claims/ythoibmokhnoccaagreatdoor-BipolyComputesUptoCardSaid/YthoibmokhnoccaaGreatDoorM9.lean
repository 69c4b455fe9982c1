/-
  Parts of the proof, merged: PoseF, PoseG, PoseH, PoseI, PoseJ, PoseK, CoupA.
-/
import Derived.Test.YthoibmokhnoccaaGreatDoorM8
set_option linter.unusedVariables false
set_option linter.unusedSimpArgs false
set_option maxRecDepth 100000
section
namespace Go.Num
open Go.Abs
def pt(i:Nat)(A:List V2):V2:=A.getD i (0,0)
def ciV(A:List V2):V2:=ciQ (pt 0 A) (subQ (pt 1 A) (pt 0 A)) (subQ (pt 2 A) (pt 0 A))
def crV(A:List V2):Rat:=crossQ (subQ (pt 1 A) (pt 0 A)) (subQ (pt 2 A) (pt 0 A))
def othV(A:List V2):V2:=if pt 0 A=pt 1 A then pt 2 A else pt 1 A
def lnC(A:List V2):Nat:=if pt 0 A=othV A then 8 else if crV A≠0 then 21 else 0
def lnA(A:List V2):Rat:=if lnC A=0 then (pt 0 A).2-(othV A).2 else 0
def lnB(A:List V2):Rat:=if lnC A=0 then (othV A).1-(pt 0 A).1 else 0
def lnK(A:List V2):Rat:=if lnC A=0 then ((pt 0 A).2-(othV A).2)*(pt 0 A).1+((othV A).1-(pt 0 A).1)*(pt 0 A).2 else 0
abbrev DyQ:=V2×V2×Rat
def dl(d:Dy):Nat:=max (al d.1) (max (al d.2.1) (rl d.2.2))
def dvld(d:Dy):Bool:=avld d.1 && (avld d.2.1 && vldR d.2.2)
def d0:DyQ:=((0,0),(0,0),0)
def cenC(l:List Ps)(m:Arc):Nat:=if chkC l [m]≠0 then chkC l [m] else if crV (imgs l m)=0 then 8 else 0
def cenQ(A:List V2)(m:V2):DyQ:=(ciV A,m,sqQ (subQ (pt 0 A) (ciV A)))
def lineC(l:List Ps)(m:Arc):Nat:=if chkC l [m]≠0 then chkC l [m] else lnC (imgs l m)
def psnC(l:List Ps)(d:Dy):Nat:=if plchk l≠0 then plchk l else if dvld d then 0 else 2
def psnB(l:List Ps)(d:Dy):Bool:=(imgs l d.2.1).all λx=>decide (sqQ (subQ x (av d.1))=rv d.2.2)
end Go.Num
namespace Go.Abs
open Go.Num
variable {P:Program} {Γ:Nat->Spec}
def dqA(d:DyQ):AV:=.agg [cb (rcan d.1.1),cn (rcan d.1.1),cd (rcan d.1.1),cb (rcan d.1.2),cn (rcan d.1.2),cd (rcan d.1.2),cb (rcan d.2.1.1),cn (rcan d.2.1.1),cd (rcan d.2.1.1),cb (rcan d.2.1.2),cn (rcan d.2.1.2),cd (rcan d.2.1.2),cb (rcan d.2.2),cn (rcan d.2.2),cd (rcan d.2.2)]
theorem zbn(d:DyQ):dqA d=.agg [cb (rcan d.1.1),cn (rcan d.1.1),cd (rcan d.1.1),cb (rcan d.1.2),cn (rcan d.1.2),cd (rcan d.1.2),cb (rcan d.2.1.1),cn (rcan d.2.1.1),cd (rcan d.2.1.1),cb (rcan d.2.1.2),cn (rcan d.2.1.2),cd (rcan d.2.1.2),cb (rcan d.2.2),cn (rcan d.2.2),cd (rcan d.2.2)]:=eq_of_heq (HEq.refl _)
attribute [go_sem,go_sem ↓] zbn
def yU(tE:Nat)(l:List AV)(K:AV->Prop):Prop:=
 match l with
 | [a,b]=>onPs (λl=>onA (λm=>okPs 1000 l/\al m<=10000/\K (.tup [rQ (if lineC l m=0 then lnA (imgs l m) else 0),rQ (if lineC l m=0 then lnB (imgs l m) else 0),rQ (if lineC l m=0 then lnK (imgs l m) else 0),errV tE (lineC l m)])) b) a
 | _=>False
theorem wao:type_of% @yU.eq_1:=q_E @yU.eq_1
@[congr] theorem YbQ tE{K}{l l'}(h:l=l'):yU tE l K=yU tE l' K:=by subst h;rfl
attribute [go_sem,go_sem ↓] wao
def kW(l:List AV)(K:AV->Prop):Prop:=
 match l with
 | [a,b]=>onPs (λl=>onA (λm=>okPs 1000 l/\al m<=10000/\l.length=3/\K (.tup [rQ (lnA (imgs l m)),rQ (lnB (imgs l m)),rQ (lnK (imgs l m)),.one (.lit (.int .i64 (lnC (imgs l m):Nat)))])) b) a
 | _=>False
theorem Uan:type_of% @kW.eq_1:=q_E @kW.eq_1
@[congr] theorem UbN{K}{l l'}(h:l=l'):kW l K=kW l' K:=h▸rfl
attribute [go_sem,go_sem ↓] Uan
def UB(tE:Nat)(l:List AV)(K:AV->Prop):Prop:=
 match l with
 | [a,b]=>onPs (λl=>onA (λm=>okPs 1000 l/\al m<=10000/\K (.tup [dqA (if cenC l m=0 then cenQ (imgs l m) (av m) else d0),errV tE (cenC l m)])) b) a
 | _=>False
theorem yN:type_of% @UB.eq_1:=q_E @UB.eq_1
@[congr] theorem jby tE{K}{l l'}(h:l=l'):UB tE l K=UB tE l' K:=by subst h;rfl
attribute [go_sem,go_sem ↓] yN
def kC(tE:Nat)(l:List AV)(K:AV->Prop):Prop:=
 match l with
 | [a,b]=>onPs (λl=>onDy (λd=>okPs 1000 l/\dl d<=100000/\K (.tup [.one (.lit (.bool (decide (psnC l d=0) && psnB l d))),errV tE (psnC l d)])) b) a
 | _=>False
theorem jR:type_of% @kC.eq_1:=q_E @kC.eq_1
@[congr] theorem Zby tE{K}{l l'}(h:l=l'):kC tE l K=kC tE l' K:=by subst h;rfl
attribute [go_sem,go_sem ↓] jR
end Go.Abs
end
section
namespace Go.Num
open Go.Abs
def exPs:List Ps:=[((rcan 0,false),(rcan 0,rcan 0)),((rcan 0,false),(rcan 2,rcan 0)),((rcan 0,true),(rcan 2,rcan 2))]
def o2:Arc:=(rcan 0,rcan 0)
end Go.Num
namespace Go.Abs
open Go.Num
variable {P:Program} {Γ:Nat->Spec}
def UaF(l:List AV)(K:AV->Prop):Prop:=
 match l with
 | []=>K (psA exPs)
 | _=>False
theorem va3:type_of% @UaF.eq_1:=q_E @UaF.eq_1
@[congr] theorem xbW{K}{l l'}(h:l=l'):UaF l K=UaF l' K:=h▸rfl
attribute [go_sem,go_sem ↓] va3
def jV(l:List AV)(K:AV->Prop):Prop:=
 match l with
 | []=>K (.one (.lit (.bool true)))
 | _=>False
theorem uaH:type_of% @jV.eq_1:=q_E @jV.eq_1
@[congr] theorem YbO{K}{l l'}(h:l=l'):jV l K=jV l' K:=h▸rfl
attribute [go_sem,go_sem ↓] uaH
def XG(l:List AV)(K:AV->Prop):Prop:=
 match l with
 | [a,b]=>onPs (λl=>onA (λm=>okPs 1048576 l/\al m<=1048576/\K (.one (.lit (.bool true)))) b) a
 | _=>False
theorem Qai:type_of% @XG.eq_1:=q_E @XG.eq_1
@[congr] theorem ubI{K}{l l'}(h:l=l'):XG l K=XG l' K:=h▸rfl
attribute [go_sem,go_sem ↓] Qai
end Go.Abs
end
section
namespace Go.Num
open Go.Abs
instance decAR:DecidableEq (Arc×R):=instDecidableEqProd
instance decDy:DecidableEq Dy:=instDecidableEqProd
def dz:Dy:=(((false,[],[]),(false,[],[])),((false,[],[]),(false,[],[])),(false,[],[]))
def cenR(A:List V2)(m:Arc):Dy:=(acan (ciV A),m,rcan (sqQ (subQ (pt 0 A) (ciV A))))
def movR(A:List V2)(m:Arc):Dy:=(m,acan (ciV A),rcan (sqQ (subQ (pt 0 A) (ciV A))))
def pcan(p:PsQ):Ps:=((rcan p.1.1,p.1.2),acan p.2)
def imgsB(l:List Ps)(o:Arc):List V2:=l.map λp=>appQ (invQ (pv p)) (av o)
def movC(l:List Ps)(o:Arc):Nat:=if chkC l [o]≠0 then chkC l [o] else if crV (imgsB l o)=0 then 8 else 0
def movQ(A:List V2)(o:V2):DyQ:=(o,ciV A,sqQ (subQ (pt 0 A) (ciV A)))
end Go.Num
namespace Go.Abs
open Go.Num
variable {P:Program} {Γ:Nat->Spec}
def YB(l:List AV)(K:AV->Prop):Prop:=
 match l with
 | [a,b]=>onPs (λl=>onA (λm=>okPs 1000 l/\al m<=10000/\l.length=3/\K (.tup [dA (if crV (imgs l m)=0 then dz else cenR (imgs l m) m),.one (.lit (.int .i64 (if crV (imgs l m)=0 then 8 else 0)))])) b) a
 | _=>False
theorem YO:type_of% @YB.eq_1:=q_E @YB.eq_1
@[congr] theorem Ubx{K}{l l'}(h:l=l'):YB l K=YB l' K:=h▸rfl
attribute [go_sem,go_sem ↓] YO
def kB(l:List AV)(K:AV->Prop):Prop:=
 match l with
 | [a,b]=>onPs (λl=>onA (λm=>okPs 1000 l/\al m<=10000/\l.length=3/\K (.tup [dA (if crV (imgsB l m)=0 then dz else movR (imgsB l m) m),.one (.lit (.int .i64 (if crV (imgsB l m)=0 then 8 else 0)))])) b) a
 | _=>False
theorem ZS:type_of% @kB.eq_1:=q_E @kB.eq_1
@[congr] theorem qby{K}{l l'}(h:l=l'):kB l K=kB l' K:=h▸rfl
attribute [go_sem,go_sem ↓] ZS
def YC(tE:Nat)(l:List AV)(K:AV->Prop):Prop:=
 match l with
 | [a,b]=>onPs (λl=>onA (λm=>okPs 1000 l/\al m<=10000/\K (.tup [dqA (if movC l m=0 then movQ (imgsB l m) (av m) else d0),errV tE (movC l m)])) b) a
 | _=>False
theorem XM:type_of% @YC.eq_1:=q_E @YC.eq_1
@[congr] theorem Yby tE{K}{l l'}(h:l=l'):YC tE l K=YC tE l' K:=by subst h;rfl
attribute [go_sem,go_sem ↓] XM
def VC(l:List AV)(K:AV->Prop):Prop:=
 match l with
 | [a,b]=>onPs (λl=>onDy (λd=>okPs 1000 l/\dl d<=100000/\l.length<=1000/\K (.one (.lit (.bool (psnB l d))))) b) a
 | _=>False
theorem wP:type_of% @VC.eq_1:=q_E @VC.eq_1
@[congr] theorem Wby{K}{l l'}(h:l=l'):VC l K=VC l' K:=h▸rfl
attribute [go_sem,go_sem ↓] wP
def zV(l:List AV)(K:AV->Prop):Prop:=
 match l with
 | [a]=>onDy (λd=>dl d<=100000/\K (.one (.lit (.bool (dvld d))))) a
 | _=>False
theorem yaD:type_of% @zV.eq_1:=q_E @zV.eq_1
@[congr] theorem VbN{K}{l l'}(h:l=l'):zV l K=zV l' K:=h▸rfl
attribute [go_sem,go_sem ↓] yaD
def wC(l:List AV)(K:AV->Prop):Prop:=
 match l with
 | [a]=>onDy (λd=>dl d<=4294967296/\K (.one (.lit (.bool (sA d.1 && (sA d.2.1 && sR 4 d.2.2)))))) a
 | _=>False
theorem xO:type_of% @wC.eq_1:=q_E @wC.eq_1
@[congr] theorem xbx{K}{l l'}(h:l=l'):wC l K=wC l' K:=h▸rfl
attribute [go_sem,go_sem ↓] xO
def yG(l:List AV)(K:AV->Prop):Prop:=
 match l with
 | [a,b]=>onDy (λd=>onDy (λe=>dl d<=4294967296/\K (.one (.lit (.bool (decide (d=e)))))) b) a
 | _=>False
theorem U5:type_of% @yG.eq_1:=q_E @yG.eq_1
@[congr] theorem vbM{K}{l l'}(h:l=l'):yG l K=yG l' K:=h▸rfl
attribute [go_sem,go_sem ↓] U5
end Go.Abs
end
section
namespace Go.Num
open Go.Abs
abbrev CpQ:=V2×V2×Rat×Rat×Rat×Rat×Rat
def c0:CpQ:=((0,0),(0,0),0,0,0,0,0)
def timesQ(a b:V2):V2:=(a.1*b.1-a.2*b.2,a.1*b.2+a.2*b.1)
def barQ(a:V2):V2:=(a.1,-a.2)
def lnkC(A B:List V2)(m n:V2):Nat:=if m=n then 8 else if crV A=0 then 8 else if crV B=0 then 8 else if ciV A=ciV B then 8 else 0
def lnkQ(A B:List V2)(m n:V2):CpQ:=(ciV A,ciV B,sqQ (subQ (pt 0 A) (ciV A)),sqQ (subQ n m),sqQ (subQ (pt 0 B) (ciV B)),-(m.1*(subQ n m).1+m.2*(subQ n m).2) / sqQ (subQ n m),(m.1*(subQ n m).2-m.2*(subQ n m).1) / sqQ (subQ n m))
def lkC(l:List Ps)(m n:Arc):Nat:=if chkC l [m,n]≠0 then chkC l [m,n] else lnkC (imgs l m) (imgs l n) (av m) (av n)
end Go.Num
namespace Go.Abs
open Go.Num
variable {P:Program} {Γ:Nat->Spec}
def cqC(c:CpQ):List C:=[cb (rcan c.1.1),cn (rcan c.1.1),cd (rcan c.1.1),cb (rcan c.1.2),cn (rcan c.1.2),cd (rcan c.1.2),cb (rcan c.2.1.1),cn (rcan c.2.1.1),cd (rcan c.2.1.1),cb (rcan c.2.1.2),cn (rcan c.2.1.2),cd (rcan c.2.1.2),cb (rcan c.2.2.1),cn (rcan c.2.2.1),cd (rcan c.2.2.1),cb (rcan c.2.2.2.1),cn (rcan c.2.2.2.1),cd (rcan c.2.2.2.1),cb (rcan c.2.2.2.2.1),cn (rcan c.2.2.2.2.1),cd (rcan c.2.2.2.2.1),cb (rcan c.2.2.2.2.2.1),cn (rcan c.2.2.2.2.2.1),cd (rcan c.2.2.2.2.2.1),cb (rcan c.2.2.2.2.2.2),cn (rcan c.2.2.2.2.2.2),cd (rcan c.2.2.2.2.2.2)]
def cqA(c:CpQ):AV:=.agg (cqC c)
def cl(c:Cp):Nat:=max (al c.1) (max (al c.2.1) (max (rl c.2.2.1) (max (rl c.2.2.2.1) (max (rl c.2.2.2.2.1) (max (rl c.2.2.2.2.2.1) (rl c.2.2.2.2.2.2))))))
def wG(l:List AV)(K:AV->Prop):Prop:=
 match l with
 | [a,b]=>onA (λp=>onA (λq=>al p<=100000000/\al q<=100000000/\K (pQ (timesQ (av p) (av q)))) b) a
 | _=>False
theorem jae:type_of% @wG.eq_1:=q_E @wG.eq_1
@[congr] theorem ubH{K}{l l'}(h:l=l'):wG l K=wG l' K:=h▸rfl
attribute [go_sem,go_sem ↓] jae
def WaF(l:List AV)(K:AV->Prop):Prop:=
 match l with
 | [a]=>onA (λp=>al p<=100000000/\vldR p.1=true/\K (pQ (barQ (av p)))) a
 | _=>False
theorem waU:type_of% @WaF.eq_1:=q_E @WaF.eq_1
@[congr] theorem zbS{K}{l l'}(h:l=l'):WaF l K=WaF l' K:=h▸rfl
attribute [go_sem,go_sem ↓] waU
def zX(tE:Nat)(l:List AV)(K:AV->Prop):Prop:=
 match l with
 | [a,b,c]=>onPs (λl=>onA (λm=>onA (λn=>okPs 1000 l/\al m<=10000/\al n<=10000/\K (.tup [cqA (if lkC l m n=0 then lnkQ (imgs l m) (imgs l n) (av m) (av n) else c0),errV tE (lkC l m n)])) c) b) a
 | _=>False
theorem Xao:type_of% @zX.eq_1:=q_E @zX.eq_1
@[congr] theorem kbQ tE{K}{l l'}(h:l=l'):zX tE l K=zX tE l' K:=by subst h;rfl
attribute [go_sem,go_sem ↓] Xao
def zY(l:List AV)(K:AV->Prop):Prop:=
 match l with
 | [a,b,c]=>onPs (λl=>onA (λm=>onA (λn=>okPs 1000 l/\al m<=10000/\al n<=10000/\l.length=3/\K (.tup [cqA (if lnkC (imgs l m) (imgs l n) (av m) (av n)=0 then lnkQ (imgs l m) (imgs l n) (av m) (av n) else c0),.one (.lit (.int .i64 (lnkC (imgs l m) (imgs l n) (av m) (av n):Nat)))])) c) b) a
 | _=>False
theorem wau:type_of% @zY.eq_1:=q_E @zY.eq_1
@[congr] theorem ubQ{K}{l l'}(h:l=l'):zY l K=zY l' K:=h▸rfl
attribute [go_sem,go_sem ↓] wau
end Go.Abs
end
section
namespace Go.Num
open Go.Abs
end Go.Num
namespace Go.Abs
open Go.Num
variable {P:Program} {Γ:Nat->Spec}
def xH(l:List AV)(K:AV->Prop):Prop:=
 match l with
 | [a,b]=>onPs (λl=>onA (λm=>okPs 1048576 l/\al m<=1048576/\K (.one (.lit (.bool true)))) b) a
 | _=>False
theorem U4:type_of% @xH.eq_1:=q_E @xH.eq_1
@[congr] theorem wbL{K}{l l'}(h:l=l'):xH l K=xH l' K:=h▸rfl
attribute [go_sem,go_sem ↓] U4
end Go.Abs
end
section
namespace Go.Num
open Go.Abs
abbrev Cp5:=R×R×R×R×R
instance decC5:DecidableEq Cp5:=λa b=>decidable_of_iff (a.1=b.1/\a.2.1=b.2.1/\a.2.2.1=b.2.2.1/\a.2.2.2.1=b.2.2.2.1/\a.2.2.2.2=b.2.2.2.2) ⟨λ⟨h1,h2,h3,h4,h5⟩=>Prod.ext h1 (Prod.ext h2 (Prod.ext h3 (Prod.ext h4 h5))),λh=>by subst h;exact⟨rfl,rfl,rfl,rfl,rfl⟩⟩
instance decCp:DecidableEq Cp:=λa b=>decidable_of_iff (a.1=b.1/\a.2.1=b.2.1/\(a.2.2:Cp5)=b.2.2) ⟨λ⟨h1,h2,h3⟩=>Prod.ext h1 (Prod.ext h2 h3),λh=>by subst h;exact⟨rfl,rfl,rfl⟩⟩
end Go.Num
namespace Go.Abs
open Go.Num
variable {P:Program} {Γ:Nat->Spec}
def cpC(c:Cp):List C:=[cb c.1.1,cn c.1.1,cd c.1.1,cb c.1.2,cn c.1.2,cd c.1.2,cb c.2.1.1,cn c.2.1.1,cd c.2.1.1,cb c.2.1.2,cn c.2.1.2,cd c.2.1.2,cb c.2.2.1,cn c.2.2.1,cd c.2.2.1,cb c.2.2.2.1,cn c.2.2.2.1,cd c.2.2.2.1,cb c.2.2.2.2.1,cn c.2.2.2.2.1,cd c.2.2.2.2.1,cb c.2.2.2.2.2.1,cn c.2.2.2.2.2.1,cd c.2.2.2.2.2.1,cb c.2.2.2.2.2.2,cn c.2.2.2.2.2.2,cd c.2.2.2.2.2.2]
def cpA(c:Cp):AV:=.agg (cpC c)
def onCp(k:Cp->Prop)(a:AV):Prop:=onE cpA (λc=>WLC c/\k c) a
@[congr] theorem QbT{k:Cp->Prop}{a a'}(h:a=a'):onCp k a=onCp k a':=by subst h;rfl
theorem Ubk(k:Cp->Prop)(a1 a2 a3 b1 b2 b3 c1 c2 c3 d1 d2 d3 e1 e2 e3 f1 f2 f3 g1 g2 g3 h1 h2 h3 i1 i2 i3:C):onCp k (.agg [a1,a2,a3,b1,b2,b3,c1,c2,c3,d1,d2,d3,e1,e2,e3,f1,f2,f3,g1,g2,g3,h1,h2,h3,i1,i2,i3]) =
  onO (λa=>onO (λb=>onO (λc=>onO (λd=>onO (λe=>onO (λf=>onO (λg=>onO (λh=>onO (λi=>WLC ((a,b),(c,d),e,f,g,h,i)/\k ((a,b),(c,d),e,f,g,h,i)) (dR i1 i2 i3)) (dR h1 h2 h3)) (dR g1 g2 g3)) (dR f1 f2 f3)) (dR e1 e2 e3)) (dR d1 d2 d3)) (dR c1 c2 c3)) (dR b1 b2 b3)) (dR a1 a2 a3):=by
 refine propext ⟨λ⟨t,h,hh⟩=>?_,λh=>?_⟩
 .simp only [cpA,cpC,AV.agg.injEq,List.cons.injEq,and_true]at h;obtain⟨rfl,rfl,rfl,rfl,rfl,rfl,rfl,rfl,rfl,rfl,rfl,rfl,rfl,rfl,rfl,rfl,rfl,rfl,rfl,rfl,rfl,rfl,rfl,rfl,rfl,rfl,rfl⟩:=h;simp only [dR_e,JL];exact hh
 .obtain⟨a,ha,q1⟩:=kb.1 h;obtain⟨b,hb,q2⟩:=kb.1 q1;obtain⟨c,hc,q3⟩:=kb.1 q2;obtain⟨d,hd,q4⟩:=kb.1 q3;obtain⟨e,he,q5⟩:=kb.1 q4;obtain⟨f,hf,q6⟩:=kb.1 q5;obtain⟨g,hg,q7⟩:=kb.1 q6;obtain⟨hh,hhh,q8⟩:=kb.1 q7;obtain⟨i,hi,q9⟩:=kb.1 q8;obtain⟨rfl,rfl,rfl⟩:=Wb.1 ha;obtain⟨rfl,rfl,rfl⟩:=Wb.1 hb;obtain⟨rfl,rfl,rfl⟩:=Wb.1 hc;obtain⟨rfl,rfl,rfl⟩:=Wb.1 hd;obtain⟨rfl,rfl,rfl⟩:=Wb.1 he;obtain⟨rfl,rfl,rfl⟩:=Wb.1 hf;obtain⟨rfl,rfl,rfl⟩:=Wb.1 hg;obtain⟨rfl,rfl,rfl⟩:=Wb.1 hhh;obtain⟨rfl,rfl,rfl⟩:=Wb.1 hi;exact⟨((a,b),(c,d),e,f,g,hh,i),rfl,q9⟩
attribute [go_sem,go_sem ↓] Ubk
def WF(l:List AV)(K:AV->Prop):Prop:=
 match l with
 | [a,b]=>onCp (λc=>onCp (λd=>cl c<=4294967296/\K (.one (.lit (.bool (decide (c=d)))))) b) a
 | _=>False
theorem Z2:type_of% @WF.eq_1:=q_E @WF.eq_1
@[congr] theorem kbF{K}{l l'}(h:l=l'):WF l K=WF l' K:=h▸rfl
attribute [go_sem,go_sem ↓] Z2
def Ww(l:List AV)(K:AV->Prop):Prop:=
 match l with
 | [a,b,c]=>onPs (λl=>onDy (λd=>onA (λn=>okPs 1048576 l/\dl d<=1048576/\al n<=1048576/\K (.one (.lit (.bool true)))) c) b) a
 | _=>False
theorem XE:type_of% @Ww.eq_1:=q_E @Ww.eq_1
@[congr] theorem xbh{K}{l l'}(h:l=l'):Ww l K=Ww l' K:=h▸rfl
attribute [go_sem,go_sem ↓] XE
end Go.Abs
end
section
namespace Go.Num
open Go.Abs
theorem qbr{p q:BQ}(h:mcs p=mcs q):p=q:=by rw [<-vt p,h,vt]
theorem Uaw{p q:BQ}(hp:Canon p)(hq:Canon q):chk2 (mcs p) (mcs q)=0:=by unfold chk2;rw [Wag hp,if_neg (by decide),Wag hq]
theorem ybc{p q:BQ}(hp:Canon p)(hq:Canon q)(hd:degB p+degB q<=24):mulC (mcs p) (mcs q)=0:=by
 unfold mulC;rw [Uaw hp hq,if_neg (by decide),ve,ve,if_neg (by omega)]
theorem ZaY{p:BQ}(hp:Canon p){d:Nat}(hd:Deg d p):degB p<=d:=by
 unfold degB;cases hl:p.getLast? with
 | none=>simp only;omega
 | some u=>exact hd u (List.mem_of_getLast? hl)
end Go.Num
namespace Go.Abs
open Go.Num
variable {P:Program} {Γ:Nat->Spec}
def bC(p:BQ):C:=.slice ((mcs p).map mC)
def onB(k:BQ->Prop)(a:AV):Prop:=∃p,a=.one (bC p)/\Canon p/\k p
@[congr] theorem vb2{k:BQ->Prop}{a a'}(h:a=a'):onB k a=onB k a':=by subst h;rfl
theorem uR{p q:BQ}(h:bC p=bC q):p=q:=by
 simp only [bC,C.slice.injEq]at h;exact qbr (Jm h)
theorem zbT(k:BQ->Prop)(p:BQ):onB k (.one (bC p))=(Canon p/\k p):=by
 refine propext ⟨λ⟨x,h,h1,h2⟩=>?_,λh=>⟨p,rfl,h⟩⟩;simp only [AV.one.injEq]at h;have:=uR h;subst this;exact⟨h1,h2⟩
theorem JbC(k:BQ->Prop)(p:BQ):onB k (.one (.slice ((mcs p).map mC)))=(Canon p/\k p):=zbT k p
def onV(k:BQ×BQ->Prop)(a:AV):Prop:=∃p q,a=.agg [bC p,bC q]/\(Canon p/\Canon q)/\k (p,q)
@[congr] theorem Yb1{k:BQ×BQ->Prop}{a a'}(h:a=a'):onV k a=onV k a':=by subst h;rfl
theorem WbU(k:BQ×BQ->Prop)(p q:BQ):onV k (.agg [bC p,bC q])=((Canon p/\Canon q)/\k (p,q)):=by
 refine propext ⟨λ⟨x,y,h,h1,h2⟩=>?_,λh=>⟨p,q,rfl,h⟩⟩;simp only [AV.agg.injEq,List.cons.injEq,and_true]at h;obtain⟨e1,e2⟩:=h;have:=uR e1;have:=uR e2
 subst_vars;exact⟨h1,h2⟩
theorem WbJ(k:BQ×BQ->Prop)(p q:BQ):onV k (.agg [.slice ((mcs p).map mC),.slice ((mcs q).map mC)])=((Canon p/\Canon q)/\k (p,q)):=WbU k p q
theorem ZbC(p:BQ):bC p=.slice ((mcs p).map mC):=eq_of_heq (HEq.refl _)
attribute [go_sem,go_sem ↓] JbC WbJ ZbC
def ZV(l:List AV)(K:AV->Prop):Prop:=
 match l with
 | [p,e]=>e=.one (.lit .nilIface)/\onB (λp=>K (.one (bC p))) p
 | _=>False
theorem UaB:type_of% @ZV.eq_1:=q_E @ZV.eq_1
@[congr] theorem QbP{K}{l l'}(h:l=l'):ZV l K=ZV l' K:=h▸rfl
attribute [go_sem,go_sem ↓] UaB
def JaE(l:List AV)(K:AV->Prop):Prop:=
 match l with
 | [a,b]=>onB (λp=>onB (λq=>sz p+sz q<=1000000000/\K (.one (bC (addB p q)))) b) a
 | _=>False
theorem ua8:type_of% @JaE.eq_1:=q_E @JaE.eq_1
@[congr] theorem zb0{K}{l l'}(h:l=l'):JaE l K=JaE l' K:=h▸rfl
attribute [go_sem,go_sem ↓] ua8
def ZaF(l:List AV)(K:AV->Prop):Prop:=
 match l with
 | [a,b]=>onB (λp=>onB (λq=>sz p+sz q<=1000000000/\K (.one (bC (subB p q)))) b) a
 | _=>False
theorem zaU:type_of% @ZaF.eq_1:=q_E @ZaF.eq_1
@[congr] theorem jb0{K}{l l'}(h:l=l'):ZaF l K=ZaF l' K:=h▸rfl
attribute [go_sem,go_sem ↓] zaU
def xav(l:List AV)(K:AV->Prop):Prop:=
 match l with
 | [a,b]=>onB (λp=>onB (λq=>sz p+sz q<=3000000/\degB p+degB q<=24/\K (.one (bC (mulB p q)))) b) a
 | _=>False
theorem JaS:type_of% @xav.eq_1:=q_E @xav.eq_1
@[congr] theorem JbS{K}{l l'}(h:l=l'):xav l K=xav l' K:=h▸rfl
attribute [go_sem,go_sem ↓] JaS
def uH(l:List AV)(K:AV->Prop):Prop:=
 match l with
 | [a,x]=>onB (λp=>onR (λx=>rl x<=1000000/\sz p<=100000000/\K (.one (bC (sclB (rv x) p)))) x) a
 | _=>False
theorem V3:type_of% @uH.eq_1:=q_E @uH.eq_1
@[congr] theorem XbI{K}{l l'}(h:l=l'):uH l K=uH l' K:=h▸rfl
attribute [go_sem,go_sem ↓] V3
def waD(l:List AV)(K:AV->Prop):Prop:=
 match l with
 | [b,x]=>asBool (λb=>onR (λx=>rl x<=1000000/\K (.one (bC (linB b (rv x))))) x) b
 | _=>False
theorem YaW:type_of% @waD.eq_1:=q_E @waD.eq_1
@[congr] theorem VbZ{K}{l l'}(h:l=l'):waD l K=waD l' K:=h▸rfl
attribute [go_sem,go_sem ↓] YaW
def zaC(l:List AV)(K:AV->Prop):Prop:=
 match l with
 | [x]=>onR (λx=>rl x<=1000000/\vldR x=true/\K (.one (bC (conB (rv x))))) x
 | _=>False
theorem YaY:type_of% @zaC.eq_1:=q_E @zaC.eq_1
@[congr] theorem qbX{K}{l l'}(h:l=l'):zaC l K=zaC l' K:=h▸rfl
attribute [go_sem,go_sem ↓] YaY
end Go.Abs
end
