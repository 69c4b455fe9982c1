/-
  Parts of the proof, merged: PoseF, PoseG, PoseH, PoseJ, PoseQ, PoseL.
-/
import Derived.Test.YtneiiodebbmcaaaGreatDoorM7
set_option linter.unusedVariables false
set_option linter.unusedSimpArgs false
set_option maxRecDepth 100000
section
namespace Go.Num
open Go.Abs
def pt(i:Nat)(A:List V2):V2:=A.getD i (0,0)
def ciV(A:List V2):V2:=ciQ (pt 0 A) (subQ (pt 1 A) (pt 0 A)) (subQ (pt 2 A) (pt 0 A))
def crV(A:List V2):Rat:=Je (subQ (pt 1 A) (pt 0 A)) (subQ (pt 2 A) (pt 0 A))
def othV(A:List V2):V2:=if pt 0 A=pt 1 A then pt 2 A else pt 1 A
def lnC(A:List V2):Nat:=if pt 0 A=othV A then 8 else if crV A≠0 then 21 else 0
def lnA(A:List V2):Rat:=if lnC A=0 then (pt 0 A).2-(othV A).2 else 0
def lnB(A:List V2):Rat:=if lnC A=0 then (othV A).1-(pt 0 A).1 else 0
def lnK(A:List V2):Rat:=if lnC A=0 then ((pt 0 A).2-(othV A).2)*(pt 0 A).1+((othV A).1-(pt 0 A).1)*(pt 0 A).2 else 0
abbrev DyQ:=V2×V2×Rat
def dl(d:Dy):Nat:=max (al d.1) (max (al d.2.1) (rl d.2.2))
def dvld(d:Dy):Bool:=avld d.1 && (avld d.2.1 && vldR d.2.2)
def d0:DyQ:=((0,0),(0,0),0)
def cenC(l:List Ps)(m:Arc):Nat:=if chkC l [m]≠0 then chkC l [m] else if crV (imgs l m)=0 then 8 else 0
def cenQ(A:List V2)(m:V2):DyQ:=(ciV A,m,sqQ (subQ (pt 0 A) (ciV A)))
def lineC(l:List Ps)(m:Arc):Nat:=if chkC l [m]≠0 then chkC l [m] else lnC (imgs l m)
def psnC(l:List Ps)(d:Dy):Nat:=if plchk l≠0 then plchk l else if dvld d then 0 else 2
def psnB(l:List Ps)(d:Dy):Bool:=(imgs l d.2.1).all λx=>decide (sqQ (subQ x (av d.1))=rv d.2.2)
theorem Ub8{p u v:V2}{b:Nat}(hu:zq u<=b)(hv:zq v<=b):zq (ciQ p u v)<=zq p+14*b+32:=by
 unfold ciQ;split
 .have:zq (0,0)=0:=by unfold zq;rw [rz_0];rfl
  omega
 .have u1:rz u.1<=zq u:=Nat.le_max_left _ _;have u2:rz u.2<=zq u:=Nat.le_max_right _ _;have v1:rz v.1<=zq v:=Nat.le_max_left _ _;have v2:rz v.2<=zq v:=Nat.le_max_right _ _;have p1:rz p.1<=zq p:=Nat.le_max_left _ _;have p2:rz p.2<=zq p:=Nat.le_max_right _ _;have su:=wbo u;have sv:=wbo v;have zc:=uab u v;have zt:=jaT 2;have zt2:zs 2<=2:=jad (by decide)
  have e2:(((2:Int)):Rat)=2:=rfl;rw [e2]at zt;have md:=Zc 2 (Je u v);have m1:=Zc (sqQ u) v.2;have m2:=Zc (sqQ v) u.2;have m3:=Zc (sqQ v) u.1;have m4:=Zc (sqQ u) v.1;have s1:=QG (sqQ u*v.2) (sqQ v*u.2);have s2:=QG (sqQ v*u.1) (sqQ u*v.1);have d1:=vY (sqQ u*v.2-sqQ v*u.2) (2*Je u v);have d2:=vY (sqQ v*u.1-sqQ u*v.1) (2*Je u v);have a1:=km p.1 ((sqQ u*v.2-sqQ v*u.2) / (2*Je u v));have a2:=km p.2 ((sqQ v*u.1-sqQ u*v.1) / (2*Je u v));have g:zq (ctrQ p u v)=max (rz (p.1+(sqQ u*v.2-sqQ v*u.2) / (2*Je u v))) (rz (p.2+(sqQ v*u.1-sqQ u*v.1) / (2*Je u v))):=rfl;rw [g];exact Nat.max_le.2 ⟨by omega,by omega⟩
theorem Uh{b c:Nat}{l:List Ps}(h:okPs b l)(hb:b<=c):okPs c l:=λp hp=>⟨(h p hp).1,Nat.le_trans (h p hp).2 hb⟩
end Go.Num
namespace Go.Abs
open Go.Num
variable {P:Program} {Γ:Nat->Spec}
def dqA(d:DyQ):AV:=.agg [cb (rcan d.1.1),cn (rcan d.1.1),cd (rcan d.1.1),cb (rcan d.1.2),cn (rcan d.1.2),cd (rcan d.1.2),cb (rcan d.2.1.1),cn (rcan d.2.1.1),cd (rcan d.2.1.1),cb (rcan d.2.1.2),cn (rcan d.2.1.2),cd (rcan d.2.1.2),cb (rcan d.2.2),cn (rcan d.2.2),cd (rcan d.2.2)]
theorem Wbr(d:DyQ):dqA d=.agg [cb (rcan d.1.1),cn (rcan d.1.1),cd (rcan d.1.1),cb (rcan d.1.2),cn (rcan d.1.2),cd (rcan d.1.2),cb (rcan d.2.1.1),cn (rcan d.2.1.1),cd (rcan d.2.1.1),cb (rcan d.2.1.2),cn (rcan d.2.1.2),cd (rcan d.2.1.2),cb (rcan d.2.2),cn (rcan d.2.2),cd (rcan d.2.2)]:=eq_of_heq (HEq.refl _)
attribute [go_sem,go_sem ↓] Wbr
def Zas(tE:Nat)(l:List AV)(K:AV->Prop):Prop:=
 match l with
 | [a,b]=>onPs (λl=>onA (λm=>okPs 1000 l/\al m<=10000/\K (.tup [rQ (if lineC l m=0 then lnA (imgs l m) else 0),rQ (if lineC l m=0 then lnB (imgs l m) else 0),rQ (if lineC l m=0 then lnK (imgs l m) else 0),errV tE (lineC l m)])) b) a
 | _=>False
theorem UaG tE a b K:Zas tE [a,b] K=(onPs (λl=>onA (λm=>okPs 1000 l/\al m<=10000/\K (.tup [rQ (if lineC l m=0 then lnA (imgs l m) else 0),rQ (if lineC l m=0 then lnB (imgs l m) else 0),rQ (if lineC l m=0 then lnK (imgs l m) else 0),errV tE (lineC l m)])) b) a):=propext Iff.rfl
@[congr] theorem ub2 tE{K}{l l'}(h:l=l'):Zas tE l K=Zas tE l' K:=by subst h;rfl
attribute [go_sem,go_sem ↓] UaG
def Zat(l:List AV)(K:AV->Prop):Prop:=
 match l with
 | [a,b]=>onPs (λl=>onA (λm=>okPs 1000 l/\al m<=10000/\l.length=3/\K (.tup [rQ (lnA (imgs l m)),rQ (lnB (imgs l m)),rQ (lnK (imgs l m)),.one (.lit (.int .i64 (lnC (imgs l m):Nat)))])) b) a
 | _=>False
theorem vaA a b K:Zat [a,b] K=(onPs (λl=>onA (λm=>okPs 1000 l/\al m<=10000/\l.length=3/\K (.tup [rQ (lnA (imgs l m)),rQ (lnB (imgs l m)),rQ (lnK (imgs l m)),.one (.lit (.int .i64 (lnC (imgs l m):Nat)))])) b) a):=propext Iff.rfl
@[congr] theorem Qb2{K}{l l'}(h:l=l'):Zat l K=Zat l' K:=by subst h;rfl
attribute [go_sem,go_sem ↓] vaA
def UQ(tE:Nat)(l:List AV)(K:AV->Prop):Prop:=
 match l with
 | [a,b]=>onPs (λl=>onA (λm=>okPs 1000 l/\al m<=10000/\K (.tup [dqA (if cenC l m=0 then cenQ (imgs l m) (av m) else d0),errV tE (cenC l m)])) b) a
 | _=>False
theorem xW tE a b K:UQ tE [a,b] K=(onPs (λl=>onA (λm=>okPs 1000 l/\al m<=10000/\K (.tup [dqA (if cenC l m=0 then cenQ (imgs l m) (av m) else d0),errV tE (cenC l m)])) b) a):=propext Iff.rfl
@[congr] theorem xbM tE{K}{l l'}(h:l=l'):UQ tE l K=UQ tE l' K:=by subst h;rfl
attribute [go_sem,go_sem ↓] xW
def ZQ(tE:Nat)(l:List AV)(K:AV->Prop):Prop:=
 match l with
 | [a,b]=>onPs (λl=>onDy (λd=>okPs 1000 l/\dl d<=100000/\K (.tup [.one (.lit (.bool (decide (psnC l d=0) && psnB l d))),errV tE (psnC l d)])) b) a
 | _=>False
theorem Q3 tE a b K:ZQ tE [a,b] K=(onPs (λl=>onDy (λd=>okPs 1000 l/\dl d<=100000/\K (.tup [.one (.lit (.bool (decide (psnC l d=0) && psnB l d))),errV tE (psnC l d)])) b) a):=propext Iff.rfl
@[congr] theorem UbL tE{K}{l l'}(h:l=l'):ZQ tE l K=ZQ tE l' K:=by subst h;rfl
attribute [go_sem,go_sem ↓] Q3
end Go.Abs
end
section
namespace Go.Num
open Go.Abs
def exPs:List Ps:=[((rcan 0,false),(rcan 0,rcan 0)),((rcan 0,false),(rcan 2,rcan 0)),((rcan 0,true),(rcan 2,rcan 2))]
def o2:Arc:=(rcan 0,rcan 0)
theorem rz_2:rz 2<=2:=by
 have zt:=jaT 2;have zt2:zs 2<=2:=jad (by decide)
 have e2:(((2:Int)):Rat)=2:=rfl;rw [e2]at zt;omega
end Go.Num
namespace Go.Abs
open Go.Num
variable {P:Program} {Γ:Nat->Spec}
def Za3(l:List AV)(K:AV->Prop):Prop:=
 match l with
 | []=>K (psA exPs)
 | _=>False
theorem Va8 K:Za3 [] K=(K (psA exPs)):=propext Iff.rfl
@[congr] theorem jca{K}{l l'}(h:l=l'):Za3 l K=Za3 l' K:=by subst h;rfl
attribute [go_sem,go_sem ↓] Va8
def kap(l:List AV)(K:AV->Prop):Prop:=
 match l with
 | []=>K (.one (.lit (.bool true)))
 | _=>False
theorem Jaz K:kap [] K=(K (.one (.lit (.bool true)))):=propext Iff.rfl
@[congr] theorem yb4{K}{l l'}(h:l=l'):kap l K=kap l' K:=by subst h;rfl
attribute [go_sem,go_sem ↓] Jaz
def W5(l:List AV)(K:AV->Prop):Prop:=
 match l with
 | [a,b]=>onPs (λl=>onA (λm=>okPs 1048576 l/\al m<=1048576/\K (.one (.lit (.bool true)))) b) a
 | _=>False
theorem Yag a b K:W5 [a,b] K=(onPs (λl=>onA (λm=>okPs 1048576 l/\al m<=1048576/\K (.one (.lit (.bool true)))) b) a):=propext Iff.rfl
@[congr] theorem qbZ{K}{l l'}(h:l=l'):W5 l K=W5 l' K:=by subst h;rfl
attribute [go_sem,go_sem ↓] Yag
theorem wbp{l:List Ps}(hw:∀p∈l,WLP p)(h:l.all sP=true):okPs 2 l:=by
 intro p hp;have hs:=List.all_eq_true.1 h p hp;simp only [sP,Bool.and_eq_true]at hs;exact⟨hw p hp,Nat.max_le.2 ⟨WbJ hs.1,Nat.max_le.2 ⟨WbJ hs.2.1,WbJ hs.2.2⟩⟩⟩
end Go.Abs
end
section
namespace Go.Num
open Go.Abs
instance decAR:DecidableEq (Arc×R):=instDecidableEqProd
instance decDy:DecidableEq Dy:=instDecidableEqProd
def dz:Dy:=(((false,[],[]),(false,[],[])),((false,[],[]),(false,[],[])),(false,[],[]))
def cenR(A:List V2)(m:Arc):Dy:=(acan (ciV A),m,rcan (sqQ (subQ (pt 0 A) (ciV A))))
def movR(A:List V2)(m:Arc):Dy:=(m,acan (ciV A),rcan (sqQ (subQ (pt 0 A) (ciV A))))
def pcan(p:PsQ):Ps:=((rcan p.1.1,p.1.2),acan p.2)
theorem Wb0(p:PsQ):pv (pcan p)=p:=by unfold pv pcan tv;simp only [Vb,Qbt]
def imgsB(l:List Ps)(o:Arc):List V2:=l.map λp=>appQ (invQ (pv p)) (av o)
theorem Ubg(p:PsQ):WLP (pcan p):=⟨Zp _,jU _⟩
theorem qbV{p:Ps}{b:Nat}(h:okP b p):okP (10*b+46) (pcan (invQ (pv p))):=by
 refine⟨Ubg _,?_⟩;obtain⟨h1,h2⟩:=h;have r1:rz (rv p.1.1)<=rl p.1.1:=Vg h1.1;have e1:rl p.1.1<=b:=Nat.le_trans (Nat.le_max_left _ _) h2;have e2:al p.2<=b:=Nat.le_trans (Nat.le_max_right _ _) h2;have r2:=kac h1.2;have z:=Ja8 (backQ (tv p.1)) (negQ (av p.2));have z1:=Xa6 (av p.2);have z2:rz (backQ (tv p.1)).1=rz (rv p.1.1):=qA _;have e:pl (pcan (invQ (pv p)))=max (rz (backQ (tv p.1)).1) (zq (rotQ (backQ (tv p.1)) (negQ (av p.2)))):=rfl;rw [e];exact Nat.max_le.2 ⟨by omega,by omega⟩
def movC(l:List Ps)(o:Arc):Nat:=if chkC l [o]≠0 then chkC l [o] else if crV (imgsB l o)=0 then 8 else 0
def movQ(A:List V2)(o:V2):DyQ:=(o,ciV A,sqQ (subQ (pt 0 A) (ciV A)))
end Go.Num
namespace Go.Abs
open Go.Num
variable {P:Program} {Γ:Nat->Spec}
theorem Xc{h h' : Nat->HB}{z:Nat}{b:Bool}{es:List (List C)}(hc:jc es):okB h h' (some ⟨es,z,b⟩) (some ⟨es,z,b⟩):=⟨⟨rfl,rfl⟩,.inl ⟨rfl,hc⟩⟩
def vT(l:List AV)(K:AV->Prop):Prop:=
 match l with
 | [a,b]=>onPs (λl=>onA (λm=>okPs 1000 l/\al m<=10000/\l.length=3/\K (.tup [dA (if crV (imgs l m)=0 then dz else cenR (imgs l m) m),.one (.lit (.int .i64 (if crV (imgs l m)=0 then 8 else 0)))])) b) a
 | _=>False
theorem jW a b K:vT [a,b] K=(onPs (λl=>onA (λm=>okPs 1000 l/\al m<=10000/\l.length=3/\K (.tup [dA (if crV (imgs l m)=0 then dz else cenR (imgs l m) m),.one (.lit (.int .i64 (if crV (imgs l m)=0 then 8 else 0)))])) b) a):=propext Iff.rfl
@[congr] theorem JbM{K}{l l'}(h:l=l'):vT l K=vT l' K:=by subst h;rfl
attribute [go_sem,go_sem ↓] jW
def wP(l:List AV)(K:AV->Prop):Prop:=
 match l with
 | [a,b]=>onPs (λl=>onA (λm=>okPs 1000 l/\al m<=10000/\l.length=3/\K (.tup [dA (if crV (imgsB l m)=0 then dz else movR (imgsB l m) m),.one (.lit (.int .i64 (if crV (imgsB l m)=0 then 8 else 0)))])) b) a
 | _=>False
theorem ZY a b K:wP [a,b] K=(onPs (λl=>onA (λm=>okPs 1000 l/\al m<=10000/\l.length=3/\K (.tup [dA (if crV (imgsB l m)=0 then dz else movR (imgsB l m) m),.one (.lit (.int .i64 (if crV (imgsB l m)=0 then 8 else 0)))])) b) a):=propext Iff.rfl
@[congr] theorem ZbM{K}{l l'}(h:l=l'):wP l K=wP l' K:=by subst h;rfl
attribute [go_sem,go_sem ↓] ZY
def yS(tE:Nat)(l:List AV)(K:AV->Prop):Prop:=
 match l with
 | [a,b]=>onPs (λl=>onA (λm=>okPs 1000 l/\al m<=10000/\K (.tup [dqA (if movC l m=0 then movQ (imgsB l m) (av m) else d0),errV tE (movC l m)])) b) a
 | _=>False
theorem VZ tE a b K:yS tE [a,b] K=(onPs (λl=>onA (λm=>okPs 1000 l/\al m<=10000/\K (.tup [dqA (if movC l m=0 then movQ (imgsB l m) (av m) else d0),errV tE (movC l m)])) b) a):=propext Iff.rfl
@[congr] theorem VbM tE{K}{l l'}(h:l=l'):yS tE l K=yS tE l' K:=by subst h;rfl
attribute [go_sem,go_sem ↓] VZ
def UR(l:List AV)(K:AV->Prop):Prop:=
 match l with
 | [a,b]=>onPs (λl=>onDy (λd=>okPs 1000 l/\dl d<=100000/\l.length<=1000/\K (.one (.lit (.bool (psnB l d))))) b) a
 | _=>False
theorem Y2 a b K:UR [a,b] K=(onPs (λl=>onDy (λd=>okPs 1000 l/\dl d<=100000/\l.length<=1000/\K (.one (.lit (.bool (psnB l d))))) b) a):=propext Iff.rfl
@[congr] theorem XbM{K}{l l'}(h:l=l'):UR l K=UR l' K:=by subst h;rfl
attribute [go_sem,go_sem ↓] Y2
def jav(l:List AV)(K:AV->Prop):Prop:=
 match l with
 | [a]=>onDy (λd=>dl d<=100000/\K (.one (.lit (.bool (dvld d))))) a
 | _=>False
theorem VaA a K:jav [a] K=(onDy (λd=>dl d<=100000/\K (.one (.lit (.bool (dvld d))))) a):=propext Iff.rfl
@[congr] theorem xb4{K}{l l'}(h:l=l'):jav l K=jav l' K:=by subst h;rfl
attribute [go_sem,go_sem ↓] VaA
def uR(l:List AV)(K:AV->Prop):Prop:=
 match l with
 | [a]=>onDy (λd=>dl d<=4294967296/\K (.one (.lit (.bool (sA d.1 && (sA d.2.1 && sR 4 d.2.2)))))) a
 | _=>False
theorem uV a K:uR [a] K=(onDy (λd=>dl d<=4294967296/\K (.one (.lit (.bool (sA d.1 && (sA d.2.1 && sR 4 d.2.2)))))) a):=propext Iff.rfl
@[congr] theorem ybM{K}{l l'}(h:l=l'):uR l K=uR l' K:=by subst h;rfl
attribute [go_sem,go_sem ↓] uV
def vaa(l:List AV)(K:AV->Prop):Prop:=
 match l with
 | [a,b]=>onDy (λd=>onDy (λe=>dl d<=4294967296/\K (.one (.lit (.bool (decide (d=e)))))) b) a
 | _=>False
theorem Vag a b K:vaa [a,b] K=(onDy (λd=>onDy (λe=>dl d<=4294967296/\K (.one (.lit (.bool (decide (d=e)))))) b) a):=propext Iff.rfl
@[congr] theorem vbZ{K}{l l'}(h:l=l'):vaa l K=vaa l' K:=by subst h;rfl
attribute [go_sem,go_sem ↓] Vag
end Go.Abs
end
section
namespace Go.Num
open Go.Abs
end Go.Num
namespace Go.Abs
open Go.Num
variable {P:Program} {Γ:Nat->Spec}
theorem kb9:((2:Nat):Int)=2:=rfl
theorem ubA:((0:Nat):Int)=0:=rfl
def V9(l:List AV)(K:AV->Prop):Prop:=
 match l with
 | [a,b]=>onPs (λl=>onA (λm=>okPs 1048576 l/\al m<=1048576/\K (.one (.lit (.bool true)))) b) a
 | _=>False
theorem Qag a b K:V9 [a,b] K=(onPs (λl=>onA (λm=>okPs 1048576 l/\al m<=1048576/\K (.one (.lit (.bool true)))) b) a):=propext Iff.rfl
@[congr] theorem VbP{K}{l l'}(h:l=l'):V9 l K=V9 l' K:=by subst h;rfl
attribute [go_sem,go_sem ↓] Qag
end Go.Abs
end
section
namespace Go.Num
open Go.Abs
theorem JbT(t:TnQ):cosQ t*cosQ t+sinQ t*sinQ t=1:=by
 unfold cosQ sinQ;by_cases h:t.2=true
 .rw [if_pos h,if_pos h];grind
 .rw [if_neg h,if_neg h];have hd:=jbC t.1;obtain⟨x,hx⟩:∃x,t.1=x:=⟨_,rfl⟩;rw [hx]at hd ⊢;obtain⟨d,hdd⟩:∃d,1+x*x=d:=⟨_,rfl⟩;rw [hdd]at hd ⊢;have e:(1-x*x)*(1-x*x)+(x+x)*(x+x)=d*d:=by grind
  simp only [Rat.div_def];have hi:d*d⁻¹=1:=Rat.mul_inv_cancel d hd;obtain⟨i,hii⟩:∃i,d⁻¹=i:=⟨_,rfl⟩;rw [hii]at hi ⊢;grind
end Go.Num
end
section
namespace Go.Num
open Go.Abs
abbrev P3:=Ps×Ps×Ps
def WL3(t:P3):Prop:=WLP t.1/\WLP t.2.1/\WLP t.2.2
def l3(t:P3):List Ps:=[t.1,t.2.1,t.2.2]
end Go.Num
namespace Go.Abs
open Go.Num
variable {P:Program} {Γ:Nat->Spec}
def p3C(t:P3):List C:=pC t.1++pC t.2.1++pC t.2.2
def p3A(t:P3):AV:=.agg (p3C t)
def onP3(k:P3->Prop)(a:AV):Prop:=onE p3A (λt=>WL3 t/\k t) a
@[congr] theorem qcf{k:P3->Prop}{a a'}(h:a=a'):onP3 k a=onP3 k a':=by subst h;rfl
theorem Wbq(t:P3):Jd (p3C t):=by
 intro c hc;simp only [p3C,List.mem_append]at hc;rcases hc with(hc | hc) | hc
 .exact Ju _ c hc
 .exact Ju _ c hc
 .exact Ju _ c hc
theorem ja7(t:P3):(p3C t).length=30:=by simp [p3C,uh]
theorem uaF(t:P3):(p3C t).drop 0=p3C t:=rfl
theorem xbb(t:P3):(p3C t).take 30=p3C t:=List.take_of_length_le (by rw [ja7];decide)
theorem JbU(t:P3):(p3C t).take 10=pC t.1:=by unfold p3C;rw [List.append_assoc,List.take_left' (uh _)]
theorem xbQ(t:P3):(p3C t).drop 10=pC t.2.1++pC t.2.2:=by unfold p3C;rw [List.append_assoc,List.drop_left' (uh _)]
theorem ubO(t:P3):((p3C t).drop 10).take 10=pC t.2.1:=by rw [xbQ,List.take_left' (uh _)]
theorem ubS(t:P3):(((p3C t).drop 10).drop 10).take 10=pC t.2.2:=by rw [xbQ,List.drop_left' (uh _),List.take_of_length_le (by rw [uh];decide)]
theorem ybv(t:P3)(r:List (List C)):datQ 0 0 (some ⟨p3C t::r,30,true⟩)=.ref (p3C t):=UI [] _ _ _ _ _ ⟨Nat.zero_le _,Wbq t⟩
theorem Ubz(k:List Ps->Prop)(p q r:Ps):onPs k (.one (.slice [pC p,pC q,pC r]))=((∀x∈l3 (p,q,r),WLP x)/\k (l3 (p,q,r))):=JM k (l3 (p,q,r))
theorem ybz(t:P3):p3A t=.agg (p3C t):=eq_of_heq (HEq.refl _)
attribute [go_sem,go_sem ↓] Ubz ja7 uaF xbb JbU ubO ubS ybv ybz
def Qar(l:List AV)(K:AV->Prop):Prop:=
 match l with
 | [a,b]=>onP3 (λt=>onA (λm=>okPs 1048576 (l3 t)/\al m<=1048576/\K (.one (.lit (.bool true)))) b) a
 | _=>False
theorem uaI a b K:Qar [a,b] K=(onP3 (λt=>onA (λm=>okPs 1048576 (l3 t)/\al m<=1048576/\K (.one (.lit (.bool true)))) b) a):=propext Iff.rfl
@[congr] theorem ub3{K}{l l'}(h:l=l'):Qar l K=Qar l' K:=by subst h;rfl
attribute [go_sem,go_sem ↓] uaI
end Go.Abs
end
