/-
  Parts of the proof, merged: PoseF, PoseG, PoseH, PoseJ, PoseQ, PoseL.
-/
import Derived.Test.YtneiiodebbmcaaaGreatDoorM7
set_option linter.unusedVariables false
set_option linter.unusedSimpArgs false
set_option maxRecDepth 100000
section
namespace Go.Num
open Go.Abs
def pt(i:Nat)(A:List V2):V2:=A.getD i (0,0)
def ciV(A:List V2):V2:=ciQ (pt 0 A) (subQ (pt 1 A) (pt 0 A)) (subQ (pt 2 A) (pt 0 A))
def crV(A:List V2):Rat:=crossQ (subQ (pt 1 A) (pt 0 A)) (subQ (pt 2 A) (pt 0 A))
def othV(A:List V2):V2:=if pt 0 A=pt 1 A then pt 2 A else pt 1 A
def lnC(A:List V2):Nat:=if pt 0 A=othV A then 8 else if crV A≠0 then 21 else 0
def lnA(A:List V2):Rat:=if lnC A=0 then (pt 0 A).2-(othV A).2 else 0
def lnB(A:List V2):Rat:=if lnC A=0 then (othV A).1-(pt 0 A).1 else 0
def lnK(A:List V2):Rat:=if lnC A=0 then ((pt 0 A).2-(othV A).2)*(pt 0 A).1+((othV A).1-(pt 0 A).1)*(pt 0 A).2 else 0
abbrev DyQ:=V2×V2×Rat
def dl(d:Dy):Nat:=max (al d.1) (max (al d.2.1) (rl d.2.2))
def dvld(d:Dy):Bool:=avld d.1 && (avld d.2.1 && vldR d.2.2)
def d0:DyQ:=((0,0),(0,0),0)
def cenC(l:List Ps)(m:Arc):Nat:=if chkC l [m]≠0 then chkC l [m] else if crV (imgs l m)=0 then 8 else 0
def cenQ(A:List V2)(m:V2):DyQ:=(ciV A,m,sqQ (subQ (pt 0 A) (ciV A)))
def lineC(l:List Ps)(m:Arc):Nat:=if chkC l [m]≠0 then chkC l [m] else lnC (imgs l m)
def psnC(l:List Ps)(d:Dy):Nat:=if plchk l≠0 then plchk l else if dvld d then 0 else 2
def psnB(l:List Ps)(d:Dy):Bool:=(imgs l d.2.1).all λx=>decide (sqQ (subQ x (av d.1))=rv d.2.2)
theorem jbR{p u v:V2}{b:Nat}(hu:zq u<=b)(hv:zq v<=b):zq (ciQ p u v)<=zq p+14*b+32:=by
 unfold ciQ;split
 .have:zq (0,0)=0:=by unfold zq;rw [rz_0];rfl
  omega
 .have u1:rz u.1<=zq u:=Nat.le_max_left _ _;have u2:rz u.2<=zq u:=Nat.le_max_right _ _;have v1:rz v.1<=zq v:=Nat.le_max_left _ _;have v2:rz v.2<=zq v:=Nat.le_max_right _ _;have p1:rz p.1<=zq p:=Nat.le_max_left _ _;have p2:rz p.2<=zq p:=Nat.le_max_right _ _;have su:=Wbb u;have sv:=Wbb v;have zc:=zZ u v;have zt:=xaR 2;have zt2:zs 2<=2:=J2 (by decide)
  have e2:(((2:Int)):Rat)=2:=rfl;rw [e2]at zt;have md:=Yb 2 (crossQ u v);have m1:=Yb (sqQ u) v.2;have m2:=Yb (sqQ v) u.2;have m3:=Yb (sqQ v) u.1;have m4:=Yb (sqQ u) v.1;have s1:=jp (sqQ u*v.2) (sqQ v*u.2);have s2:=jp (sqQ v*u.1) (sqQ u*v.1);have d1:=VB (sqQ u*v.2-sqQ v*u.2) (2*crossQ u v);have d2:=VB (sqQ v*u.1-sqQ u*v.1) (2*crossQ u v);have a1:=Ql p.1 ((sqQ u*v.2-sqQ v*u.2) / (2*crossQ u v));have a2:=Ql p.2 ((sqQ v*u.1-sqQ u*v.1) / (2*crossQ u v));have g:zq (ctrQ p u v)=max (rz (p.1+(sqQ u*v.2-sqQ v*u.2) / (2*crossQ u v))) (rz (p.2+(sqQ v*u.1-sqQ u*v.1) / (2*crossQ u v))):=rfl;rw [g];exact Nat.max_le.2 ⟨by omega,by omega⟩
theorem Xj{b c:Nat}{l:List Ps}(h:okPs b l)(hb:b<=c):okPs c l:=λp hp=>⟨(h p hp).1,Nat.le_trans (h p hp).2 hb⟩
end Go.Num
namespace Go.Abs
open Go.Num
variable {P:Program} {Γ:Nat->Spec}
def dqA(d:DyQ):AV:=.agg [cb (rcan d.1.1),cn (rcan d.1.1),cd (rcan d.1.1),cb (rcan d.1.2),cn (rcan d.1.2),cd (rcan d.1.2),cb (rcan d.2.1.1),cn (rcan d.2.1.1),cd (rcan d.2.1.1),cb (rcan d.2.1.2),cn (rcan d.2.1.2),cd (rcan d.2.1.2),cb (rcan d.2.2),cn (rcan d.2.2),cd (rcan d.2.2)]
theorem jbh(d:DyQ):dqA d=.agg [cb (rcan d.1.1),cn (rcan d.1.1),cd (rcan d.1.1),cb (rcan d.1.2),cn (rcan d.1.2),cd (rcan d.1.2),cb (rcan d.2.1.1),cn (rcan d.2.1.1),cd (rcan d.2.1.1),cb (rcan d.2.1.2),cn (rcan d.2.1.2),cd (rcan d.2.1.2),cb (rcan d.2.2),cn (rcan d.2.2),cd (rcan d.2.2)]:=eq_of_heq (HEq.refl _)
attribute [go_sem,go_sem ↓] jbh
def Zai(tE:Nat)(l:List AV)(K:AV->Prop):Prop:=
 match l with
 | [a,b]=>onPs (λl=>onA (λm=>okPs 1000 l/\al m<=10000/\K (.tup [rQ (if lineC l m=0 then lnA (imgs l m) else 0),rQ (if lineC l m=0 then lnB (imgs l m) else 0),rQ (if lineC l m=0 then lnK (imgs l m) else 0),errV tE (lineC l m)])) b) a
 | _=>False
theorem Zaz(tE:Nat)(a b:AV)(K:AV->Prop):Zai tE [a,b] K=(onPs (λl=>onA (λm=>okPs 1000 l/\al m<=10000/\K (.tup [rQ (if lineC l m=0 then lnA (imgs l m) else 0),rQ (if lineC l m=0 then lnB (imgs l m) else 0),rQ (if lineC l m=0 then lnK (imgs l m) else 0),errV tE (lineC l m)])) b) a):=propext Iff.rfl
@[congr] theorem kbJ (tE:Nat) {K:AV->Prop} {l l' : List AV} (h:l=l'):Zai tE l K=Zai tE l' K:=by subst h;rfl
attribute [go_sem,go_sem ↓] Zaz
def xah(l:List AV)(K:AV->Prop):Prop:=
 match l with
 | [a,b]=>onPs (λl=>onA (λm=>okPs 1000 l/\al m<=10000/\l.length=3/\K (.tup [rQ (lnA (imgs l m)),rQ (lnB (imgs l m)),rQ (lnK (imgs l m)),.one (.lit (.int .i64 (lnC (imgs l m):Nat)))])) b) a
 | _=>False
theorem Zas(a b:AV)(K:AV->Prop):xah [a,b] K=(onPs (λl=>onA (λm=>okPs 1000 l/\al m<=10000/\l.length=3/\K (.tup [rQ (lnA (imgs l m)),rQ (lnB (imgs l m)),rQ (lnK (imgs l m)),.one (.lit (.int .i64 (lnC (imgs l m):Nat)))])) b) a):=propext Iff.rfl
@[congr] theorem kbL {K:AV->Prop} {l l' : List AV} (h:l=l'):xah l K=xah l' K:=by subst h;rfl
attribute [go_sem,go_sem ↓] Zas
def zM(tE:Nat)(l:List AV)(K:AV->Prop):Prop:=
 match l with
 | [a,b]=>onPs (λl=>onA (λm=>okPs 1000 l/\al m<=10000/\K (.tup [dqA (if cenC l m=0 then cenQ (imgs l m) (av m) else d0),errV tE (cenC l m)])) b) a
 | _=>False
theorem QP(tE:Nat)(a b:AV)(K:AV->Prop):zM tE [a,b] K=(onPs (λl=>onA (λm=>okPs 1000 l/\al m<=10000/\K (.tup [dqA (if cenC l m=0 then cenQ (imgs l m) (av m) else d0),errV tE (cenC l m)])) b) a):=propext Iff.rfl
@[congr] theorem Ybv (tE:Nat) {K:AV->Prop} {l l' : List AV} (h:l=l'):zM tE l K=zM tE l' K:=by subst h;rfl
attribute [go_sem,go_sem ↓] QP
def wJ(tE:Nat)(l:List AV)(K:AV->Prop):Prop:=
 match l with
 | [a,b]=>onPs (λl=>onDy (λd=>okPs 1000 l/\dl d<=100000/\K (.tup [.one (.lit (.bool (decide (psnC l d=0) && psnB l d))),errV tE (psnC l d)])) b) a
 | _=>False
theorem UR(tE:Nat)(a b:AV)(K:AV->Prop):wJ tE [a,b] K=(onPs (λl=>onDy (λd=>okPs 1000 l/\dl d<=100000/\K (.tup [.one (.lit (.bool (decide (psnC l d=0) && psnB l d))),errV tE (psnC l d)])) b) a):=propext Iff.rfl
@[congr] theorem Ubv (tE:Nat) {K:AV->Prop} {l l' : List AV} (h:l=l'):wJ tE l K=wJ tE l' K:=by subst h;rfl
attribute [go_sem,go_sem ↓] UR
end Go.Abs
end
section
namespace Go.Num
open Go.Abs
def exPs:List Ps:=[((rcan 0,false),(rcan 0,rcan 0)),((rcan 0,false),(rcan 2,rcan 0)),((rcan 0,true),(rcan 2,rcan 2))]
def o2:Arc:=(rcan 0,rcan 0)
theorem rz_2:rz 2<=2:=by
 have zt:=xaR 2;have zt2:zs 2<=2:=J2 (by decide)
 have e2:(((2:Int)):Rat)=2:=rfl;rw [e2]at zt;omega
end Go.Num
namespace Go.Abs
open Go.Num
variable {P:Program} {Γ:Nat->Spec}
def Wa7(l:List AV)(K:AV->Prop):Prop:=
 match l with
 | []=>K (psA exPs)
 | _=>False
theorem xaP(K:AV->Prop):Wa7 [] K=(K (psA exPs)):=propext Iff.rfl
@[congr] theorem wbU {K:AV->Prop} {l l' : List AV} (h:l=l'):Wa7 l K=Wa7 l' K:=by subst h;rfl
attribute [go_sem,go_sem ↓] xaP
def Xah(l:List AV)(K:AV->Prop):Prop:=
 match l with
 | []=>K (.one (.lit (.bool true)))
 | _=>False
theorem Xat(K:AV->Prop):Xah [] K=(K (.one (.lit (.bool true)))):=propext Iff.rfl
@[congr] theorem vbN {K:AV->Prop} {l l' : List AV} (h:l=l'):Xah l K=Xah l' K:=by subst h;rfl
attribute [go_sem,go_sem ↓] Xat
def qX(l:List AV)(K:AV->Prop):Prop:=
 match l with
 | [a,b]=>onPs (λl=>onA (λm=>okPs 1048576 l/\al m<=1048576/\K (.one (.lit (.bool true)))) b) a
 | _=>False
theorem Xac(a b:AV)(K:AV->Prop):qX [a,b] K=(onPs (λl=>onA (λm=>okPs 1048576 l/\al m<=1048576/\K (.one (.lit (.bool true)))) b) a):=propext Iff.rfl
@[congr] theorem zbC {K:AV->Prop} {l l' : List AV} (h:l=l'):qX l K=qX l' K:=by subst h;rfl
attribute [go_sem,go_sem ↓] Xac
theorem Ya9{l:List Ps}(hw:∀p∈l,WLP p)(h:l.all sP=true):okPs 2 l:=by
 intro p hp;have hs:=List.all_eq_true.1 h p hp;simp only [sP,Bool.and_eq_true]at hs;exact⟨hw p hp,Nat.max_le.2 ⟨Ubp hs.1,Nat.max_le.2 ⟨Ubp hs.2.1,Ubp hs.2.2⟩⟩⟩
end Go.Abs
end
section
namespace Go.Num
open Go.Abs
instance decAR:DecidableEq (Arc×R):=instDecidableEqProd
instance decDy:DecidableEq Dy:=instDecidableEqProd
def dz:Dy:=(((false,[],[]),(false,[],[])),((false,[],[]),(false,[],[])),(false,[],[]))
def cenR(A:List V2)(m:Arc):Dy:=(acan (ciV A),m,rcan (sqQ (subQ (pt 0 A) (ciV A))))
def movR(A:List V2)(m:Arc):Dy:=(m,acan (ciV A),rcan (sqQ (subQ (pt 0 A) (ciV A))))
def pcan(p:PsQ):Ps:=((rcan p.1.1,p.1.2),acan p.2)
theorem xK(p:PsQ):pv (pcan p)=p:=by unfold pv pcan tv;simp only [yb,Xbd]
def imgsB(l:List Ps)(o:Arc):List V2:=l.map λp=>appQ (invQ (pv p)) (av o)
theorem kak(p:PsQ):WLP (pcan p):=⟨Up _,uJ _⟩
theorem Zbk{p:Ps}{b:Nat}(h:okP b p):okP (10*b+46) (pcan (invQ (pv p))):=by
 refine⟨kak _,?_⟩;obtain⟨h1,h2⟩:=h;have r1:rz (rv p.1.1)<=rl p.1.1:=vg h1.1;have e1:rl p.1.1<=b:=Nat.le_trans (Nat.le_max_left _ _) h2;have e2:al p.2<=b:=Nat.le_trans (Nat.le_max_right _ _) h2;have r2:=QW h1.2;have z:=Zac (backQ (tv p.1)) (negQ (av p.2));have z1:=wau (av p.2);have z2:rz (backQ (tv p.1)).1=rz (rv p.1.1):=Xz _;have e:pl (pcan (invQ (pv p)))=max (rz (backQ (tv p.1)).1) (zq (rotQ (backQ (tv p.1)) (negQ (av p.2)))):=rfl;rw [e];exact Nat.max_le.2 ⟨by omega,by omega⟩
def movC(l:List Ps)(o:Arc):Nat:=if chkC l [o]≠0 then chkC l [o] else if crV (imgsB l o)=0 then 8 else 0
def movQ(A:List V2)(o:V2):DyQ:=(o,ciV A,sqQ (subQ (pt 0 A) (ciV A)))
end Go.Num
namespace Go.Abs
open Go.Num
variable {P:Program} {Γ:Nat->Spec}
def vL(l:List AV)(K:AV->Prop):Prop:=
 match l with
 | [a,b]=>onPs (λl=>onA (λm=>okPs 1000 l/\al m<=10000/\l.length=3/\K (.tup [dA (if crV (imgs l m)=0 then dz else cenR (imgs l m) m),.one (.lit (.int .i64 (if crV (imgs l m)=0 then 8 else 0)))])) b) a
 | _=>False
theorem VS(a b:AV)(K:AV->Prop):vL [a,b] K=(onPs (λl=>onA (λm=>okPs 1000 l/\al m<=10000/\l.length=3/\K (.tup [dA (if crV (imgs l m)=0 then dz else cenR (imgs l m) m),.one (.lit (.int .i64 (if crV (imgs l m)=0 then 8 else 0)))])) b) a):=propext Iff.rfl
@[congr] theorem Xbv {K:AV->Prop} {l l' : List AV} (h:l=l'):vL l K=vL l' K:=by subst h;rfl
attribute [go_sem,go_sem ↓] VS
def vM(l:List AV)(K:AV->Prop):Prop:=
 match l with
 | [a,b]=>onPs (λl=>onA (λm=>okPs 1000 l/\al m<=10000/\l.length=3/\K (.tup [dA (if crV (imgsB l m)=0 then dz else movR (imgsB l m) m),.one (.lit (.int .i64 (if crV (imgsB l m)=0 then 8 else 0)))])) b) a
 | _=>False
theorem qQ(a b:AV)(K:AV->Prop):vM [a,b] K=(onPs (λl=>onA (λm=>okPs 1000 l/\al m<=10000/\l.length=3/\K (.tup [dA (if crV (imgsB l m)=0 then dz else movR (imgsB l m) m),.one (.lit (.int .i64 (if crV (imgsB l m)=0 then 8 else 0)))])) b) a):=propext Iff.rfl
@[congr] theorem wbv {K:AV->Prop} {l l' : List AV} (h:l=l'):vM l K=vM l' K:=by subst h;rfl
attribute [go_sem,go_sem ↓] qQ
def yM(tE:Nat)(l:List AV)(K:AV->Prop):Prop:=
 match l with
 | [a,b]=>onPs (λl=>onA (λm=>okPs 1000 l/\al m<=10000/\K (.tup [dqA (if movC l m=0 then movQ (imgsB l m) (av m) else d0),errV tE (movC l m)])) b) a
 | _=>False
theorem JU(tE:Nat)(a b:AV)(K:AV->Prop):yM tE [a,b] K=(onPs (λl=>onA (λm=>okPs 1000 l/\al m<=10000/\K (.tup [dqA (if movC l m=0 then movQ (imgsB l m) (av m) else d0),errV tE (movC l m)])) b) a):=propext Iff.rfl
@[congr] theorem ybv (tE:Nat) {K:AV->Prop} {l l' : List AV} (h:l=l'):yM tE l K=yM tE l' K:=by subst h;rfl
attribute [go_sem,go_sem ↓] JU
def QL(l:List AV)(K:AV->Prop):Prop:=
 match l with
 | [a,b]=>onPs (λl=>onDy (λd=>okPs 1000 l/\dl d<=100000/\l.length<=1000/\K (.one (.lit (.bool (psnB l d))))) b) a
 | _=>False
theorem uP(a b:AV)(K:AV->Prop):QL [a,b] K=(onPs (λl=>onDy (λd=>okPs 1000 l/\dl d<=100000/\l.length<=1000/\K (.one (.lit (.bool (psnB l d))))) b) a):=propext Iff.rfl
@[congr] theorem Jbw {K:AV->Prop} {l l' : List AV} (h:l=l'):QL l K=QL l' K:=by subst h;rfl
attribute [go_sem,go_sem ↓] uP
def Wag(l:List AV)(K:AV->Prop):Prop:=
 match l with
 | [a]=>onDy (λd=>dl d<=100000/\K (.one (.lit (.bool (dvld d))))) a
 | _=>False
theorem wan(a:AV)(K:AV->Prop):Wag [a] K=(onDy (λd=>dl d<=100000/\K (.one (.lit (.bool (dvld d))))) a):=propext Iff.rfl
@[congr] theorem JbN {K:AV->Prop} {l l' : List AV} (h:l=l'):Wag l K=Wag l' K:=by subst h;rfl
attribute [go_sem,go_sem ↓] wan
def zN(l:List AV)(K:AV->Prop):Prop:=
 match l with
 | [a]=>onDy (λd=>dl d<=4294967296/\K (.one (.lit (.bool (sA d.1 && (sA d.2.1 && sR 4 d.2.2)))))) a
 | _=>False
theorem zS(a:AV)(K:AV->Prop):zN [a] K=(onDy (λd=>dl d<=4294967296/\K (.one (.lit (.bool (sA d.1 && (sA d.2.1 && sR 4 d.2.2)))))) a):=propext Iff.rfl
@[congr] theorem Qbw {K:AV->Prop} {l l' : List AV} (h:l=l'):zN l K=zN l' K:=by subst h;rfl
attribute [go_sem,go_sem ↓] zS
def jW(l:List AV)(K:AV->Prop):Prop:=
 match l with
 | [a,b]=>onDy (λd=>onDy (λe=>dl d<=4294967296/\K (.one (.lit (.bool (decide (d=e)))))) b) a
 | _=>False
theorem Qaf(a b:AV)(K:AV->Prop):jW [a,b] K=(onDy (λd=>onDy (λe=>dl d<=4294967296/\K (.one (.lit (.bool (decide (d=e)))))) b) a):=propext Iff.rfl
@[congr] theorem WbA {K:AV->Prop} {l l' : List AV} (h:l=l'):jW l K=jW l' K:=by subst h;rfl
attribute [go_sem,go_sem ↓] Qaf
end Go.Abs
end
section
namespace Go.Num
open Go.Abs
end Go.Num
namespace Go.Abs
open Go.Num
variable {P:Program} {Γ:Nat->Spec}
def jZ(l:List AV)(K:AV->Prop):Prop:=
 match l with
 | [a,b]=>onPs (λl=>onA (λm=>okPs 1048576 l/\al m<=1048576/\K (.one (.lit (.bool true)))) b) a
 | _=>False
theorem yab(a b:AV)(K:AV->Prop):jZ [a,b] K=(onPs (λl=>onA (λm=>okPs 1048576 l/\al m<=1048576/\K (.one (.lit (.bool true)))) b) a):=propext Iff.rfl
@[congr] theorem kbH {K:AV->Prop} {l l' : List AV} (h:l=l'):jZ l K=jZ l' K:=by subst h;rfl
attribute [go_sem,go_sem ↓] yab
end Go.Abs
end
section
namespace Go.Num
open Go.Abs
theorem qbe(t:TnQ):cosQ t*cosQ t+sinQ t*sinQ t=1:=by
 unfold cosQ sinQ;by_cases h:t.2=true
 .rw [if_pos h,if_pos h];grind
 .rw [if_neg h,if_neg h];have hd:=qa2 t.1;obtain⟨x,hx⟩:∃x,t.1=x:=⟨_,rfl⟩;rw [hx]at hd ⊢;obtain⟨d,hdd⟩:∃d,1+x*x=d:=⟨_,rfl⟩;rw [hdd]at hd ⊢;have e:(1-x*x)*(1-x*x)+(x+x)*(x+x)=d*d:=by grind
  simp only [Rat.div_def];have hi:d*d⁻¹=1:=Rat.mul_inv_cancel d hd;obtain⟨i,hii⟩:∃i,d⁻¹=i:=⟨_,rfl⟩;rw [hii]at hi ⊢;grind
theorem Wbd(t:TnQ):cosQ (backQ t)=cosQ t:=by
 have e:∀x:Rat,-x * -x=x*x:=λx=>by grind
 unfold cosQ backQ;simp only [e]
theorem Ja9(t:TnQ):sinQ (backQ t) = -sinQ t:=by
 unfold sinQ backQ;simp only;split
 .grind
 .have e:-t.1 * -t.1=t.1*t.1:=by grind
  rw [e,Rat.div_def,Rat.div_def];grind
end Go.Num
end
section
namespace Go.Num
open Go.Abs
abbrev P3:=Ps×Ps×Ps
def WL3(t:P3):Prop:=WLP t.1/\WLP t.2.1/\WLP t.2.2
def l3(t:P3):List Ps:=[t.1,t.2.1,t.2.2]
end Go.Num
namespace Go.Abs
open Go.Num
variable {P:Program} {Γ:Nat->Spec}
def p3C(t:P3):List C:=pC t.1++pC t.2.1++pC t.2.2
def p3A(t:P3):AV:=.agg (p3C t)
def onP3(k:P3->Prop)(a:AV):Prop:=onE p3A (λt=>WL3 t/\k t) a
@[congr] theorem ybW {k:P3->Prop} {a a' : AV} (h:a=a'):onP3 k a=onP3 k a':=by subst h;rfl
theorem Ybb(t:P3):CleanL (p3C t):=by
 intro c hc;simp only [p3C,List.mem_append]at hc;rcases hc with(hc | hc) | hc
 .exact uu _ c hc
 .exact uu _ c hc
 .exact uu _ c hc
theorem QaN(t:P3):(p3C t).length=30:=by simp [p3C,xj]
theorem vap(t:P3):(p3C t).drop 0=p3C t:=rfl
theorem Ja1(t:P3):(p3C t).take 30=p3C t:=List.take_of_length_le (by rw [QaN];decide)
theorem Vbx(t:P3):(p3C t).take 10=pC t.1:=by unfold p3C;rw [List.append_assoc,List.take_left' (xj _)]
theorem kbz(t:P3):(p3C t).drop 10=pC t.2.1++pC t.2.2:=by unfold p3C;rw [List.append_assoc,List.drop_left' (xj _)]
theorem Zbx(t:P3):((p3C t).drop 10).take 10=pC t.2.1:=by rw [kbz,List.take_left' (xj _)]
theorem Ybz(t:P3):(((p3C t).drop 10).drop 10).take 10=pC t.2.2:=by rw [kbz,List.drop_left' (xj _),List.take_of_length_le (by rw [xj];decide)]
theorem Jbi(t:P3)(r:List (List C)):datQ 0 0 (some ⟨p3C t::r,30,true⟩)=.ref (p3C t):=QF [] _ _ _ _ _ ⟨Nat.zero_le _,Ybb t⟩
theorem Jbh(k:List Ps->Prop)(p q r:Ps):onPs k (.one (.slice [pC p,pC q,pC r]))=((∀x∈l3 (p,q,r),WLP x)/\k (l3 (p,q,r))):=UL k (l3 (p,q,r))
theorem xbj(t:P3):p3A t=.agg (p3C t):=eq_of_heq (HEq.refl _)
attribute [go_sem,go_sem ↓] Jbh QaN vap Ja1 Vbx Zbx Ybz Jbi xbj
def xak(l:List AV)(K:AV->Prop):Prop:=
 match l with
 | [a,b]=>onP3 (λt=>onA (λm=>okPs 1048576 (l3 t)/\al m<=1048576/\K (.one (.lit (.bool true)))) b) a
 | _=>False
theorem jap(a b:AV)(K:AV->Prop):xak [a,b] K=(onP3 (λt=>onA (λm=>okPs 1048576 (l3 t)/\al m<=1048576/\K (.one (.lit (.bool true)))) b) a):=propext Iff.rfl
@[congr] theorem vbK {K:AV->Prop} {l l' : List AV} (h:l=l'):xak l K=xak l' K:=by subst h;rfl
attribute [go_sem,go_sem ↓] jap
end Go.Abs
end
