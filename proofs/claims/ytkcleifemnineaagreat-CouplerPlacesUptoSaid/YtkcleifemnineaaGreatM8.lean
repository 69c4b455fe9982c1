/-
  Parts of the proof, merged: PoseF, PoseG, PoseH, PoseI, PoseJ, PoseK.
-/
import Derived.Test.YtkcleifemnineaaGreatM7
set_option linter.unusedVariables false
set_option linter.unusedSimpArgs false
set_option maxRecDepth 100000
section
namespace Go.Num
open Go.Abs
def pt (i:Nat) (A:List V2):V2:=A.getD i (0,0)
def ciV (A:List V2):V2:=ciQ (pt 0 A) (subQ (pt 1 A) (pt 0 A)) (subQ (pt 2 A) (pt 0 A))
def crV (A:List V2):Rat:=crossQ (subQ (pt 1 A) (pt 0 A)) (subQ (pt 2 A) (pt 0 A))
def othV (A:List V2):V2:=if pt 0 A=pt 1 A then pt 2 A else pt 1 A
def lnC (A:List V2):Nat:=if pt 0 A=othV A then 8 else if crV A≠0 then 21 else 0
def lnA (A:List V2):Rat:=if lnC A=0 then (pt 0 A).2-(othV A).2 else 0
def lnB (A:List V2):Rat:=if lnC A=0 then (othV A).1-(pt 0 A).1 else 0
def lnK (A:List V2):Rat:=if lnC A=0 then ((pt 0 A).2-(othV A).2)*(pt 0 A).1+((othV A).1-(pt 0 A).1)*(pt 0 A).2 else 0
abbrev DyQ:=V2×V2×Rat
def dl (d:Dy):Nat:=max (al d.1) (max (al d.2.1) (rl d.2.2))
def dvld (d:Dy):Bool:=avld d.1 && (avld d.2.1 && vldR d.2.2)
def d0:DyQ:=((0,0),(0,0),0)
def cenC (l:List Ps) (m:Arc):Nat:=if chkC l [m]≠0 then chkC l [m] else if crV (imgs l m)=0 then 8 else 0
def cenQ (A:List V2) (m:V2):DyQ:=(ciV A,m,sqQ (subQ (pt 0 A) (ciV A)))
def lineC (l:List Ps) (m:Arc):Nat:=if chkC l [m]≠0 then chkC l [m] else lnC (imgs l m)
def psnC (l:List Ps) (d:Dy):Nat:=if plchk l≠0 then plchk l else if dvld d then 0 else 2
def psnB (l:List Ps) (d:Dy):Bool:=(imgs l d.2.1).all fun x=>decide (sqQ (subQ x (av d.1))=rv d.2.2)
end Go.Num
namespace Go.Abs
open Go.Num
variable {P:Program} {Γ:Nat→Spec}
def dqA (d:DyQ):AV:=.agg [cb (rcan d.1.1),cn (rcan d.1.1),cd (rcan d.1.1),cb (rcan d.1.2),cn (rcan d.1.2),cd (rcan d.1.2),cb (rcan d.2.1.1),cn (rcan d.2.1.1),cd (rcan d.2.1.1),cb (rcan d.2.1.2),cn (rcan d.2.1.2),cd (rcan d.2.1.2),cb (rcan d.2.2),cn (rcan d.2.2),cd (rcan d.2.2)]
theorem ua7 (d:DyQ):dqA d=.agg [cb (rcan d.1.1),cn (rcan d.1.1),cd (rcan d.1.1),cb (rcan d.1.2),cn (rcan d.1.2),cd (rcan d.1.2),cb (rcan d.2.1.1),cn (rcan d.2.1.1),cd (rcan d.2.1.1),cb (rcan d.2.1.2),cn (rcan d.2.1.2),cd (rcan d.2.1.2),cb (rcan d.2.2),cn (rcan d.2.2),cd (rcan d.2.2)]:=eq_of_heq (HEq.refl _)
attribute [go_sem] ua7
attribute [go_sem ↓] ua7
def Waf (tE:Nat) (l:List AV) (K:AV→Prop):Prop:=
 match l with
 | [a,b]=>onPs (fun l=>onA (fun m=>okPs 1000 l∧al m≤10000∧K (.tup [rQ (if lineC l m=0 then lnA (imgs l m) else 0),rQ (if lineC l m=0 then lnB (imgs l m) else 0),rQ (if lineC l m=0 then lnK (imgs l m) else 0),errV tE (lineC l m)])) b) a
 | _=>False
theorem qau (tE:Nat) (a b:AV) (K:AV→Prop):Waf tE [a,b] K=(onPs (fun l=>onA (fun m=>okPs 1000 l∧al m≤10000∧K (.tup [rQ (if lineC l m=0 then lnA (imgs l m) else 0),rQ (if lineC l m=0 then lnB (imgs l m) else 0),rQ (if lineC l m=0 then lnK (imgs l m) else 0),errV tE (lineC l m)])) b) a):=propext Iff.rfl
@[congr] theorem wby (tE:Nat) {K:AV→Prop} {l l' : List AV} (h:l=l'):Waf tE l K=Waf tE l' K:=by subst h;rfl
attribute [go_sem] qau
attribute [go_sem ↓] qau
def wad (l:List AV) (K:AV→Prop):Prop:=
 match l with
 | [a,b]=>onPs (fun l=>onA (fun m=>okPs 1000 l∧al m≤10000∧l.length=3∧K (.tup [rQ (lnA (imgs l m)),rQ (lnB (imgs l m)),rQ (lnK (imgs l m)),.one (.lit (.int .i64 (lnC (imgs l m):Nat)))])) b) a
 | _=>False
theorem Qah (a b:AV) (K:AV→Prop):wad [a,b] K=(onPs (fun l=>onA (fun m=>okPs 1000 l∧al m≤10000∧l.length=3∧K (.tup [rQ (lnA (imgs l m)),rQ (lnB (imgs l m)),rQ (lnK (imgs l m)),.one (.lit (.int .i64 (lnC (imgs l m):Nat)))])) b) a):=propext Iff.rfl
@[congr] theorem vbx {K:AV→Prop} {l l' : List AV} (h:l=l'):wad l K=wad l' K:=by subst h;rfl
attribute [go_sem] Qah
attribute [go_sem ↓] Qah
def yI (tE:Nat) (l:List AV) (K:AV→Prop):Prop:=
 match l with
 | [a,b]=>onPs (fun l=>onA (fun m=>okPs 1000 l∧al m≤10000∧K (.tup [dqA (if cenC l m=0 then cenQ (imgs l m) (av m) else d0),errV tE (cenC l m)])) b) a
 | _=>False
theorem VM (tE:Nat) (a b:AV) (K:AV→Prop):yI tE [a,b] K=(onPs (fun l=>onA (fun m=>okPs 1000 l∧al m≤10000∧K (.tup [dqA (if cenC l m=0 then cenQ (imgs l m) (av m) else d0),errV tE (cenC l m)])) b) a):=propext Iff.rfl
@[congr] theorem wbj (tE:Nat) {K:AV→Prop} {l l' : List AV} (h:l=l'):yI tE l K=yI tE l' K:=by subst h;rfl
attribute [go_sem] VM
attribute [go_sem ↓] VM
def JG (tE:Nat) (l:List AV) (K:AV→Prop):Prop:=
 match l with
 | [a,b]=>onPs (fun l=>onDy (fun d=>okPs 1000 l∧dl d≤100000∧K (.tup [.one (.lit (.bool (decide (psnC l d=0) && psnB l d))),errV tE (psnC l d)])) b) a
 | _=>False
theorem kN (tE:Nat) (a b:AV) (K:AV→Prop):JG tE [a,b] K=(onPs (fun l=>onDy (fun d=>okPs 1000 l∧dl d≤100000∧K (.tup [.one (.lit (.bool (decide (psnC l d=0) && psnB l d))),errV tE (psnC l d)])) b) a):=propext Iff.rfl
@[congr] theorem xbj (tE:Nat) {K:AV→Prop} {l l' : List AV} (h:l=l'):JG tE l K=JG tE l' K:=by subst h;rfl
attribute [go_sem] kN
attribute [go_sem ↓] kN
theorem Xaa (hΓ:Holds P Γ) {f fp fm fc:Nat} (hp:Γ fp=.dat false yd) (hm:Γ fm=.dat false Zs) (hc' : Γ fc=.dat true xz) (hc:check P f=some (26,(jr fp fm fc).strip,[.tmp 4])):Sound P f (.dat true Zf):=by
 refine va hc qI hΓ (fun args K hcl hfi hG=>?_)
 match args,hG with
 | [a,b],hG=>
  obtain ⟨x,rfl,hx,y,rfl,hy,hl,hl',hK⟩:=hG
  refine ⟨by simp,?_⟩
  simp only [go_sem,jr,hp,hm,hc',hx,hy]
  have n1:=zy hx
  have d1:=vx hx
  have n2:=zy hy
  have d2:=vx hy
  rw [←uaT]
  exact ⟨by omega,by omega,by omega,by omega,by omega,by omega,hK⟩
end Go.Abs
end
section
namespace Go.Num
open Go.Abs
def exPs:List Ps:=[((rcan 0,false),(rcan 0,rcan 0)),((rcan 0,false),(rcan 2,rcan 0)),((rcan 0,true),(rcan 2,rcan 2))]
def o2:Arc:=(rcan 0,rcan 0)
theorem rz_2:rz 2≤2:=by
 have zt:=za4 2
 have zt2:zs 2≤2:=kU (by decide)
 have e2:(((2:Int)):Rat)=2:=rfl
 rw [e2]at zt
 omega
end Go.Num
namespace Go.Abs
open Go.Num
variable {P:Program} {Γ:Nat→Spec}
def zaK (l:List AV) (K:AV→Prop):Prop:=
 match l with
 | []=>K (psA exPs)
 | _=>False
theorem vaU (K:AV→Prop):zaK [] K=(K (psA exPs)):=propext Iff.rfl
@[congr] theorem jbG {K:AV→Prop} {l l' : List AV} (h:l=l'):zaK l K=zaK l' K:=by subst h;rfl
attribute [go_sem] vaU
attribute [go_sem ↓] vaU
def Qac (l:List AV) (K:AV→Prop):Prop:=
 match l with
 | []=>K (.one (.lit (.bool true)))
 | _=>False
theorem Xaq (K:AV→Prop):Qac [] K=(K (.one (.lit (.bool true)))):=propext Iff.rfl
@[congr] theorem Jbw {K:AV→Prop} {l l' : List AV} (h:l=l'):Qac l K=Qac l' K:=by subst h;rfl
attribute [go_sem] Xaq
attribute [go_sem ↓] Xaq
def xU (l:List AV) (K:AV→Prop):Prop:=
 match l with
 | [a,b]=>onPs (fun l=>onA (fun m=>okPs 1048576 l∧al m≤1048576∧K (.one (.lit (.bool true)))) b) a
 | _=>False
theorem qY (a b:AV) (K:AV→Prop):xU [a,b] K=(onPs (fun l=>onA (fun m=>okPs 1048576 l∧al m≤1048576∧K (.one (.lit (.bool true)))) b) a):=propext Iff.rfl
@[congr] theorem Wbl {K:AV→Prop} {l l' : List AV} (h:l=l'):xU l K=xU l' K:=by subst h;rfl
attribute [go_sem] qY
attribute [go_sem ↓] qY
theorem qat {m:Arc} (h:sA m=true):al m≤2:=by
 simp only [sA,Bool.and_eq_true]at h
 exact Nat.max_le.2 ⟨QI h.1,QI h.2⟩
end Go.Abs
end
section
namespace Go.Num
open Go.Abs
instance decAR:DecidableEq (Arc×R):=instDecidableEqProd
instance decDy:DecidableEq Dy:=instDecidableEqProd
def dz:Dy:=(((false,[],[]),(false,[],[])),((false,[],[]),(false,[],[])),(false,[],[]))
def cenR (A:List V2) (m:Arc):Dy:=(acan (ciV A),m,rcan (sqQ (subQ (pt 0 A) (ciV A))))
def movR (A:List V2) (m:Arc):Dy:=(m,acan (ciV A),rcan (sqQ (subQ (pt 0 A) (ciV A))))
def imgsB (l:List Ps) (o:Arc):List V2:=l.map fun p=>appQ (invQ (pv p)) (av o)
def movC (l:List Ps) (o:Arc):Nat:=if chkC l [o]≠0 then chkC l [o] else if crV (imgsB l o)=0 then 8 else 0
def movQ (A:List V2) (o:V2):DyQ:=(o,ciV A,sqQ (subQ (pt 0 A) (ciV A)))
end Go.Num
namespace Go.Abs
open Go.Num
variable {P:Program} {Γ:Nat→Spec}
theorem ybH {h h' : Nat→HB} {z:Nat} {b:Bool} {es:List (List C)} (hc:CleanR es):okB h h' (some ⟨es,z,b⟩) (some ⟨es,z,b⟩):=⟨⟨rfl,rfl⟩,.inl ⟨rfl,hc⟩⟩
def ZH (l:List AV) (K:AV→Prop):Prop:=
 match l with
 | [a,b]=>onPs (fun l=>onA (fun m=>okPs 1000 l∧al m≤10000∧l.length=3∧K (.tup [dA (if crV (imgs l m)=0 then dz else cenR (imgs l m) m),.one (.lit (.int .i64 (if crV (imgs l m)=0 then 8 else 0)))])) b) a
 | _=>False
theorem vM (a b:AV) (K:AV→Prop):ZH [a,b] K=(onPs (fun l=>onA (fun m=>okPs 1000 l∧al m≤10000∧l.length=3∧K (.tup [dA (if crV (imgs l m)=0 then dz else cenR (imgs l m) m),.one (.lit (.int .i64 (if crV (imgs l m)=0 then 8 else 0)))])) b) a):=propext Iff.rfl
@[congr] theorem Wbj {K:AV→Prop} {l l' : List AV} (h:l=l'):ZH l K=ZH l' K:=by subst h;rfl
attribute [go_sem] vM
attribute [go_sem ↓] vM
def qK (l:List AV) (K:AV→Prop):Prop:=
 match l with
 | [a,b]=>onPs (fun l=>onA (fun m=>okPs 1000 l∧al m≤10000∧l.length=3∧K (.tup [dA (if crV (imgsB l m)=0 then dz else movR (imgsB l m) m),.one (.lit (.int .i64 (if crV (imgsB l m)=0 then 8 else 0)))])) b) a
 | _=>False
theorem ZL (a b:AV) (K:AV→Prop):qK [a,b] K=(onPs (fun l=>onA (fun m=>okPs 1000 l∧al m≤10000∧l.length=3∧K (.tup [dA (if crV (imgsB l m)=0 then dz else movR (imgsB l m) m),.one (.lit (.int .i64 (if crV (imgsB l m)=0 then 8 else 0)))])) b) a):=propext Iff.rfl
@[congr] theorem Xbj {K:AV→Prop} {l l' : List AV} (h:l=l'):qK l K=qK l' K:=by subst h;rfl
attribute [go_sem] ZL
attribute [go_sem ↓] ZL
def kG (tE:Nat) (l:List AV) (K:AV→Prop):Prop:=
 match l with
 | [a,b]=>onPs (fun l=>onA (fun m=>okPs 1000 l∧al m≤10000∧K (.tup [dqA (if movC l m=0 then movQ (imgsB l m) (av m) else d0),errV tE (movC l m)])) b) a
 | _=>False
theorem ZP (tE:Nat) (a b:AV) (K:AV→Prop):kG tE [a,b] K=(onPs (fun l=>onA (fun m=>okPs 1000 l∧al m≤10000∧K (.tup [dqA (if movC l m=0 then movQ (imgsB l m) (av m) else d0),errV tE (movC l m)])) b) a):=propext Iff.rfl
@[congr] theorem jbk (tE:Nat) {K:AV→Prop} {l l' : List AV} (h:l=l'):kG tE l K=kG tE l' K:=by subst h;rfl
attribute [go_sem] ZP
attribute [go_sem ↓] ZP
def JK (l:List AV) (K:AV→Prop):Prop:=
 match l with
 | [a,b]=>onPs (fun l=>onDy (fun d=>okPs 1000 l∧dl d≤100000∧l.length≤1000∧K (.one (.lit (.bool (psnB l d))))) b) a
 | _=>False
theorem JL (a b:AV) (K:AV→Prop):JK [a,b] K=(onPs (fun l=>onDy (fun d=>okPs 1000 l∧dl d≤100000∧l.length≤1000∧K (.one (.lit (.bool (psnB l d))))) b) a):=propext Iff.rfl
@[congr] theorem Ybj {K:AV→Prop} {l l' : List AV} (h:l=l'):JK l K=JK l' K:=by subst h;rfl
attribute [go_sem] JL
attribute [go_sem ↓] JL
def Vae (l:List AV) (K:AV→Prop):Prop:=
 match l with
 | [a]=>onDy (fun d=>dl d≤100000∧K (.one (.lit (.bool (dvld d))))) a
 | _=>False
theorem qan (a:AV) (K:AV→Prop):Vae [a] K=(onDy (fun d=>dl d≤100000∧K (.one (.lit (.bool (dvld d))))) a):=propext Iff.rfl
@[congr] theorem jbw {K:AV→Prop} {l l' : List AV} (h:l=l'):Vae l K=Vae l' K:=by subst h;rfl
attribute [go_sem] qan
attribute [go_sem ↓] qan
def YH (l:List AV) (K:AV→Prop):Prop:=
 match l with
 | [a]=>onDy (fun d=>dl d≤4294967296∧K (.one (.lit (.bool (sA d.1 && (sA d.2.1 && sR 4 d.2.2)))))) a
 | _=>False
theorem QN (a:AV) (K:AV→Prop):YH [a] K=(onDy (fun d=>dl d≤4294967296∧K (.one (.lit (.bool (sA d.1 && (sA d.2.1 && sR 4 d.2.2)))))) a):=propext Iff.rfl
@[congr] theorem zbk {K:AV→Prop} {l l' : List AV} (h:l=l'):YH l K=YH l' K:=by subst h;rfl
attribute [go_sem] QN
attribute [go_sem ↓] QN
def XS (l:List AV) (K:AV→Prop):Prop:=
 match l with
 | [a,b]=>onDy (fun d=>onDy (fun e=>dl d≤4294967296∧K (.one (.lit (.bool (decide (d=e)))))) b) a
 | _=>False
theorem Q6 (a b:AV) (K:AV→Prop):XS [a,b] K=(onDy (fun d=>onDy (fun e=>dl d≤4294967296∧K (.one (.lit (.bool (decide (d=e)))))) b) a):=propext Iff.rfl
@[congr] theorem vbs {K:AV→Prop} {l l' : List AV} (h:l=l'):XS l K=XS l' K:=by subst h;rfl
attribute [go_sem] Q6
attribute [go_sem ↓] Q6
end Go.Abs
end
section
namespace Go.Num
open Go.Abs
abbrev CpQ:=V2×V2×Rat×Rat×Rat×Rat×Rat
def c0:CpQ:=((0,0),(0,0),0,0,0,0,0)
def timesQ (a b:V2):V2:=(a.1*b.1-a.2*b.2,a.1*b.2+a.2*b.1)
def barQ (a:V2):V2:=(a.1,-a.2)
theorem was (a b:V2):zq (timesQ a b)≤2*zq a+2*zq b+6:=by
 have a1:rz a.1≤zq a:=Nat.le_max_left _ _
 have a2:rz a.2≤zq a:=Nat.le_max_right _ _
 have b1:rz b.1≤zq b:=Nat.le_max_left _ _
 have b2:rz b.2≤zq b:=Nat.le_max_right _ _
 have m1:=Ua a.1 b.1
 have m2:=Ua a.2 b.2
 have m3:=Ua a.1 b.2
 have m4:=Ua a.2 b.1
 have s1:=zg (a.1*b.1) (a.2*b.2)
 have s2:=yr (a.1*b.2) (a.2*b.1)
 have e:zq (timesQ a b)=max (rz (a.1*b.1-a.2*b.2)) (rz (a.1*b.2+a.2*b.1)):=rfl
 rw [e]
 exact Nat.max_le.2 ⟨by omega,by omega⟩
theorem ua5 (a:V2):zq (barQ a)=zq a:=by unfold zq barQ;simp only [Uw]
def lnkC (A B:List V2) (m n:V2):Nat:=if m=n then 8 else if crV A=0 then 8 else if crV B=0 then 8 else if ciV A=ciV B then 8 else 0
def lnkQ (A B:List V2) (m n:V2):CpQ:=(ciV A,ciV B,sqQ (subQ (pt 0 A) (ciV A)),sqQ (subQ n m),sqQ (subQ (pt 0 B) (ciV B)),-(m.1*(subQ n m).1+m.2*(subQ n m).2) / sqQ (subQ n m),(m.1*(subQ n m).2-m.2*(subQ n m).1) / sqQ (subQ n m))
def lkC (l:List Ps) (m n:Arc):Nat:=if chkC l [m,n]≠0 then chkC l [m,n] else lnkC (imgs l m) (imgs l n) (av m) (av n)
end Go.Num
namespace Go.Abs
open Go.Num
variable {P:Program} {Γ:Nat→Spec}
def cqC (c:CpQ):List C:=[cb (rcan c.1.1),cn (rcan c.1.1),cd (rcan c.1.1),cb (rcan c.1.2),cn (rcan c.1.2),cd (rcan c.1.2),cb (rcan c.2.1.1),cn (rcan c.2.1.1),cd (rcan c.2.1.1),cb (rcan c.2.1.2),cn (rcan c.2.1.2),cd (rcan c.2.1.2),cb (rcan c.2.2.1),cn (rcan c.2.2.1),cd (rcan c.2.2.1),cb (rcan c.2.2.2.1),cn (rcan c.2.2.2.1),cd (rcan c.2.2.2.1),cb (rcan c.2.2.2.2.1),cn (rcan c.2.2.2.2.1),cd (rcan c.2.2.2.2.1),cb (rcan c.2.2.2.2.2.1),cn (rcan c.2.2.2.2.2.1),cd (rcan c.2.2.2.2.2.1),cb (rcan c.2.2.2.2.2.2),cn (rcan c.2.2.2.2.2.2),cd (rcan c.2.2.2.2.2.2)]
def cqA (c:CpQ):AV:=.agg (cqC c)
def cl (c:Cp):Nat:=max (al c.1) (max (al c.2.1) (max (rl c.2.2.1) (max (rl c.2.2.2.1) (max (rl c.2.2.2.2.1) (max (rl c.2.2.2.2.2.1) (rl c.2.2.2.2.2.2))))))
def Ym (l:List AV) (K:AV→Prop):Prop:=
 match l with
 | [a,b]=>onA (fun p=>onA (fun q=>al p≤100000000∧al q≤100000000∧K (pQ (timesQ (av p) (av q)))) b) a
 | _=>False
theorem jW (a b:AV) (K:AV→Prop):Ym [a,b] K=(onA (fun p=>onA (fun q=>al p≤100000000∧al q≤100000000∧K (pQ (timesQ (av p) (av q)))) b) a):=propext Iff.rfl
@[congr] theorem ybm {K:AV→Prop} {l l' : List AV} (h:l=l'):Ym l K=Ym l' K:=by subst h;rfl
attribute [go_sem] jW
attribute [go_sem ↓] jW
theorem Xad:Good Ym:=Va fun as=>by
 unfold Ym
 split
 ·exact (zj fun _=>(zj fun _=>(.and fun _=>(.and fun _=>(.ret _)))))
 ·exact .of fun K hk=>hk.elim
def qD (l:List AV) (K:AV→Prop):Prop:=
 match l with
 | [a]=>onA (fun p=>al p≤100000000∧vldR p.1=true∧K (pQ (barQ (av p)))) a
 | _=>False
theorem zaS (a:AV) (K:AV→Prop):qD [a] K=(onA (fun p=>al p≤100000000∧vldR p.1=true∧K (pQ (barQ (av p)))) a):=propext Iff.rfl
@[congr] theorem UbG {K:AV→Prop} {l l' : List AV} (h:l=l'):qD l K=qD l' K:=by subst h;rfl
attribute [go_sem] zaS
attribute [go_sem ↓] zaS
theorem UaT:Good qD:=Va fun as=>by
 unfold qD
 split
 ·exact (zj fun _=>(.and fun _=>(.and fun _=>(.ret _))))
 ·exact .of fun K hk=>hk.elim
def Wag (tE:Nat) (l:List AV) (K:AV→Prop):Prop:=
 match l with
 | [a,b,c]=>onPs (fun l=>onA (fun m=>onA (fun n=>okPs 1000 l∧al m≤10000∧al n≤10000∧K (.tup [cqA (if lkC l m n=0 then lnkQ (imgs l m) (imgs l n) (av m) (av n) else c0),errV tE (lkC l m n)])) c) b) a
 | _=>False
theorem uai (tE:Nat) (a b c:AV) (K:AV→Prop):Wag tE [a,b,c] K=(onPs (fun l=>onA (fun m=>onA (fun n=>okPs 1000 l∧al m≤10000∧al n≤10000∧K (.tup [cqA (if lkC l m n=0 then lnkQ (imgs l m) (imgs l n) (av m) (av n) else c0),errV tE (lkC l m n)])) c) b) a):=propext Iff.rfl
@[congr] theorem Ubv (tE:Nat) {K:AV→Prop} {l l' : List AV} (h:l=l'):Wag tE l K=Wag tE l' K:=by subst h;rfl
attribute [go_sem] uai
attribute [go_sem ↓] uai
def Jag (l:List AV) (K:AV→Prop):Prop:=
 match l with
 | [a,b,c]=>onPs (fun l=>onA (fun m=>onA (fun n=>okPs 1000 l∧al m≤10000∧al n≤10000∧l.length=3∧K (.tup [cqA (if lnkC (imgs l m) (imgs l n) (av m) (av n)=0 then lnkQ (imgs l m) (imgs l n) (av m) (av n) else c0),.one (.lit (.int .i64 (lnkC (imgs l m) (imgs l n) (av m) (av n):Nat)))])) c) b) a
 | _=>False
theorem Vas (a b c:AV) (K:AV→Prop):Jag [a,b,c] K=(onPs (fun l=>onA (fun m=>onA (fun n=>okPs 1000 l∧al m≤10000∧al n≤10000∧l.length=3∧K (.tup [cqA (if lnkC (imgs l m) (imgs l n) (av m) (av n)=0 then lnkQ (imgs l m) (imgs l n) (av m) (av n) else c0),.one (.lit (.int .i64 (lnkC (imgs l m) (imgs l n) (av m) (av n):Nat)))])) c) b) a):=propext Iff.rfl
@[congr] theorem vbz {K:AV→Prop} {l l' : List AV} (h:l=l'):Jag l K=Jag l' K:=by subst h;rfl
attribute [go_sem] Vas
attribute [go_sem ↓] Vas
def Qh (f0 f1 f2:Nat):AC:=(.seq (.ops false [.u 2 (.box 6 (.t 0)),.u 3 (.box 6 (.t 1)),.u 4 (.alloc [(.lit (.bool false)),.emp,.emp,(.lit (.bool false)),.emp,.emp])])
 (.fg [2,3,4] (.seq (.ops true [.u 5 (.fa 0 (.t 2)),.u 6 (.ld none 3 true (.t 5)),.u 7 (.fa 0 (.t 3)),.u 8 (.ld none 3 true (.t 7)),.u 9 (.call f0 [(.t 6),(.t 8)]),.u 10 (.fa 3 (.t 2)),.u 11 (.ld none 3 true (.t 10)),.u 12 (.fa 3 (.t 3)),.u 13 (.ld none 3 true (.t 12)),.u 14 (.call f0 [(.t 11),(.t 13)]),.u 15 (.call f1 [(.t 9),(.t 14)]),.u 16 (.fa 0 (.t 2)),.u 17 (.ld none 3 true (.t 16)),.u 18 (.fa 3 (.t 3)),.u 19 (.ld none 3 true (.t 18)),.u 20 (.call f0 [(.t 17),(.t 19)]),.u 21 (.fa 3 (.t 2)),.u 22 (.ld none 3 true (.t 21)),.u 23 (.fa 0 (.t 3)),.u 24 (.ld none 3 true (.t 23)),.u 25 (.call f0 [(.t 22),(.t 24)]),.u 26 (.call f2 [(.t 20),(.t 25)]),.u 27 (.build [.x 3 (.t 15),.x 3 (.t 26)]),.n (.st none 6 (.t 4) (.t 27))])
 .ret)))
def Yj (f0:Nat):AC:=(.seq (.ops false [.u 1 (.box 6 (.t 0)),.u 2 (.alloc [(.lit (.bool false)),.emp,.emp,(.lit (.bool false)),.emp,.emp])])
 (.fg [1,2] (.seq (.ops true [.u 3 (.fa 0 (.t 1)),.u 4 (.ld none 3 true (.t 3)),.u 5 (.fa 3 (.t 1)),.u 6 (.ld none 3 true (.t 5)),.u 7 (.call f0 [(.t 6)]),.u 8 (.build [.x 3 (.t 4),.x 3 (.t 7)]),.n (.st none 6 (.t 2) (.t 8))])
 .ret)))
theorem Y8 (hΓ:Holds P Γ) {f fm fs fa:Nat} (hm:Γ fm=.dat false Xf) (hs:Γ fs=.dat false um) (ha:Γ fa=.dat false xj) (hc:check P f=some (28,(Qh fm fs fa).strip,[.cell 4 6 true])):Sound P f (.dat false Ym):=by
 refine va hc Xad hΓ (fun args K hcl hfi hG=>?_)
 match args,hG with
 | [a,b],hG=>
  obtain ⟨p,rfl,hp,q,rfl,hq,hl,hl',hK⟩:=hG
  refine ⟨by simp,?_⟩
  obtain ⟨l1,l2⟩:=al1 hl
  obtain ⟨l3,l4⟩:=al1 hl'
  have r1:=zc hp.1
  have r2:=zc hp.2
  have r3:=zc hq.1
  have r4:=zc hq.2
  have m1:=Ua (rv p.1) (rv q.1)
  have m2:=Ua (rv p.2) (rv q.2)
  have m3:=Ua (rv p.1) (rv q.2)
  have m4:=Ua (rv p.2) (rv q.1)
  have p1:=hp.1
  have p2:=hp.2
  have q1:=hq.1
  have q2:=hq.2
  have e:timesQ (av p) (av q)=(rv p.1*rv q.1-rv p.2*rv q.2,rv p.1*rv q.2+rv p.2*rv q.1):=rfl
  rw [e]at hK
  simp only [go_sem,Qh,hm,hs,ha,xd]
  repeat (first | (refine And.intro (by omega) ?_) | (refine And.intro (by assumption) ?_) | (refine And.intro rfl ?_) | (refine And.intro ⟨rfl,by omega⟩ ?_) | (refine And.intro ⟨rfl,by omega,by omega⟩ ?_) | (intro _))
  exact hK
theorem qax (hΓ:Holds P Γ) {f fn:Nat} (hn:Γ fn=.dat false Qs) (hc:check P f=some (9,(Yj fn).strip,[.cell 2 6 true])):Sound P f (.dat false qD):=by
 refine va hc UaT hΓ (fun args K hcl hfi hG=>?_)
 match args,hG with
 | [a],hG=>
  obtain ⟨p,rfl,hp,hl,hv,hK⟩:=hG
  refine ⟨by simp,?_⟩
  obtain ⟨l1,l2⟩:=al1 hl
  have p2:=hp.2
  have e:pQ (barQ (av p))=.agg [cb p.1,cn p.1,cd p.1,cb (rcan (-rv p.2)),cn (rcan (-rv p.2)),cd (rcan (-rv p.2))]:=by
   rw [uR]
   have:rcan (barQ (av p)).1=p.1:=Uz hp.1 hv
   rw [this];rfl
  rw [e]at hK
  simp only [go_sem,Yj,hn,xd]
  repeat (first | (refine And.intro (by omega) ?_) | (refine And.intro (by assumption) ?_) | (refine And.intro rfl ?_) | (refine And.intro ⟨rfl,by omega⟩ ?_) | (refine And.intro ⟨rfl,by omega,by omega⟩ ?_) | (intro _))
  exact hK
end Go.Abs
end
section
namespace Go.Num
open Go.Abs
end Go.Num
namespace Go.Abs
open Go.Num
variable {P:Program} {Γ:Nat→Spec}
def wS (l:List AV) (K:AV→Prop):Prop:=
 match l with
 | [a,b]=>onPs (fun l=>onA (fun m=>okPs 1048576 l∧al m≤1048576∧K (.one (.lit (.bool true)))) b) a
 | _=>False
theorem wY (a b:AV) (K:AV→Prop):wS [a,b] K=(onPs (fun l=>onA (fun m=>okPs 1048576 l∧al m≤1048576∧K (.one (.lit (.bool true)))) b) a):=propext Iff.rfl
@[congr] theorem Ybv {K:AV→Prop} {l l' : List AV} (h:l=l'):wS l K=wS l' K:=by subst h;rfl
attribute [go_sem] wY
attribute [go_sem ↓] wY
end Go.Abs
end
section
namespace Go.Num
open Go.Abs
abbrev Cp5:=R×R×R×R×R
instance decC5:DecidableEq Cp5:=fun a b=>decidable_of_iff (a.1=b.1∧a.2.1=b.2.1∧a.2.2.1=b.2.2.1∧a.2.2.2.1=b.2.2.2.1∧a.2.2.2.2=b.2.2.2.2) ⟨fun ⟨h1,h2,h3,h4,h5⟩=>Prod.ext h1 (Prod.ext h2 (Prod.ext h3 (Prod.ext h4 h5))),fun h=>by subst h;exact ⟨rfl,rfl,rfl,rfl,rfl⟩⟩
instance decCp:DecidableEq Cp:=fun a b=>decidable_of_iff (a.1=b.1∧a.2.1=b.2.1∧(a.2.2:Cp5)=b.2.2) ⟨fun ⟨h1,h2,h3⟩=>Prod.ext h1 (Prod.ext h2 h3),fun h=>by subst h;exact ⟨rfl,rfl,rfl⟩⟩
def canC (X:CpQ):Cp:=((rcan X.1.1,rcan X.1.2),(rcan X.2.1.1,rcan X.2.1.2),rcan X.2.2.1,rcan X.2.2.2.1,rcan X.2.2.2.2.1,rcan X.2.2.2.2.2.1,rcan X.2.2.2.2.2.2)
theorem Ubq (X:CpQ):cl (canC X)=max (zq X.1) (max (zq X.2.1) (max (rz X.2.2.1) (max (rz X.2.2.2.1) (max (rz X.2.2.2.2.1) (max (rz X.2.2.2.2.2.1) (rz X.2.2.2.2.2.2)))))):=rfl
end Go.Num
namespace Go.Abs
open Go.Num
variable {P:Program} {Γ:Nat→Spec}
def cpC (c:Cp):List C:=[cb c.1.1,cn c.1.1,cd c.1.1,cb c.1.2,cn c.1.2,cd c.1.2,cb c.2.1.1,cn c.2.1.1,cd c.2.1.1,cb c.2.1.2,cn c.2.1.2,cd c.2.1.2,cb c.2.2.1,cn c.2.2.1,cd c.2.2.1,cb c.2.2.2.1,cn c.2.2.2.1,cd c.2.2.2.1,cb c.2.2.2.2.1,cn c.2.2.2.2.1,cd c.2.2.2.2.1,cb c.2.2.2.2.2.1,cn c.2.2.2.2.2.1,cd c.2.2.2.2.2.1,cb c.2.2.2.2.2.2,cn c.2.2.2.2.2.2,cd c.2.2.2.2.2.2]
def cpA (c:Cp):AV:=.agg (cpC c)
theorem VK {x y:R} (h1:cb x=cb y) (h2:cn x=cn y) (h3:cd x=cd y):x=y:=qs _ _ (by simp only [rA];rw [h1,h2,h3])
theorem YaL (x y:Cp) (h:cpA x=cpA y):x=y:=by
 simp only [cpA,cpC,AV.agg.injEq,List.cons.injEq,and_true]at h
 obtain ⟨a1,a2,a3,b1,b2,b3,c1,c2,c3,d1,d2,d3,e1,e2,e3,f1,f2,f3,g1,g2,g3,h1,h2,h3,i1,i2,i3⟩:=h
 exact Prod.ext (Prod.ext (VK a1 a2 a3) (VK b1 b2 b3)) (Prod.ext (Prod.ext (VK c1 c2 c3) (VK d1 d2 d3)) (Prod.ext (VK e1 e2 e3) (Prod.ext (VK f1 f2 f3) (Prod.ext (VK g1 g2 g3) (Prod.ext (VK h1 h2 h3) (VK i1 i2 i3))))))
def onCp (k:Cp→Prop) (a:AV):Prop:=onE cpA (fun c=>WLC c∧k c) a
@[congr] theorem UbF {k:Cp→Prop} {a a' : AV} (h:a=a'):onCp k a=onCp k a':=by subst h;rfl
theorem Ya7 (k:Cp→Prop) (a1 a2 a3 b1 b2 b3 c1 c2 c3 d1 d2 d3 e1 e2 e3 f1 f2 f3 g1 g2 g3 h1 h2 h3 i1 i2 i3:C):onCp k (.agg [a1,a2,a3,b1,b2,b3,c1,c2,c3,d1,d2,d3,e1,e2,e3,f1,f2,f3,g1,g2,g3,h1,h2,h3,i1,i2,i3]) =
  onO (fun a=>onO (fun b=>onO (fun c=>onO (fun d=>onO (fun e=>onO (fun f=>onO (fun g=>onO (fun h=>onO (fun i=>WLC ((a,b),(c,d),e,f,g,h,i)∧k ((a,b),(c,d),e,f,g,h,i)) (dR i1 i2 i3)) (dR h1 h2 h3)) (dR g1 g2 g3)) (dR f1 f2 f3)) (dR e1 e2 e3)) (dR d1 d2 d3)) (dR c1 c2 c3)) (dR b1 b2 b3)) (dR a1 a2 a3):=by
 refine propext ⟨fun ⟨t,h,hh⟩=>?_,fun h=>?_⟩
 ·simp only [cpA,cpC,AV.agg.injEq,List.cons.injEq,and_true]at h
  obtain ⟨rfl,rfl,rfl,rfl,rfl,rfl,rfl,rfl,rfl,rfl,rfl,rfl,rfl,rfl,rfl,rfl,rfl,rfl,rfl,rfl,rfl,rfl,rfl,rfl,rfl,rfl,rfl⟩:=h
  simp only [dR_e,qH];exact hh
 ·obtain ⟨a,ha,q1⟩:=Wb.1 h
  obtain ⟨b,hb,q2⟩:=Wb.1 q1
  obtain ⟨c,hc,q3⟩:=Wb.1 q2
  obtain ⟨d,hd,q4⟩:=Wb.1 q3
  obtain ⟨e,he,q5⟩:=Wb.1 q4
  obtain ⟨f,hf,q6⟩:=Wb.1 q5
  obtain ⟨g,hg,q7⟩:=Wb.1 q6
  obtain ⟨hh,hhh,q8⟩:=Wb.1 q7
  obtain ⟨i,hi,q9⟩:=Wb.1 q8
  obtain ⟨rfl,rfl,rfl⟩:=yb.1 ha
  obtain ⟨rfl,rfl,rfl⟩:=yb.1 hb
  obtain ⟨rfl,rfl,rfl⟩:=yb.1 hc
  obtain ⟨rfl,rfl,rfl⟩:=yb.1 hd
  obtain ⟨rfl,rfl,rfl⟩:=yb.1 he
  obtain ⟨rfl,rfl,rfl⟩:=yb.1 hf
  obtain ⟨rfl,rfl,rfl⟩:=yb.1 hg
  obtain ⟨rfl,rfl,rfl⟩:=yb.1 hhh
  obtain ⟨rfl,rfl,rfl⟩:=yb.1 hi
  exact ⟨((a,b),(c,d),e,f,g,hh,i),rfl,q9⟩
theorem xl {β:Type} {T:Cp→(β→Prop)→Prop} (h:∀x,GoodT (T x)) {a:AV}:GoodT fun K=>onCp (fun x=>T x K) a:=
 QH (e:=cpA) (T:=fun p K=>WLC p∧T p K) YaL fun p=>GoodT.and (c:=WLC p) (T:=T p) fun _=>h p
attribute [go_sem] Ya7
attribute [go_sem ↓] Ya7
def zS (l:List AV) (K:AV→Prop):Prop:=
 match l with
 | [a,b]=>onCp (fun c=>onCp (fun d=>cl c≤4294967296∧K (.one (.lit (.bool (decide (c=d)))))) b) a
 | _=>False
theorem J6 (a b:AV) (K:AV→Prop):zS [a,b] K=(onCp (fun c=>onCp (fun d=>cl c≤4294967296∧K (.one (.lit (.bool (decide (c=d)))))) b) a):=propext Iff.rfl
@[congr] theorem vbp {K:AV→Prop} {l l' : List AV} (h:l=l'):zS l K=zS l' K:=by subst h;rfl
attribute [go_sem] J6
attribute [go_sem ↓] J6
def jA (l:List AV) (K:AV→Prop):Prop:=
 match l with
 | [a,b,c]=>onPs (fun l=>onDy (fun d=>onA (fun n=>okPs 1048576 l∧dl d≤1048576∧al n≤1048576∧K (.one (.lit (.bool true)))) c) b) a
 | _=>False
theorem XE (a b c:AV) (K:AV→Prop):jA [a,b,c] K=(onPs (fun l=>onDy (fun d=>onA (fun n=>okPs 1048576 l∧dl d≤1048576∧al n≤1048576∧K (.one (.lit (.bool true)))) c) b) a):=propext Iff.rfl
@[congr] theorem wa4 {K:AV→Prop} {l l' : List AV} (h:l=l'):jA l K=jA l' K:=by subst h;rfl
attribute [go_sem] XE
attribute [go_sem ↓] XE
end Go.Abs
end
