/-
  Parts of the proof, merged: PoseF, PoseG, PoseH, PoseI, PoseJ, PoseK.
-/
import Derived.Test.YtkcleifemnineaaGreatM7
set_option linter.unusedVariables false
set_option linter.unusedSimpArgs false
set_option maxRecDepth 100000
section
namespace Go.Num
open Go.Abs
def pt (i:Nat) (A:List V2):V2:=A.getD i (0,0)
def ciV (A:List V2):V2:=ciQ (pt 0 A) (subQ (pt 1 A) (pt 0 A)) (subQ (pt 2 A) (pt 0 A))
def crV (A:List V2):Rat:=crossQ (subQ (pt 1 A) (pt 0 A)) (subQ (pt 2 A) (pt 0 A))
def othV (A:List V2):V2:=if pt 0 A=pt 1 A then pt 2 A else pt 1 A
def lnC (A:List V2):Nat:=if pt 0 A=othV A then 8 else if crV A≠0 then 21 else 0
def lnA (A:List V2):Rat:=if lnC A=0 then (pt 0 A).2-(othV A).2 else 0
def lnB (A:List V2):Rat:=if lnC A=0 then (othV A).1-(pt 0 A).1 else 0
def lnK (A:List V2):Rat:=if lnC A=0 then ((pt 0 A).2-(othV A).2)*(pt 0 A).1+((othV A).1-(pt 0 A).1)*(pt 0 A).2 else 0
abbrev DyQ:=V2×V2×Rat
def dl (d:Dy):Nat:=max (al d.1) (max (al d.2.1) (rl d.2.2))
def dvld (d:Dy):Bool:=avld d.1 && (avld d.2.1 && vldR d.2.2)
def d0:DyQ:=((0,0),(0,0),0)
def cenC (l:List Ps) (m:Arc):Nat:=if chkC l [m]≠0 then chkC l [m] else if crV (imgs l m)=0 then 8 else 0
def cenQ (A:List V2) (m:V2):DyQ:=(ciV A,m,sqQ (subQ (pt 0 A) (ciV A)))
def lineC (l:List Ps) (m:Arc):Nat:=if chkC l [m]≠0 then chkC l [m] else lnC (imgs l m)
def psnC (l:List Ps) (d:Dy):Nat:=if plchk l≠0 then plchk l else if dvld d then 0 else 2
def psnB (l:List Ps) (d:Dy):Bool:=(imgs l d.2.1).all fun x=>decide (sqQ (subQ x (av d.1))=rv d.2.2)
end Go.Num
namespace Go.Abs
open Go.Num
variable {P:Program} {Γ:Nat→Spec}
def dqA (d:DyQ):AV:=.agg [cb (rcan d.1.1),cn (rcan d.1.1),cd (rcan d.1.1),cb (rcan d.1.2),cn (rcan d.1.2),cd (rcan d.1.2),cb (rcan d.2.1.1),cn (rcan d.2.1.1),cd (rcan d.2.1.1),cb (rcan d.2.1.2),cn (rcan d.2.1.2),cd (rcan d.2.1.2),cb (rcan d.2.2),cn (rcan d.2.2),cd (rcan d.2.2)]
theorem ya5 (d:DyQ):dqA d=.agg [cb (rcan d.1.1),cn (rcan d.1.1),cd (rcan d.1.1),cb (rcan d.1.2),cn (rcan d.1.2),cd (rcan d.1.2),cb (rcan d.2.1.1),cn (rcan d.2.1.1),cd (rcan d.2.1.1),cb (rcan d.2.1.2),cn (rcan d.2.1.2),cd (rcan d.2.1.2),cb (rcan d.2.2),cn (rcan d.2.2),cd (rcan d.2.2)]:=eq_of_heq (HEq.refl _)
attribute [go_sem] ya5
attribute [go_sem ↓] ya5
def zac (tE:Nat) (l:List AV) (K:AV→Prop):Prop:=
 match l with
 | [a,b]=>onPs (fun l=>onA (fun m=>okPs 1000 l∧al m≤10000∧K (.tup [rQ (if lineC l m=0 then lnA (imgs l m) else 0),rQ (if lineC l m=0 then lnB (imgs l m) else 0),rQ (if lineC l m=0 then lnK (imgs l m) else 0),errV tE (lineC l m)])) b) a
 | _=>False
theorem yao (tE:Nat) (a b:AV) (K:AV→Prop):zac tE [a,b] K=(onPs (fun l=>onA (fun m=>okPs 1000 l∧al m≤10000∧K (.tup [rQ (if lineC l m=0 then lnA (imgs l m) else 0),rQ (if lineC l m=0 then lnB (imgs l m) else 0),rQ (if lineC l m=0 then lnK (imgs l m) else 0),errV tE (lineC l m)])) b) a):=propext Iff.rfl
@[congr] theorem zbz (tE:Nat) {K:AV→Prop} {l l' : List AV} (h:l=l'):zac tE l K=zac tE l' K:=by subst h;rfl
attribute [go_sem] yao
attribute [go_sem ↓] yao
def Zab (l:List AV) (K:AV→Prop):Prop:=
 match l with
 | [a,b]=>onPs (fun l=>onA (fun m=>okPs 1000 l∧al m≤10000∧l.length=3∧K (.tup [rQ (lnA (imgs l m)),rQ (lnB (imgs l m)),rQ (lnK (imgs l m)),.one (.lit (.int .i64 (lnC (imgs l m):Nat)))])) b) a
 | _=>False
theorem zat (a b:AV) (K:AV→Prop):Zab [a,b] K=(onPs (fun l=>onA (fun m=>okPs 1000 l∧al m≤10000∧l.length=3∧K (.tup [rQ (lnA (imgs l m)),rQ (lnB (imgs l m)),rQ (lnK (imgs l m)),.one (.lit (.int .i64 (lnC (imgs l m):Nat)))])) b) a):=propext Iff.rfl
@[congr] theorem Jbz {K:AV→Prop} {l l' : List AV} (h:l=l'):Zab l K=Zab l' K:=by subst h;rfl
attribute [go_sem] zat
attribute [go_sem ↓] zat
def YH (tE:Nat) (l:List AV) (K:AV→Prop):Prop:=
 match l with
 | [a,b]=>onPs (fun l=>onA (fun m=>okPs 1000 l∧al m≤10000∧K (.tup [dqA (if cenC l m=0 then cenQ (imgs l m) (av m) else d0),errV tE (cenC l m)])) b) a
 | _=>False
theorem JN (tE:Nat) (a b:AV) (K:AV→Prop):YH tE [a,b] K=(onPs (fun l=>onA (fun m=>okPs 1000 l∧al m≤10000∧K (.tup [dqA (if cenC l m=0 then cenQ (imgs l m) (av m) else d0),errV tE (cenC l m)])) b) a):=propext Iff.rfl
@[congr] theorem Wbk (tE:Nat) {K:AV→Prop} {l l' : List AV} (h:l=l'):YH tE l K=YH tE l' K:=by subst h;rfl
attribute [go_sem] JN
attribute [go_sem ↓] JN
def zG (tE:Nat) (l:List AV) (K:AV→Prop):Prop:=
 match l with
 | [a,b]=>onPs (fun l=>onDy (fun d=>okPs 1000 l∧dl d≤100000∧K (.tup [.one (.lit (.bool (decide (psnC l d=0) && psnB l d))),errV tE (psnC l d)])) b) a
 | _=>False
theorem kK (tE:Nat) (a b:AV) (K:AV→Prop):zG tE [a,b] K=(onPs (fun l=>onDy (fun d=>okPs 1000 l∧dl d≤100000∧K (.tup [.one (.lit (.bool (decide (psnC l d=0) && psnB l d))),errV tE (psnC l d)])) b) a):=propext Iff.rfl
@[congr] theorem Vbk (tE:Nat) {K:AV→Prop} {l l' : List AV} (h:l=l'):zG tE l K=zG tE l' K:=by subst h;rfl
attribute [go_sem] kK
attribute [go_sem ↓] kK
theorem Zaf (hΓ:Holds P Γ) {f fp fm fc:Nat} (hp:Γ fp=.dat false jg) (hm:Γ fm=.dat false Yw) (hc' : Γ fc=.dat true Uy) (hc:check P f=some (26,(vr fp fm fc).strip,[.tmp 4])):Sound P f (.dat true Qn):=by
 refine va hc Xaa hΓ (fun args K hcl hfi hG=>?_)
 match args,hG with
 | [a,b],hG=>
  obtain ⟨x,rfl,hx,y,rfl,hy,hl,hl',hK⟩:=hG
  refine ⟨by simp,?_⟩
  simp only [go_sem,vr,hp,hm,hc',hx,hy]
  have n1:=UB hx
  have d1:=zB hx
  have n2:=UB hy
  have d2:=zB hy
  rw [←zaQ]
  exact ⟨by omega,by omega,by omega,by omega,by omega,by omega,hK⟩
end Go.Abs
end
section
namespace Go.Num
open Go.Abs
def exPs:List Ps:=[((rcan 0,false),(rcan 0,rcan 0)),((rcan 0,false),(rcan 2,rcan 0)),((rcan 0,true),(rcan 2,rcan 2))]
def o2:Arc:=(rcan 0,rcan 0)
theorem rz_2:rz 2≤2:=by
 have zt:=Za8 2
 have zt2:zs 2≤2:=WQ (by decide)
 have e2:(((2:Int)):Rat)=2:=rfl
 rw [e2]at zt
 omega
end Go.Num
namespace Go.Abs
open Go.Num
variable {P:Program} {Γ:Nat→Spec}
def vaB (l:List AV) (K:AV→Prop):Prop:=
 match l with
 | []=>K (psA exPs)
 | _=>False
theorem WaN (K:AV→Prop):vaB [] K=(K (psA exPs)):=propext Iff.rfl
@[congr] theorem qbG {K:AV→Prop} {l l' : List AV} (h:l=l'):vaB l K=vaB l' K:=by subst h;rfl
attribute [go_sem] WaN
attribute [go_sem ↓] WaN
def Yae (l:List AV) (K:AV→Prop):Prop:=
 match l with
 | []=>K (.one (.lit (.bool true)))
 | _=>False
theorem yar (K:AV→Prop):Yae [] K=(K (.one (.lit (.bool true)))):=propext Iff.rfl
@[congr] theorem jbz {K:AV→Prop} {l l' : List AV} (h:l=l'):Yae l K=Yae l' K:=by subst h;rfl
attribute [go_sem] yar
attribute [go_sem ↓] yar
def jQ (l:List AV) (K:AV→Prop):Prop:=
 match l with
 | [a,b]=>onPs (fun l=>onA (fun m=>okPs 1048576 l∧al m≤1048576∧K (.one (.lit (.bool true)))) b) a
 | _=>False
theorem ZZ (a b:AV) (K:AV→Prop):jQ [a,b] K=(onPs (fun l=>onA (fun m=>okPs 1048576 l∧al m≤1048576∧K (.one (.lit (.bool true)))) b) a):=propext Iff.rfl
@[congr] theorem Vbm {K:AV→Prop} {l l' : List AV} (h:l=l'):jQ l K=jQ l' K:=by subst h;rfl
attribute [go_sem] ZZ
attribute [go_sem ↓] ZZ
theorem ya3 {l:List Ps} (hw:∀p∈l,WLP p) (h:l.all sP=true):okPs 2 l:=by
 intro p hp
 have hs:=List.all_eq_true.1 h p hp
 simp only [sP,Bool.and_eq_true]at hs
 exact ⟨hw p hp,Nat.max_le.2 ⟨qD hs.1,Nat.max_le.2 ⟨qD hs.2.1,qD hs.2.2⟩⟩⟩
theorem ya0 {m:Arc} (h:sA m=true):al m≤2:=by
 simp only [sA,Bool.and_eq_true]at h
 exact Nat.max_le.2 ⟨qD h.1,qD h.2⟩
end Go.Abs
end
section
namespace Go.Num
open Go.Abs
instance decAR:DecidableEq (Arc×R):=instDecidableEqProd
instance decDy:DecidableEq Dy:=instDecidableEqProd
def dz:Dy:=(((false,[],[]),(false,[],[])),((false,[],[]),(false,[],[])),(false,[],[]))
def cenR (A:List V2) (m:Arc):Dy:=(acan (ciV A),m,rcan (sqQ (subQ (pt 0 A) (ciV A))))
def movR (A:List V2) (m:Arc):Dy:=(m,acan (ciV A),rcan (sqQ (subQ (pt 0 A) (ciV A))))
def imgsB (l:List Ps) (o:Arc):List V2:=l.map fun p=>appQ (invQ (pv p)) (av o)
def movC (l:List Ps) (o:Arc):Nat:=if chkC l [o]≠0 then chkC l [o] else if crV (imgsB l o)=0 then 8 else 0
def movQ (A:List V2) (o:V2):DyQ:=(o,ciV A,sqQ (subQ (pt 0 A) (ciV A)))
end Go.Num
namespace Go.Abs
open Go.Num
variable {P:Program} {Γ:Nat→Spec}
theorem zbF {h h' : Nat→HB} {z:Nat} {b:Bool} {es:List (List C)} (hc:CleanR es):okB h h' (some ⟨es,z,b⟩) (some ⟨es,z,b⟩):=⟨⟨rfl,rfl⟩,.inl ⟨rfl,hc⟩⟩
def uH (l:List AV) (K:AV→Prop):Prop:=
 match l with
 | [a,b]=>onPs (fun l=>onA (fun m=>okPs 1000 l∧al m≤10000∧l.length=3∧K (.tup [dA (if crV (imgs l m)=0 then dz else cenR (imgs l m) m),.one (.lit (.int .i64 (if crV (imgs l m)=0 then 8 else 0)))])) b) a
 | _=>False
theorem kN (a b:AV) (K:AV→Prop):uH [a,b] K=(onPs (fun l=>onA (fun m=>okPs 1000 l∧al m≤10000∧l.length=3∧K (.tup [dA (if crV (imgs l m)=0 then dz else cenR (imgs l m) m),.one (.lit (.int .i64 (if crV (imgs l m)=0 then 8 else 0)))])) b) a):=propext Iff.rfl
@[congr] theorem qbl {K:AV→Prop} {l l' : List AV} (h:l=l'):uH l K=uH l' K:=by subst h;rfl
attribute [go_sem] kN
attribute [go_sem ↓] kN
def qH (l:List AV) (K:AV→Prop):Prop:=
 match l with
 | [a,b]=>onPs (fun l=>onA (fun m=>okPs 1000 l∧al m≤10000∧l.length=3∧K (.tup [dA (if crV (imgsB l m)=0 then dz else movR (imgsB l m) m),.one (.lit (.int .i64 (if crV (imgsB l m)=0 then 8 else 0)))])) b) a
 | _=>False
theorem xK (a b:AV) (K:AV→Prop):qH [a,b] K=(onPs (fun l=>onA (fun m=>okPs 1000 l∧al m≤10000∧l.length=3∧K (.tup [dA (if crV (imgsB l m)=0 then dz else movR (imgsB l m) m),.one (.lit (.int .i64 (if crV (imgsB l m)=0 then 8 else 0)))])) b) a):=propext Iff.rfl
@[congr] theorem Qbl {K:AV→Prop} {l l' : List AV} (h:l=l'):qH l K=qH l' K:=by subst h;rfl
attribute [go_sem] xK
attribute [go_sem ↓] xK
def zJ (tE:Nat) (l:List AV) (K:AV→Prop):Prop:=
 match l with
 | [a,b]=>onPs (fun l=>onA (fun m=>okPs 1000 l∧al m≤10000∧K (.tup [dqA (if movC l m=0 then movQ (imgsB l m) (av m) else d0),errV tE (movC l m)])) b) a
 | _=>False
theorem QL (tE:Nat) (a b:AV) (K:AV→Prop):zJ tE [a,b] K=(onPs (fun l=>onA (fun m=>okPs 1000 l∧al m≤10000∧K (.tup [dqA (if movC l m=0 then movQ (imgsB l m) (av m) else d0),errV tE (movC l m)])) b) a):=propext Iff.rfl
@[congr] theorem Ubk (tE:Nat) {K:AV→Prop} {l l' : List AV} (h:l=l'):zJ tE l K=zJ tE l' K:=by subst h;rfl
attribute [go_sem] QL
attribute [go_sem ↓] QL
def YI (l:List AV) (K:AV→Prop):Prop:=
 match l with
 | [a,b]=>onPs (fun l=>onDy (fun d=>okPs 1000 l∧dl d≤100000∧l.length≤1000∧K (.one (.lit (.bool (psnB l d))))) b) a
 | _=>False
theorem vN (a b:AV) (K:AV→Prop):YI [a,b] K=(onPs (fun l=>onDy (fun d=>okPs 1000 l∧dl d≤100000∧l.length≤1000∧K (.one (.lit (.bool (psnB l d))))) b) a):=propext Iff.rfl
@[congr] theorem ybk {K:AV→Prop} {l l' : List AV} (h:l=l'):YI l K=YI l' K:=by subst h;rfl
attribute [go_sem] vN
attribute [go_sem ↓] vN
def Waf (l:List AV) (K:AV→Prop):Prop:=
 match l with
 | [a]=>onDy (fun d=>dl d≤100000∧K (.one (.lit (.bool (dvld d))))) a
 | _=>False
theorem zar (a:AV) (K:AV→Prop):Waf [a] K=(onDy (fun d=>dl d≤100000∧K (.one (.lit (.bool (dvld d))))) a):=propext Iff.rfl
@[congr] theorem jby {K:AV→Prop} {l l' : List AV} (h:l=l'):Waf l K=Waf l' K:=by subst h;rfl
attribute [go_sem] zar
attribute [go_sem ↓] zar
def wI (l:List AV) (K:AV→Prop):Prop:=
 match l with
 | [a]=>onDy (fun d=>dl d≤4294967296∧K (.one (.lit (.bool (sA d.1 && (sA d.2.1 && sR 4 d.2.2)))))) a
 | _=>False
theorem QM (a:AV) (K:AV→Prop):wI [a] K=(onDy (fun d=>dl d≤4294967296∧K (.one (.lit (.bool (sA d.1 && (sA d.2.1 && sR 4 d.2.2)))))) a):=propext Iff.rfl
@[congr] theorem zbl {K:AV→Prop} {l l' : List AV} (h:l=l'):wI l K=wI l' K:=by subst h;rfl
attribute [go_sem] QM
attribute [go_sem ↓] QM
def xR (l:List AV) (K:AV→Prop):Prop:=
 match l with
 | [a,b]=>onDy (fun d=>onDy (fun e=>dl d≤4294967296∧K (.one (.lit (.bool (decide (d=e)))))) b) a
 | _=>False
theorem uY (a b:AV) (K:AV→Prop):xR [a,b] K=(onDy (fun d=>onDy (fun e=>dl d≤4294967296∧K (.one (.lit (.bool (decide (d=e)))))) b) a):=propext Iff.rfl
@[congr] theorem vbu {K:AV→Prop} {l l' : List AV} (h:l=l'):xR l K=xR l' K:=by subst h;rfl
attribute [go_sem] uY
attribute [go_sem ↓] uY
end Go.Abs
end
section
namespace Go.Num
open Go.Abs
abbrev CpQ:=V2×V2×Rat×Rat×Rat×Rat×Rat
def c0:CpQ:=((0,0),(0,0),0,0,0,0,0)
def timesQ (a b:V2):V2:=(a.1*b.1-a.2*b.2,a.1*b.2+a.2*b.1)
def barQ (a:V2):V2:=(a.1,-a.2)
def lnkC (A B:List V2) (m n:V2):Nat:=if m=n then 8 else if crV A=0 then 8 else if crV B=0 then 8 else if ciV A=ciV B then 8 else 0
def lnkQ (A B:List V2) (m n:V2):CpQ:=(ciV A,ciV B,sqQ (subQ (pt 0 A) (ciV A)),sqQ (subQ n m),sqQ (subQ (pt 0 B) (ciV B)),-(m.1*(subQ n m).1+m.2*(subQ n m).2) / sqQ (subQ n m),(m.1*(subQ n m).2-m.2*(subQ n m).1) / sqQ (subQ n m))
def lkC (l:List Ps) (m n:Arc):Nat:=if chkC l [m,n]≠0 then chkC l [m,n] else lnkC (imgs l m) (imgs l n) (av m) (av n)
end Go.Num
namespace Go.Abs
open Go.Num
variable {P:Program} {Γ:Nat→Spec}
def cqC (c:CpQ):List C:=[cb (rcan c.1.1),cn (rcan c.1.1),cd (rcan c.1.1),cb (rcan c.1.2),cn (rcan c.1.2),cd (rcan c.1.2),cb (rcan c.2.1.1),cn (rcan c.2.1.1),cd (rcan c.2.1.1),cb (rcan c.2.1.2),cn (rcan c.2.1.2),cd (rcan c.2.1.2),cb (rcan c.2.2.1),cn (rcan c.2.2.1),cd (rcan c.2.2.1),cb (rcan c.2.2.2.1),cn (rcan c.2.2.2.1),cd (rcan c.2.2.2.1),cb (rcan c.2.2.2.2.1),cn (rcan c.2.2.2.2.1),cd (rcan c.2.2.2.2.1),cb (rcan c.2.2.2.2.2.1),cn (rcan c.2.2.2.2.2.1),cd (rcan c.2.2.2.2.2.1),cb (rcan c.2.2.2.2.2.2),cn (rcan c.2.2.2.2.2.2),cd (rcan c.2.2.2.2.2.2)]
def cqA (c:CpQ):AV:=.agg (cqC c)
def cl (c:Cp):Nat:=max (al c.1) (max (al c.2.1) (max (rl c.2.2.1) (max (rl c.2.2.2.1) (max (rl c.2.2.2.2.1) (max (rl c.2.2.2.2.2.1) (rl c.2.2.2.2.2.2))))))
def yS (l:List AV) (K:AV→Prop):Prop:=
 match l with
 | [a,b]=>onA (fun p=>onA (fun q=>al p≤100000000∧al q≤100000000∧K (pQ (timesQ (av p) (av q)))) b) a
 | _=>False
theorem UW (a b:AV) (K:AV→Prop):yS [a,b] K=(onA (fun p=>onA (fun q=>al p≤100000000∧al q≤100000000∧K (pQ (timesQ (av p) (av q)))) b) a):=propext Iff.rfl
@[congr] theorem Xbv {K:AV→Prop} {l l' : List AV} (h:l=l'):yS l K=yS l' K:=by subst h;rfl
attribute [go_sem] UW
attribute [go_sem ↓] UW
def zaX (l:List AV) (K:AV→Prop):Prop:=
 match l with
 | [a]=>onA (fun p=>al p≤100000000∧vldR p.1=true∧K (pQ (barQ (av p)))) a
 | _=>False
theorem qaF (a:AV) (K:AV→Prop):zaX [a] K=(onA (fun p=>al p≤100000000∧vldR p.1=true∧K (pQ (barQ (av p)))) a):=propext Iff.rfl
@[congr] theorem ubG {K:AV→Prop} {l l' : List AV} (h:l=l'):zaX l K=zaX l' K:=by subst h;rfl
attribute [go_sem] qaF
attribute [go_sem ↓] qaF
def Wac (tE:Nat) (l:List AV) (K:AV→Prop):Prop:=
 match l with
 | [a,b,c]=>onPs (fun l=>onA (fun m=>onA (fun n=>okPs 1000 l∧al m≤10000∧al n≤10000∧K (.tup [cqA (if lkC l m n=0 then lnkQ (imgs l m) (imgs l n) (av m) (av n) else c0),errV tE (lkC l m n)])) c) b) a
 | _=>False
theorem jan (tE:Nat) (a b c:AV) (K:AV→Prop):Wac tE [a,b,c] K=(onPs (fun l=>onA (fun m=>onA (fun n=>okPs 1000 l∧al m≤10000∧al n≤10000∧K (.tup [cqA (if lkC l m n=0 then lnkQ (imgs l m) (imgs l n) (av m) (av n) else c0),errV tE (lkC l m n)])) c) b) a):=propext Iff.rfl
@[congr] theorem Yby (tE:Nat) {K:AV→Prop} {l l' : List AV} (h:l=l'):Wac tE l K=Wac tE l' K:=by subst h;rfl
attribute [go_sem] jan
attribute [go_sem ↓] jan
def V9 (l:List AV) (K:AV→Prop):Prop:=
 match l with
 | [a,b,c]=>onPs (fun l=>onA (fun m=>onA (fun n=>okPs 1000 l∧al m≤10000∧al n≤10000∧l.length=3∧K (.tup [cqA (if lnkC (imgs l m) (imgs l n) (av m) (av n)=0 then lnkQ (imgs l m) (imgs l n) (av m) (av n) else c0),.one (.lit (.int .i64 (lnkC (imgs l m) (imgs l n) (av m) (av n):Nat)))])) c) b) a
 | _=>False
theorem jah (a b c:AV) (K:AV→Prop):V9 [a,b,c] K=(onPs (fun l=>onA (fun m=>onA (fun n=>okPs 1000 l∧al m≤10000∧al n≤10000∧l.length=3∧K (.tup [cqA (if lnkC (imgs l m) (imgs l n) (av m) (av n)=0 then lnkQ (imgs l m) (imgs l n) (av m) (av n) else c0),.one (.lit (.int .i64 (lnkC (imgs l m) (imgs l n) (av m) (av n):Nat)))])) c) b) a):=propext Iff.rfl
@[congr] theorem XbA {K:AV→Prop} {l l' : List AV} (h:l=l'):V9 l K=V9 l' K:=by subst h;rfl
attribute [go_sem] jah
attribute [go_sem ↓] jah
end Go.Abs
end
section
namespace Go.Num
open Go.Abs
end Go.Num
namespace Go.Abs
open Go.Num
variable {P:Program} {Γ:Nat→Spec}
def wR (l:List AV) (K:AV→Prop):Prop:=
 match l with
 | [a,b]=>onPs (fun l=>onA (fun m=>okPs 1048576 l∧al m≤1048576∧K (.one (.lit (.bool true)))) b) a
 | _=>False
theorem kY (a b:AV) (K:AV→Prop):wR [a,b] K=(onPs (fun l=>onA (fun m=>okPs 1048576 l∧al m≤1048576∧K (.one (.lit (.bool true)))) b) a):=propext Iff.rfl
@[congr] theorem Zbo {K:AV→Prop} {l l' : List AV} (h:l=l'):wR l K=wR l' K:=by subst h;rfl
attribute [go_sem] kY
attribute [go_sem ↓] kY
end Go.Abs
end
section
namespace Go.Num
open Go.Abs
abbrev Cp5:=R×R×R×R×R
instance decC5:DecidableEq Cp5:=fun a b=>decidable_of_iff (a.1=b.1∧a.2.1=b.2.1∧a.2.2.1=b.2.2.1∧a.2.2.2.1=b.2.2.2.1∧a.2.2.2.2=b.2.2.2.2) ⟨fun ⟨h1,h2,h3,h4,h5⟩=>Prod.ext h1 (Prod.ext h2 (Prod.ext h3 (Prod.ext h4 h5))),fun h=>by subst h;exact ⟨rfl,rfl,rfl,rfl,rfl⟩⟩
instance decCp:DecidableEq Cp:=fun a b=>decidable_of_iff (a.1=b.1∧a.2.1=b.2.1∧(a.2.2:Cp5)=b.2.2) ⟨fun ⟨h1,h2,h3⟩=>Prod.ext h1 (Prod.ext h2 h3),fun h=>by subst h;exact ⟨rfl,rfl,rfl⟩⟩
def canC (X:CpQ):Cp:=((rcan X.1.1,rcan X.1.2),(rcan X.2.1.1,rcan X.2.1.2),rcan X.2.2.1,rcan X.2.2.2.1,rcan X.2.2.2.2.1,rcan X.2.2.2.2.2.1,rcan X.2.2.2.2.2.2)
theorem Wam (X:CpQ):cl (canC X)=max (zq X.1) (max (zq X.2.1) (max (rz X.2.2.1) (max (rz X.2.2.2.1) (max (rz X.2.2.2.2.1) (max (rz X.2.2.2.2.2.1) (rz X.2.2.2.2.2.2)))))):=rfl
end Go.Num
namespace Go.Abs
open Go.Num
variable {P:Program} {Γ:Nat→Spec}
def cpC (c:Cp):List C:=[cb c.1.1,cn c.1.1,cd c.1.1,cb c.1.2,cn c.1.2,cd c.1.2,cb c.2.1.1,cn c.2.1.1,cd c.2.1.1,cb c.2.1.2,cn c.2.1.2,cd c.2.1.2,cb c.2.2.1,cn c.2.2.1,cd c.2.2.1,cb c.2.2.2.1,cn c.2.2.2.1,cd c.2.2.2.1,cb c.2.2.2.2.1,cn c.2.2.2.2.1,cd c.2.2.2.2.1,cb c.2.2.2.2.2.1,cn c.2.2.2.2.2.1,cd c.2.2.2.2.2.1,cb c.2.2.2.2.2.2,cn c.2.2.2.2.2.2,cd c.2.2.2.2.2.2]
def cpA (c:Cp):AV:=.agg (cpC c)
theorem XI {x y:R} (h1:cb x=cb y) (h2:cn x=cn y) (h3:cd x=cd y):x=y:=Yo _ _ (by simp only [rA];rw [h1,h2,h3])
theorem ybj (x y:Cp) (h:cpA x=cpA y):x=y:=by
 simp only [cpA,cpC,AV.agg.injEq,List.cons.injEq,and_true]at h
 obtain ⟨a1,a2,a3,b1,b2,b3,c1,c2,c3,d1,d2,d3,e1,e2,e3,f1,f2,f3,g1,g2,g3,h1,h2,h3,i1,i2,i3⟩:=h
 exact Prod.ext (Prod.ext (XI a1 a2 a3) (XI b1 b2 b3)) (Prod.ext (Prod.ext (XI c1 c2 c3) (XI d1 d2 d3)) (Prod.ext (XI e1 e2 e3) (Prod.ext (XI f1 f2 f3) (Prod.ext (XI g1 g2 g3) (Prod.ext (XI h1 h2 h3) (XI i1 i2 i3))))))
def onCp (k:Cp→Prop) (a:AV):Prop:=onE cpA (fun c=>WLC c∧k c) a
@[congr] theorem YbI {k:Cp→Prop} {a a' : AV} (h:a=a'):onCp k a=onCp k a':=by subst h;rfl
theorem jbb (k:Cp→Prop) (a1 a2 a3 b1 b2 b3 c1 c2 c3 d1 d2 d3 e1 e2 e3 f1 f2 f3 g1 g2 g3 h1 h2 h3 i1 i2 i3:C):onCp k (.agg [a1,a2,a3,b1,b2,b3,c1,c2,c3,d1,d2,d3,e1,e2,e3,f1,f2,f3,g1,g2,g3,h1,h2,h3,i1,i2,i3]) =
  onO (fun a=>onO (fun b=>onO (fun c=>onO (fun d=>onO (fun e=>onO (fun f=>onO (fun g=>onO (fun h=>onO (fun i=>WLC ((a,b),(c,d),e,f,g,h,i)∧k ((a,b),(c,d),e,f,g,h,i)) (dR i1 i2 i3)) (dR h1 h2 h3)) (dR g1 g2 g3)) (dR f1 f2 f3)) (dR e1 e2 e3)) (dR d1 d2 d3)) (dR c1 c2 c3)) (dR b1 b2 b3)) (dR a1 a2 a3):=by
 refine propext ⟨fun ⟨t,h,hh⟩=>?_,fun h=>?_⟩
 ·simp only [cpA,cpC,AV.agg.injEq,List.cons.injEq,and_true]at h
  obtain ⟨rfl,rfl,rfl,rfl,rfl,rfl,rfl,rfl,rfl,rfl,rfl,rfl,rfl,rfl,rfl,rfl,rfl,rfl,rfl,rfl,rfl,rfl,rfl,rfl,rfl,rfl,rfl⟩:=h
  simp only [dR_e,kH];exact hh
 ·obtain ⟨a,ha,q1⟩:=Yb.1 h
  obtain ⟨b,hb,q2⟩:=Yb.1 q1
  obtain ⟨c,hc,q3⟩:=Yb.1 q2
  obtain ⟨d,hd,q4⟩:=Yb.1 q3
  obtain ⟨e,he,q5⟩:=Yb.1 q4
  obtain ⟨f,hf,q6⟩:=Yb.1 q5
  obtain ⟨g,hg,q7⟩:=Yb.1 q6
  obtain ⟨hh,hhh,q8⟩:=Yb.1 q7
  obtain ⟨i,hi,q9⟩:=Yb.1 q8
  obtain ⟨rfl,rfl,rfl⟩:=Xb.1 ha
  obtain ⟨rfl,rfl,rfl⟩:=Xb.1 hb
  obtain ⟨rfl,rfl,rfl⟩:=Xb.1 hc
  obtain ⟨rfl,rfl,rfl⟩:=Xb.1 hd
  obtain ⟨rfl,rfl,rfl⟩:=Xb.1 he
  obtain ⟨rfl,rfl,rfl⟩:=Xb.1 hf
  obtain ⟨rfl,rfl,rfl⟩:=Xb.1 hg
  obtain ⟨rfl,rfl,rfl⟩:=Xb.1 hhh
  obtain ⟨rfl,rfl,rfl⟩:=Xb.1 hi
  exact ⟨((a,b),(c,d),e,f,g,hh,i),rfl,q9⟩
theorem ku {β:Type} {T:Cp→(β→Prop)→Prop} (h:∀x,GoodT (T x)) {a:AV}:GoodT fun K=>onCp (fun x=>T x K) a:=
 ZA (e:=cpA) (T:=fun p K=>WLC p∧T p K) ybj fun p=>GoodT.and (c:=WLC p) (T:=T p) fun _=>h p
attribute [go_sem] jbb
attribute [go_sem ↓] jbb
def UP (l:List AV) (K:AV→Prop):Prop:=
 match l with
 | [a,b]=>onCp (fun c=>onCp (fun d=>cl c≤4294967296∧K (.one (.lit (.bool (decide (c=d)))))) b) a
 | _=>False
theorem qZ (a b:AV) (K:AV→Prop):UP [a,b] K=(onCp (fun c=>onCp (fun d=>cl c≤4294967296∧K (.one (.lit (.bool (decide (c=d)))))) b) a):=propext Iff.rfl
@[congr] theorem xbq {K:AV→Prop} {l l' : List AV} (h:l=l'):UP l K=UP l' K:=by subst h;rfl
attribute [go_sem] qZ
attribute [go_sem ↓] qZ
def xz (l:List AV) (K:AV→Prop):Prop:=
 match l with
 | [a,b,c]=>onPs (fun l=>onDy (fun d=>onA (fun n=>okPs 1048576 l∧dl d≤1048576∧al n≤1048576∧K (.one (.lit (.bool true)))) c) b) a
 | _=>False
theorem kE (a b c:AV) (K:AV→Prop):xz [a,b,c] K=(onPs (fun l=>onDy (fun d=>onA (fun n=>okPs 1048576 l∧dl d≤1048576∧al n≤1048576∧K (.one (.lit (.bool true)))) c) b) a):=propext Iff.rfl
@[congr] theorem Ya7 {K:AV→Prop} {l l' : List AV} (h:l=l'):xz l K=xz l' K:=by subst h;rfl
attribute [go_sem] kE
attribute [go_sem ↓] kE
end Go.Abs
end
