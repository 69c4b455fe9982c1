/-
  Parts of the proof, merged: PoseF, PoseG, PoseH, PoseI, PoseJ, PoseK.
-/
import Derived.Test.YtkcleifemnineaaGreatM7
set_option linter.unusedVariables false
set_option linter.unusedSimpArgs false
set_option maxRecDepth 100000
section
namespace Go.Num
open Go.Abs
def pt (i:Nat) (A:List V2):V2:=A.getD i (0,0)
def ciV (A:List V2):V2:=ciQ (pt 0 A) (subQ (pt 1 A) (pt 0 A)) (subQ (pt 2 A) (pt 0 A))
def crV (A:List V2):Rat:=crossQ (subQ (pt 1 A) (pt 0 A)) (subQ (pt 2 A) (pt 0 A))
def othV (A:List V2):V2:=if pt 0 A=pt 1 A then pt 2 A else pt 1 A
def lnC (A:List V2):Nat:=if pt 0 A=othV A then 8 else if crV A≠0 then 21 else 0
def lnA (A:List V2):Rat:=if lnC A=0 then (pt 0 A).2-(othV A).2 else 0
def lnB (A:List V2):Rat:=if lnC A=0 then (othV A).1-(pt 0 A).1 else 0
def lnK (A:List V2):Rat:=if lnC A=0 then ((pt 0 A).2-(othV A).2)*(pt 0 A).1+((othV A).1-(pt 0 A).1)*(pt 0 A).2 else 0
abbrev DyQ:=V2×V2×Rat
def dl (d:Dy):Nat:=max (al d.1) (max (al d.2.1) (rl d.2.2))
def dvld (d:Dy):Bool:=avld d.1 && (avld d.2.1 && vldR d.2.2)
def d0:DyQ:=((0,0),(0,0),0)
def cenC (l:List Ps) (m:Arc):Nat:=if chkC l [m]≠0 then chkC l [m] else if crV (imgs l m)=0 then 8 else 0
def cenQ (A:List V2) (m:V2):DyQ:=(ciV A,m,sqQ (subQ (pt 0 A) (ciV A)))
def lineC (l:List Ps) (m:Arc):Nat:=if chkC l [m]≠0 then chkC l [m] else lnC (imgs l m)
def psnC (l:List Ps) (d:Dy):Nat:=if plchk l≠0 then plchk l else if dvld d then 0 else 2
def psnB (l:List Ps) (d:Dy):Bool:=(imgs l d.2.1).all fun x=>decide (sqQ (subQ x (av d.1))=rv d.2.2)
end Go.Num
namespace Go.Abs
open Go.Num
variable {P:Program} {Γ:Nat→Spec}
def dqA (d:DyQ):AV:=.agg [cb (rcan d.1.1),cn (rcan d.1.1),cd (rcan d.1.1),cb (rcan d.1.2),cn (rcan d.1.2),cd (rcan d.1.2),cb (rcan d.2.1.1),cn (rcan d.2.1.1),cd (rcan d.2.1.1),cb (rcan d.2.1.2),cn (rcan d.2.1.2),cd (rcan d.2.1.2),cb (rcan d.2.2),cn (rcan d.2.2),cd (rcan d.2.2)]
theorem Va8 (d:DyQ):dqA d=.agg [cb (rcan d.1.1),cn (rcan d.1.1),cd (rcan d.1.1),cb (rcan d.1.2),cn (rcan d.1.2),cd (rcan d.1.2),cb (rcan d.2.1.1),cn (rcan d.2.1.1),cd (rcan d.2.1.1),cb (rcan d.2.1.2),cn (rcan d.2.1.2),cd (rcan d.2.1.2),cb (rcan d.2.2),cn (rcan d.2.2),cd (rcan d.2.2)]:=eq_of_heq (HEq.refl _)
attribute [go_sem] Va8
attribute [go_sem ↓] Va8
def Uag (tE:Nat) (l:List AV) (K:AV→Prop):Prop:=
 match l with
 | [a,b]=>onPs (fun l=>onA (fun m=>okPs 1000 l∧al m≤10000∧K (.tup [rQ (if lineC l m=0 then lnA (imgs l m) else 0),rQ (if lineC l m=0 then lnB (imgs l m) else 0),rQ (if lineC l m=0 then lnK (imgs l m) else 0),errV tE (lineC l m)])) b) a
 | _=>False
theorem jan (tE:Nat) (a b:AV) (K:AV→Prop):Uag tE [a,b] K=(onPs (fun l=>onA (fun m=>okPs 1000 l∧al m≤10000∧K (.tup [rQ (if lineC l m=0 then lnA (imgs l m) else 0),rQ (if lineC l m=0 then lnB (imgs l m) else 0),rQ (if lineC l m=0 then lnK (imgs l m) else 0),errV tE (lineC l m)])) b) a):=propext Iff.rfl
@[congr] theorem Ybz (tE:Nat) {K:AV→Prop} {l l' : List AV} (h:l=l'):Uag tE l K=Uag tE l' K:=by subst h;rfl
attribute [go_sem] jan
attribute [go_sem ↓] jan
def Vad (l:List AV) (K:AV→Prop):Prop:=
 match l with
 | [a,b]=>onPs (fun l=>onA (fun m=>okPs 1000 l∧al m≤10000∧l.length=3∧K (.tup [rQ (lnA (imgs l m)),rQ (lnB (imgs l m)),rQ (lnK (imgs l m)),.one (.lit (.int .i64 (lnC (imgs l m):Nat)))])) b) a
 | _=>False
theorem Waw (a b:AV) (K:AV→Prop):Vad [a,b] K=(onPs (fun l=>onA (fun m=>okPs 1000 l∧al m≤10000∧l.length=3∧K (.tup [rQ (lnA (imgs l m)),rQ (lnB (imgs l m)),rQ (lnK (imgs l m)),.one (.lit (.int .i64 (lnC (imgs l m):Nat)))])) b) a):=propext Iff.rfl
@[congr] theorem Qbz {K:AV→Prop} {l l' : List AV} (h:l=l'):Vad l K=Vad l' K:=by subst h;rfl
attribute [go_sem] Waw
attribute [go_sem ↓] Waw
def XI (tE:Nat) (l:List AV) (K:AV→Prop):Prop:=
 match l with
 | [a,b]=>onPs (fun l=>onA (fun m=>okPs 1000 l∧al m≤10000∧K (.tup [dqA (if cenC l m=0 then cenQ (imgs l m) (av m) else d0),errV tE (cenC l m)])) b) a
 | _=>False
theorem XP (tE:Nat) (a b:AV) (K:AV→Prop):XI tE [a,b] K=(onPs (fun l=>onA (fun m=>okPs 1000 l∧al m≤10000∧K (.tup [dqA (if cenC l m=0 then cenQ (imgs l m) (av m) else d0),errV tE (cenC l m)])) b) a):=propext Iff.rfl
@[congr] theorem qbl (tE:Nat) {K:AV→Prop} {l l' : List AV} (h:l=l'):XI tE l K=XI tE l' K:=by subst h;rfl
attribute [go_sem] XP
attribute [go_sem ↓] XP
def yH (tE:Nat) (l:List AV) (K:AV→Prop):Prop:=
 match l with
 | [a,b]=>onPs (fun l=>onDy (fun d=>okPs 1000 l∧dl d≤100000∧K (.tup [.one (.lit (.bool (decide (psnC l d=0) && psnB l d))),errV tE (psnC l d)])) b) a
 | _=>False
theorem ZM (tE:Nat) (a b:AV) (K:AV→Prop):yH tE [a,b] K=(onPs (fun l=>onDy (fun d=>okPs 1000 l∧dl d≤100000∧K (.tup [.one (.lit (.bool (decide (psnC l d=0) && psnB l d))),errV tE (psnC l d)])) b) a):=propext Iff.rfl
@[congr] theorem Jbl (tE:Nat) {K:AV→Prop} {l l' : List AV} (h:l=l'):yH tE l K=yH tE l' K:=by subst h;rfl
attribute [go_sem] ZM
attribute [go_sem ↓] ZM
theorem Wae (hΓ:Holds P Γ) {f fp fm fc:Nat} (hp:Γ fp=.dat false xd) (hm:Γ fm=.dat false js) (hc' : Γ fc=.dat true xA) (hc:check P f=some (26,(Ur fp fm fc).strip,[.tmp 4])):Sound P f (.dat true Qj):=by
 refine va hc QL hΓ (fun args K hcl hfi hG=>?_)
 match args,hG with
 | [a,b],hG=>
  obtain ⟨x,rfl,hx,y,rfl,hy,hl,hl',hK⟩:=hG
  refine ⟨by simp,?_⟩
  simp only [go_sem,Ur,hp,hm,hc',hx,hy]
  have n1:=Xy hx
  have d1:=uy hx
  have n2:=Xy hy
  have d2:=uy hy
  rw [←QaD]
  exact ⟨by omega,by omega,by omega,by omega,by omega,by omega,hK⟩
end Go.Abs
end
section
namespace Go.Num
open Go.Abs
def exPs:List Ps:=[((rcan 0,false),(rcan 0,rcan 0)),((rcan 0,false),(rcan 2,rcan 0)),((rcan 0,true),(rcan 2,rcan 2))]
def o2:Arc:=(rcan 0,rcan 0)
theorem rz_2:rz 2≤2:=by
 have zt:=Xa8 2
 have zt2:zs 2≤2:=yS (by decide)
 have e2:(((2:Int)):Rat)=2:=rfl
 rw [e2]at zt
 omega
end Go.Num
namespace Go.Abs
open Go.Num
variable {P:Program} {Γ:Nat→Spec}
def WaH (l:List AV) (K:AV→Prop):Prop:=
 match l with
 | []=>K (psA exPs)
 | _=>False
theorem YaM (K:AV→Prop):WaH [] K=(K (psA exPs)):=propext Iff.rfl
@[congr] theorem ZbI {K:AV→Prop} {l l' : List AV} (h:l=l'):WaH l K=WaH l' K:=by subst h;rfl
attribute [go_sem] YaM
attribute [go_sem ↓] YaM
def Jag (l:List AV) (K:AV→Prop):Prop:=
 match l with
 | []=>K (.one (.lit (.bool true)))
 | _=>False
theorem wap (K:AV→Prop):Jag [] K=(K (.one (.lit (.bool true)))):=propext Iff.rfl
@[congr] theorem kby {K:AV→Prop} {l l' : List AV} (h:l=l'):Jag l K=Jag l' K:=by subst h;rfl
attribute [go_sem] wap
attribute [go_sem ↓] wap
def UT (l:List AV) (K:AV→Prop):Prop:=
 match l with
 | [a,b]=>onPs (fun l=>onA (fun m=>okPs 1048576 l∧al m≤1048576∧K (.one (.lit (.bool true)))) b) a
 | _=>False
theorem W0 (a b:AV) (K:AV→Prop):UT [a,b] K=(onPs (fun l=>onA (fun m=>okPs 1048576 l∧al m≤1048576∧K (.one (.lit (.bool true)))) b) a):=propext Iff.rfl
@[congr] theorem Ybq {K:AV→Prop} {l l' : List AV} (h:l=l'):UT l K=UT l' K:=by subst h;rfl
attribute [go_sem] W0
attribute [go_sem ↓] W0
theorem Xa3 {l:List Ps} (hw:∀p∈l,WLP p) (h:l.all sP=true):okPs 2 l:=by
 intro p hp
 have hs:=List.all_eq_true.1 h p hp
 simp only [sP,Bool.and_eq_true]at hs
 exact ⟨hw p hp,Nat.max_le.2 ⟨JG hs.1,Nat.max_le.2 ⟨JG hs.2.1,JG hs.2.2⟩⟩⟩
end Go.Abs
end
section
namespace Go.Num
open Go.Abs
instance decAR:DecidableEq (Arc×R):=instDecidableEqProd
instance decDy:DecidableEq Dy:=instDecidableEqProd
def dz:Dy:=(((false,[],[]),(false,[],[])),((false,[],[]),(false,[],[])),(false,[],[]))
def cenR (A:List V2) (m:Arc):Dy:=(acan (ciV A),m,rcan (sqQ (subQ (pt 0 A) (ciV A))))
def movR (A:List V2) (m:Arc):Dy:=(m,acan (ciV A),rcan (sqQ (subQ (pt 0 A) (ciV A))))
def imgsB (l:List Ps) (o:Arc):List V2:=l.map fun p=>appQ (invQ (pv p)) (av o)
def movC (l:List Ps) (o:Arc):Nat:=if chkC l [o]≠0 then chkC l [o] else if crV (imgsB l o)=0 then 8 else 0
def movQ (A:List V2) (o:V2):DyQ:=(o,ciV A,sqQ (subQ (pt 0 A) (ciV A)))
end Go.Num
namespace Go.Abs
open Go.Num
variable {P:Program} {Γ:Nat→Spec}
theorem kbC {h h' : Nat→HB} {z:Nat} {b:Bool} {es:List (List C)} (hc:CleanR es):okB h h' (some ⟨es,z,b⟩) (some ⟨es,z,b⟩):=⟨⟨rfl,rfl⟩,.inl ⟨rfl,hc⟩⟩
def wJ (l:List AV) (K:AV→Prop):Prop:=
 match l with
 | [a,b]=>onPs (fun l=>onA (fun m=>okPs 1000 l∧al m≤10000∧l.length=3∧K (.tup [dA (if crV (imgs l m)=0 then dz else cenR (imgs l m) m),.one (.lit (.int .i64 (if crV (imgs l m)=0 then 8 else 0)))])) b) a
 | _=>False
theorem WN (a b:AV) (K:AV→Prop):wJ [a,b] K=(onPs (fun l=>onA (fun m=>okPs 1000 l∧al m≤10000∧l.length=3∧K (.tup [dA (if crV (imgs l m)=0 then dz else cenR (imgs l m) m),.one (.lit (.int .i64 (if crV (imgs l m)=0 then 8 else 0)))])) b) a):=propext Iff.rfl
@[congr] theorem Qbl {K:AV→Prop} {l l' : List AV} (h:l=l'):wJ l K=wJ l' K:=by subst h;rfl
attribute [go_sem] WN
attribute [go_sem ↓] WN
def JL (l:List AV) (K:AV→Prop):Prop:=
 match l with
 | [a,b]=>onPs (fun l=>onA (fun m=>okPs 1000 l∧al m≤10000∧l.length=3∧K (.tup [dA (if crV (imgsB l m)=0 then dz else movR (imgsB l m) m),.one (.lit (.int .i64 (if crV (imgsB l m)=0 then 8 else 0)))])) b) a
 | _=>False
theorem yQ (a b:AV) (K:AV→Prop):JL [a,b] K=(onPs (fun l=>onA (fun m=>okPs 1000 l∧al m≤10000∧l.length=3∧K (.tup [dA (if crV (imgsB l m)=0 then dz else movR (imgsB l m) m),.one (.lit (.int .i64 (if crV (imgsB l m)=0 then 8 else 0)))])) b) a):=propext Iff.rfl
@[congr] theorem ybl {K:AV→Prop} {l l' : List AV} (h:l=l'):JL l K=JL l' K:=by subst h;rfl
attribute [go_sem] yQ
attribute [go_sem ↓] yQ
def yI (tE:Nat) (l:List AV) (K:AV→Prop):Prop:=
 match l with
 | [a,b]=>onPs (fun l=>onA (fun m=>okPs 1000 l∧al m≤10000∧K (.tup [dqA (if movC l m=0 then movQ (imgsB l m) (av m) else d0),errV tE (movC l m)])) b) a
 | _=>False
theorem vR (tE:Nat) (a b:AV) (K:AV→Prop):yI tE [a,b] K=(onPs (fun l=>onA (fun m=>okPs 1000 l∧al m≤10000∧K (.tup [dqA (if movC l m=0 then movQ (imgsB l m) (av m) else d0),errV tE (movC l m)])) b) a):=propext Iff.rfl
@[congr] theorem vbl (tE:Nat) {K:AV→Prop} {l l' : List AV} (h:l=l'):yI tE l K=yI tE l' K:=by subst h;rfl
attribute [go_sem] vR
attribute [go_sem ↓] vR
def xI (l:List AV) (K:AV→Prop):Prop:=
 match l with
 | [a,b]=>onPs (fun l=>onDy (fun d=>okPs 1000 l∧dl d≤100000∧l.length≤1000∧K (.one (.lit (.bool (psnB l d))))) b) a
 | _=>False
theorem WO (a b:AV) (K:AV→Prop):xI [a,b] K=(onPs (fun l=>onDy (fun d=>okPs 1000 l∧dl d≤100000∧l.length≤1000∧K (.one (.lit (.bool (psnB l d))))) b) a):=propext Iff.rfl
@[congr] theorem Wbl {K:AV→Prop} {l l' : List AV} (h:l=l'):xI l K=xI l' K:=by subst h;rfl
attribute [go_sem] WO
attribute [go_sem ↓] WO
def Uab (l:List AV) (K:AV→Prop):Prop:=
 match l with
 | [a]=>onDy (fun d=>dl d≤100000∧K (.one (.lit (.bool (dvld d))))) a
 | _=>False
theorem Wan (a:AV) (K:AV→Prop):Uab [a] K=(onDy (fun d=>dl d≤100000∧K (.one (.lit (.bool (dvld d))))) a):=propext Iff.rfl
@[congr] theorem jbB {K:AV→Prop} {l l' : List AV} (h:l=l'):Uab l K=Uab l' K:=by subst h;rfl
attribute [go_sem] Wan
attribute [go_sem ↓] Wan
def qL (l:List AV) (K:AV→Prop):Prop:=
 match l with
 | [a]=>onDy (fun d=>dl d≤4294967296∧K (.one (.lit (.bool (sA d.1 && (sA d.2.1 && sR 4 d.2.2)))))) a
 | _=>False
theorem xM (a:AV) (K:AV→Prop):qL [a] K=(onDy (fun d=>dl d≤4294967296∧K (.one (.lit (.bool (sA d.1 && (sA d.2.1 && sR 4 d.2.2)))))) a):=propext Iff.rfl
@[congr] theorem jbl {K:AV→Prop} {l l' : List AV} (h:l=l'):qL l K=qL l' K:=by subst h;rfl
attribute [go_sem] xM
attribute [go_sem ↓] xM
def xT (l:List AV) (K:AV→Prop):Prop:=
 match l with
 | [a,b]=>onDy (fun d=>onDy (fun e=>dl d≤4294967296∧K (.one (.lit (.bool (decide (d=e)))))) b) a
 | _=>False
theorem W1 (a b:AV) (K:AV→Prop):xT [a,b] K=(onDy (fun d=>onDy (fun e=>dl d≤4294967296∧K (.one (.lit (.bool (decide (d=e)))))) b) a):=propext Iff.rfl
@[congr] theorem zbs {K:AV→Prop} {l l' : List AV} (h:l=l'):xT l K=xT l' K:=by subst h;rfl
attribute [go_sem] W1
attribute [go_sem ↓] W1
end Go.Abs
end
section
namespace Go.Num
open Go.Abs
abbrev CpQ:=V2×V2×Rat×Rat×Rat×Rat×Rat
def c0:CpQ:=((0,0),(0,0),0,0,0,0,0)
def timesQ (a b:V2):V2:=(a.1*b.1-a.2*b.2,a.1*b.2+a.2*b.1)
def barQ (a:V2):V2:=(a.1,-a.2)
def lnkC (A B:List V2) (m n:V2):Nat:=if m=n then 8 else if crV A=0 then 8 else if crV B=0 then 8 else if ciV A=ciV B then 8 else 0
def lnkQ (A B:List V2) (m n:V2):CpQ:=(ciV A,ciV B,sqQ (subQ (pt 0 A) (ciV A)),sqQ (subQ n m),sqQ (subQ (pt 0 B) (ciV B)),-(m.1*(subQ n m).1+m.2*(subQ n m).2) / sqQ (subQ n m),(m.1*(subQ n m).2-m.2*(subQ n m).1) / sqQ (subQ n m))
def lkC (l:List Ps) (m n:Arc):Nat:=if chkC l [m,n]≠0 then chkC l [m,n] else lnkC (imgs l m) (imgs l n) (av m) (av n)
end Go.Num
namespace Go.Abs
open Go.Num
variable {P:Program} {Γ:Nat→Spec}
def cqC (c:CpQ):List C:=[cb (rcan c.1.1),cn (rcan c.1.1),cd (rcan c.1.1),cb (rcan c.1.2),cn (rcan c.1.2),cd (rcan c.1.2),cb (rcan c.2.1.1),cn (rcan c.2.1.1),cd (rcan c.2.1.1),cb (rcan c.2.1.2),cn (rcan c.2.1.2),cd (rcan c.2.1.2),cb (rcan c.2.2.1),cn (rcan c.2.2.1),cd (rcan c.2.2.1),cb (rcan c.2.2.2.1),cn (rcan c.2.2.2.1),cd (rcan c.2.2.2.1),cb (rcan c.2.2.2.2.1),cn (rcan c.2.2.2.2.1),cd (rcan c.2.2.2.2.1),cb (rcan c.2.2.2.2.2.1),cn (rcan c.2.2.2.2.2.1),cd (rcan c.2.2.2.2.2.1),cb (rcan c.2.2.2.2.2.2),cn (rcan c.2.2.2.2.2.2),cd (rcan c.2.2.2.2.2.2)]
def cqA (c:CpQ):AV:=.agg (cqC c)
def cl (c:Cp):Nat:=max (al c.1) (max (al c.2.1) (max (rl c.2.2.1) (max (rl c.2.2.2.1) (max (rl c.2.2.2.2.1) (max (rl c.2.2.2.2.2.1) (rl c.2.2.2.2.2.2))))))
def qr (l:List AV) (K:AV→Prop):Prop:=
 match l with
 | [a,b]=>onA (fun p=>onA (fun q=>al p≤100000000∧al q≤100000000∧K (pQ (timesQ (av p) (av q)))) b) a
 | _=>False
theorem XZ (a b:AV) (K:AV→Prop):qr [a,b] K=(onA (fun p=>onA (fun q=>al p≤100000000∧al q≤100000000∧K (pQ (timesQ (av p) (av q)))) b) a):=propext Iff.rfl
@[congr] theorem vbp {K:AV→Prop} {l l' : List AV} (h:l=l'):qr l K=qr l' K:=by subst h;rfl
attribute [go_sem] XZ
attribute [go_sem ↓] XZ
theorem Jae:Good qr:=Va fun as=>by
 unfold qr
 split
 ·exact (Wt fun _=>(Wt fun _=>(.and fun _=>(.and fun _=>(.ret _)))))
 ·exact .of fun K hk=>hk.elim
def vaX (l:List AV) (K:AV→Prop):Prop:=
 match l with
 | [a]=>onA (fun p=>al p≤100000000∧vldR p.1=true∧K (pQ (barQ (av p)))) a
 | _=>False
theorem WaI (a:AV) (K:AV→Prop):vaX [a] K=(onA (fun p=>al p≤100000000∧vldR p.1=true∧K (pQ (barQ (av p)))) a):=propext Iff.rfl
@[congr] theorem xbG {K:AV→Prop} {l l' : List AV} (h:l=l'):vaX l K=vaX l' K:=by subst h;rfl
attribute [go_sem] WaI
attribute [go_sem ↓] WaI
def Jah (tE:Nat) (l:List AV) (K:AV→Prop):Prop:=
 match l with
 | [a,b,c]=>onPs (fun l=>onA (fun m=>onA (fun n=>okPs 1000 l∧al m≤10000∧al n≤10000∧K (.tup [cqA (if lkC l m n=0 then lnkQ (imgs l m) (imgs l n) (av m) (av n) else c0),errV tE (lkC l m n)])) c) b) a
 | _=>False
theorem waw (tE:Nat) (a b c:AV) (K:AV→Prop):Jah tE [a,b,c] K=(onPs (fun l=>onA (fun m=>onA (fun n=>okPs 1000 l∧al m≤10000∧al n≤10000∧K (.tup [cqA (if lkC l m n=0 then lnkQ (imgs l m) (imgs l n) (av m) (av n) else c0),errV tE (lkC l m n)])) c) b) a):=propext Iff.rfl
@[congr] theorem wby (tE:Nat) {K:AV→Prop} {l l' : List AV} (h:l=l'):Jah tE l K=Jah tE l' K:=by subst h;rfl
attribute [go_sem] waw
attribute [go_sem ↓] waw
def vae (l:List AV) (K:AV→Prop):Prop:=
 match l with
 | [a,b,c]=>onPs (fun l=>onA (fun m=>onA (fun n=>okPs 1000 l∧al m≤10000∧al n≤10000∧l.length=3∧K (.tup [cqA (if lnkC (imgs l m) (imgs l n) (av m) (av n)=0 then lnkQ (imgs l m) (imgs l n) (av m) (av n) else c0),.one (.lit (.int .i64 (lnkC (imgs l m) (imgs l n) (av m) (av n):Nat)))])) c) b) a
 | _=>False
theorem kan (a b c:AV) (K:AV→Prop):vae [a,b,c] K=(onPs (fun l=>onA (fun m=>onA (fun n=>okPs 1000 l∧al m≤10000∧al n≤10000∧l.length=3∧K (.tup [cqA (if lnkC (imgs l m) (imgs l n) (av m) (av n)=0 then lnkQ (imgs l m) (imgs l n) (av m) (av n) else c0),.one (.lit (.int .i64 (lnkC (imgs l m) (imgs l n) (av m) (av n):Nat)))])) c) b) a):=propext Iff.rfl
@[congr] theorem jby {K:AV→Prop} {l l' : List AV} (h:l=l'):vae l K=vae l' K:=by subst h;rfl
attribute [go_sem] kan
attribute [go_sem ↓] kan
def ug (f0 f1 f2:Nat):AC:=(.seq (.ops false [.u 2 (.box 6 (.t 0)),.u 3 (.box 6 (.t 1)),.u 4 (.alloc [(.lit (.bool false)),.emp,.emp,(.lit (.bool false)),.emp,.emp])])
 (.fg [2,3,4] (.seq (.ops true [.u 5 (.fa 0 (.t 2)),.u 6 (.ld none 3 true (.t 5)),.u 7 (.fa 0 (.t 3)),.u 8 (.ld none 3 true (.t 7)),.u 9 (.call f0 [(.t 6),(.t 8)]),.u 10 (.fa 3 (.t 2)),.u 11 (.ld none 3 true (.t 10)),.u 12 (.fa 3 (.t 3)),.u 13 (.ld none 3 true (.t 12)),.u 14 (.call f0 [(.t 11),(.t 13)]),.u 15 (.call f1 [(.t 9),(.t 14)]),.u 16 (.fa 0 (.t 2)),.u 17 (.ld none 3 true (.t 16)),.u 18 (.fa 3 (.t 3)),.u 19 (.ld none 3 true (.t 18)),.u 20 (.call f0 [(.t 17),(.t 19)]),.u 21 (.fa 3 (.t 2)),.u 22 (.ld none 3 true (.t 21)),.u 23 (.fa 0 (.t 3)),.u 24 (.ld none 3 true (.t 23)),.u 25 (.call f0 [(.t 22),(.t 24)]),.u 26 (.call f2 [(.t 20),(.t 25)]),.u 27 (.build [.x 3 (.t 15),.x 3 (.t 26)]),.n (.st none 6 (.t 4) (.t 27))])
 .ret)))
theorem J5 (hΓ:Holds P Γ) {f fm fs fa:Nat} (hm:Γ fm=.dat false Ue) (hs:Γ fs=.dat false Xm) (ha:Γ fa=.dat false Wj) (hc:check P f=some (28,(ug fm fs fa).strip,[.cell 4 6 true])):Sound P f (.dat false qr):=by
 refine va hc Jae hΓ (fun args K hcl hfi hG=>?_)
 match args,hG with
 | [a,b],hG=>
  obtain ⟨p,rfl,hp,q,rfl,hq,hl,hl',hK⟩:=hG
  refine ⟨by simp,?_⟩
  obtain ⟨l1,l2⟩:=al1 hl
  obtain ⟨l3,l4⟩:=al1 hl'
  have r1:=vc hp.1
  have r2:=vc hp.2
  have r3:=vc hq.1
  have r4:=vc hq.2
  have m1:=qb (rv p.1) (rv q.1)
  have m2:=qb (rv p.2) (rv q.2)
  have m3:=qb (rv p.1) (rv q.2)
  have m4:=qb (rv p.2) (rv q.1)
  have p1:=hp.1
  have p2:=hp.2
  have q1:=hq.1
  have q2:=hq.2
  have e:timesQ (av p) (av q)=(rv p.1*rv q.1-rv p.2*rv q.2,rv p.1*rv q.2+rv p.2*rv q.1):=rfl
  rw [e]at hK
  simp only [go_sem,ug,hm,hs,ha,yl]
  repeat (first | (refine And.intro (by omega) ?_) | (refine And.intro (by assumption) ?_) | (refine And.intro rfl ?_) | (refine And.intro ⟨rfl,by omega⟩ ?_) | (refine And.intro ⟨rfl,by omega,by omega⟩ ?_) | (intro _))
  exact hK
end Go.Abs
end
section
namespace Go.Num
open Go.Abs
end Go.Num
namespace Go.Abs
open Go.Num
variable {P:Program} {Γ:Nat→Spec}
def zU (l:List AV) (K:AV→Prop):Prop:=
 match l with
 | [a,b]=>onPs (fun l=>onA (fun m=>okPs 1048576 l∧al m≤1048576∧K (.one (.lit (.bool true)))) b) a
 | _=>False
theorem J1 (a b:AV) (K:AV→Prop):zU [a,b] K=(onPs (fun l=>onA (fun m=>okPs 1048576 l∧al m≤1048576∧K (.one (.lit (.bool true)))) b) a):=propext Iff.rfl
@[congr] theorem Ubr {K:AV→Prop} {l l' : List AV} (h:l=l'):zU l K=zU l' K:=by subst h;rfl
attribute [go_sem] J1
attribute [go_sem ↓] J1
end Go.Abs
end
section
namespace Go.Num
open Go.Abs
abbrev Cp5:=R×R×R×R×R
instance decC5:DecidableEq Cp5:=fun a b=>decidable_of_iff (a.1=b.1∧a.2.1=b.2.1∧a.2.2.1=b.2.2.1∧a.2.2.2.1=b.2.2.2.1∧a.2.2.2.2=b.2.2.2.2) ⟨fun ⟨h1,h2,h3,h4,h5⟩=>Prod.ext h1 (Prod.ext h2 (Prod.ext h3 (Prod.ext h4 h5))),fun h=>by subst h;exact ⟨rfl,rfl,rfl,rfl,rfl⟩⟩
instance decCp:DecidableEq Cp:=fun a b=>decidable_of_iff (a.1=b.1∧a.2.1=b.2.1∧(a.2.2:Cp5)=b.2.2) ⟨fun ⟨h1,h2,h3⟩=>Prod.ext h1 (Prod.ext h2 h3),fun h=>by subst h;exact ⟨rfl,rfl,rfl⟩⟩
def canC (X:CpQ):Cp:=((rcan X.1.1,rcan X.1.2),(rcan X.2.1.1,rcan X.2.1.2),rcan X.2.2.1,rcan X.2.2.2.1,rcan X.2.2.2.2.1,rcan X.2.2.2.2.2.1,rcan X.2.2.2.2.2.2)
theorem kas (X:CpQ):cl (canC X)=max (zq X.1) (max (zq X.2.1) (max (rz X.2.2.1) (max (rz X.2.2.2.1) (max (rz X.2.2.2.2.1) (max (rz X.2.2.2.2.2.1) (rz X.2.2.2.2.2.2)))))):=rfl
end Go.Num
namespace Go.Abs
open Go.Num
variable {P:Program} {Γ:Nat→Spec}
def cpC (c:Cp):List C:=[cb c.1.1,cn c.1.1,cd c.1.1,cb c.1.2,cn c.1.2,cd c.1.2,cb c.2.1.1,cn c.2.1.1,cd c.2.1.1,cb c.2.1.2,cn c.2.1.2,cd c.2.1.2,cb c.2.2.1,cn c.2.2.1,cd c.2.2.1,cb c.2.2.2.1,cn c.2.2.2.1,cd c.2.2.2.1,cb c.2.2.2.2.1,cn c.2.2.2.2.1,cd c.2.2.2.2.1,cb c.2.2.2.2.2.1,cn c.2.2.2.2.2.1,cd c.2.2.2.2.2.1,cb c.2.2.2.2.2.2,cn c.2.2.2.2.2.2,cd c.2.2.2.2.2.2]
def cpA (c:Cp):AV:=.agg (cpC c)
theorem wL {x y:R} (h1:cb x=cb y) (h2:cn x=cn y) (h3:cd x=cd y):x=y:=Yq _ _ (by simp only [rA];rw [h1,h2,h3])
theorem zbj (x y:Cp) (h:cpA x=cpA y):x=y:=by
 simp only [cpA,cpC,AV.agg.injEq,List.cons.injEq,and_true]at h
 obtain ⟨a1,a2,a3,b1,b2,b3,c1,c2,c3,d1,d2,d3,e1,e2,e3,f1,f2,f3,g1,g2,g3,h1,h2,h3,i1,i2,i3⟩:=h
 exact Prod.ext (Prod.ext (wL a1 a2 a3) (wL b1 b2 b3)) (Prod.ext (Prod.ext (wL c1 c2 c3) (wL d1 d2 d3)) (Prod.ext (wL e1 e2 e3) (Prod.ext (wL f1 f2 f3) (Prod.ext (wL g1 g2 g3) (Prod.ext (wL h1 h2 h3) (wL i1 i2 i3))))))
def onCp (k:Cp→Prop) (a:AV):Prop:=onE cpA (fun c=>WLC c∧k c) a
@[congr] theorem ubH {k:Cp→Prop} {a a' : AV} (h:a=a'):onCp k a=onCp k a':=by subst h;rfl
theorem ja5 (k:Cp→Prop) (a1 a2 a3 b1 b2 b3 c1 c2 c3 d1 d2 d3 e1 e2 e3 f1 f2 f3 g1 g2 g3 h1 h2 h3 i1 i2 i3:C):onCp k (.agg [a1,a2,a3,b1,b2,b3,c1,c2,c3,d1,d2,d3,e1,e2,e3,f1,f2,f3,g1,g2,g3,h1,h2,h3,i1,i2,i3]) =
  onO (fun a=>onO (fun b=>onO (fun c=>onO (fun d=>onO (fun e=>onO (fun f=>onO (fun g=>onO (fun h=>onO (fun i=>WLC ((a,b),(c,d),e,f,g,h,i)∧k ((a,b),(c,d),e,f,g,h,i)) (dR i1 i2 i3)) (dR h1 h2 h3)) (dR g1 g2 g3)) (dR f1 f2 f3)) (dR e1 e2 e3)) (dR d1 d2 d3)) (dR c1 c2 c3)) (dR b1 b2 b3)) (dR a1 a2 a3):=by
 refine propext ⟨fun ⟨t,h,hh⟩=>?_,fun h=>?_⟩
 ·simp only [cpA,cpC,AV.agg.injEq,List.cons.injEq,and_true]at h
  obtain ⟨rfl,rfl,rfl,rfl,rfl,rfl,rfl,rfl,rfl,rfl,rfl,rfl,rfl,rfl,rfl,rfl,rfl,rfl,rfl,rfl,rfl,rfl,rfl,rfl,rfl,rfl,rfl⟩:=h
  simp only [dR_e,kK];exact hh
 ·obtain ⟨a,ha,q1⟩:=Xb.1 h
  obtain ⟨b,hb,q2⟩:=Xb.1 q1
  obtain ⟨c,hc,q3⟩:=Xb.1 q2
  obtain ⟨d,hd,q4⟩:=Xb.1 q3
  obtain ⟨e,he,q5⟩:=Xb.1 q4
  obtain ⟨f,hf,q6⟩:=Xb.1 q5
  obtain ⟨g,hg,q7⟩:=Xb.1 q6
  obtain ⟨hh,hhh,q8⟩:=Xb.1 q7
  obtain ⟨i,hi,q9⟩:=Xb.1 q8
  obtain ⟨rfl,rfl,rfl⟩:=ub.1 ha
  obtain ⟨rfl,rfl,rfl⟩:=ub.1 hb
  obtain ⟨rfl,rfl,rfl⟩:=ub.1 hc
  obtain ⟨rfl,rfl,rfl⟩:=ub.1 hd
  obtain ⟨rfl,rfl,rfl⟩:=ub.1 he
  obtain ⟨rfl,rfl,rfl⟩:=ub.1 hf
  obtain ⟨rfl,rfl,rfl⟩:=ub.1 hg
  obtain ⟨rfl,rfl,rfl⟩:=ub.1 hhh
  obtain ⟨rfl,rfl,rfl⟩:=ub.1 hi
  exact ⟨((a,b),(c,d),e,f,g,hh,i),rfl,q9⟩
theorem kn {β:Type} {T:Cp→(β→Prop)→Prop} (h:∀x,GoodT (T x)) {a:AV}:GoodT fun K=>onCp (fun x=>T x K) a:=
 ZA (e:=cpA) (T:=fun p K=>WLC p∧T p K) zbj fun p=>GoodT.and (c:=WLC p) (T:=T p) fun _=>h p
attribute [go_sem] ja5
attribute [go_sem ↓] ja5
def Yr (l:List AV) (K:AV→Prop):Prop:=
 match l with
 | [a,b]=>onCp (fun c=>onCp (fun d=>cl c≤4294967296∧K (.one (.lit (.bool (decide (c=d)))))) b) a
 | _=>False
theorem Q7 (a b:AV) (K:AV→Prop):Yr [a,b] K=(onCp (fun c=>onCp (fun d=>cl c≤4294967296∧K (.one (.lit (.bool (decide (c=d)))))) b) a):=propext Iff.rfl
@[congr] theorem zbq {K:AV→Prop} {l l' : List AV} (h:l=l'):Yr l K=Yr l' K:=by subst h;rfl
attribute [go_sem] Q7
attribute [go_sem ↓] Q7
theorem zaf:Good Yr:=Va fun as=>by
 unfold Yr
 split
 ·exact (kn fun _=>(kn fun _=>(.and fun _=>(.ret _))))
 ·exact .of fun K hk=>hk.elim
def yB (l:List AV) (K:AV→Prop):Prop:=
 match l with
 | [a,b,c]=>onPs (fun l=>onDy (fun d=>onA (fun n=>okPs 1048576 l∧dl d≤1048576∧al n≤1048576∧K (.one (.lit (.bool true)))) c) b) a
 | _=>False
theorem XF (a b c:AV) (K:AV→Prop):yB [a,b,c] K=(onPs (fun l=>onDy (fun d=>onA (fun n=>okPs 1048576 l∧dl d≤1048576∧al n≤1048576∧K (.one (.lit (.bool true)))) c) b) a):=propext Iff.rfl
@[congr] theorem Xa5 {K:AV→Prop} {l l' : List AV} (h:l=l'):yB l K=yB l' K:=by subst h;rfl
attribute [go_sem] XF
attribute [go_sem ↓] XF
def uc (f0 f1:Nat):AC:=(.seq (.ops false [.u 2 (.box 27 (.t 0)),.u 3 (.box 27 (.t 1)),.m 4 .fa])
 (.fg [2,3] (.seq (.ops false [.u 5 (.fa 0 (.t 2)),.u 6 (.ld none 6 true (.t 5)),.u 7 (.fa 0 (.t 3)),.u 8 (.ld none 6 true (.t 7)),.u 9 (.call f0 [(.t 6),(.t 8)]),.m 10 (.t 9),.w 11 10 true (.fa 6 (.t 2)),.w 12 10 true (.ld none 6 true (.t 11)),.w 13 10 true (.fa 6 (.t 3)),.w 14 10 true (.ld none 6 true (.t 13)),.w 15 10 true (.call f0 [(.t 12),(.t 14)]),.u 16 (.pick (.t 10) (.t 15) .fa),.m 17 (.t 16),.w 18 17 true (.fa 12 (.t 2)),.w 19 17 true (.ld none 3 true (.t 18)),.w 20 17 true (.fa 15 (.t 2)),.w 21 17 true (.ld none 3 true (.t 20)),.w 22 17 true (.fa 18 (.t 2)),.w 23 17 true (.ld none 3 true (.t 22)),.w 24 17 true (.fa 21 (.t 2)),.w 25 17 true (.ld none 3 true (.t 24)),.w 26 17 true (.fa 24 (.t 2)),.w 27 17 true (.ld none 3 true (.t 26)),.w 28 17 true (.row 3 [[.x 3 (.t 19)],[.x 3 (.t 21)],[.x 3 (.t 23)],[.x 3 (.t 25)],[.x 3 (.t 27)]]),.w 29 17 true (.fa 12 (.t 3)),.w 30 17 true (.ld none 3 true (.t 29)),.w 31 17 true (.fa 15 (.t 3)),.w 32 17 true (.ld none 3 true (.t 31)),.w 33 17 true (.fa 18 (.t 3)),.w 34 17 true (.ld none 3 true (.t 33)),.w 35 17 true (.fa 21 (.t 3)),.w 36 17 true (.ld none 3 true (.t 35)),.w 37 17 true (.fa 24 (.t 3)),.w 38 17 true (.ld none 3 true (.t 37)),.w 39 17 true (.row 3 [[.x 3 (.t 30)],[.x 3 (.t 32)],[.x 3 (.t 34)],[.x 3 (.t 36)],[.x 3 (.t 38)]]),.w 40 17 true (.call f1 [(.t 28),(.t 39)]),.u 41 (.pick (.t 17) (.t 40) .fa),.m 4 (.t 41)])
 .ret)))
theorem WX (hΓ:Holds P Γ) {f fs fr:Nat} (hs:Γ fs=.dat true Qv) (hr:Γ fr=.dat true Zx) (hc:check P f=some (42,(uc fs fr).strip,[.tmp 4])):Sound P f (.dat true Yr):=by
 refine va hc zaf hΓ (fun args K hcl hfi hG=>?_)
 match args,hG with
 | [a,b],hG=>
  obtain ⟨⟨o,q,x1,x2,x3,x4,x5⟩,rfl,⟨wo,wq,w1,w2,w3,w4,w5⟩,⟨o',q',y1,y2,y3,y4,y5⟩,rfl,⟨wo',wq',v1,v2,v3,v4,v5⟩,hl,hK⟩:=hG
  refine ⟨by simp,?_⟩
  unfold cl at hl
  simp only [Nat.max_le]at hl
  obtain ⟨l1,l2,l3,l4,l5,l6,l7⟩:=hl
  simp only at wo wq w1 w2 w3 w4 w5 wo' wq' v1 v2 v3 v4 v5
  have hr5:okRs 4294967296 [x1,x2,x3,x4,x5]:=fun x hx=>by
   simp only [List.mem_cons,List.not_mem_nil,or_false]at hx
   rcases hx with rfl | rfl | rfl | rfl | rfl
   ·exact ⟨w1,l3⟩
   ·exact ⟨w2,l4⟩
   ·exact ⟨w3,l5⟩
   ·exact ⟨w4,l6⟩
   ·exact ⟨w5,l7⟩
  have e:decide ((o,q,x1,x2,x3,x4,x5)=(o',q',y1,y2,y3,y4,y5))=(decide (o=o') && (decide (q=q') && decide ([x1,x2,x3,x4,x5]=[y1,y2,y3,y4,y5]))):=by
   rw [←Bool.decide_and,←Bool.decide_and,decide_eq_decide];simp only [Prod.mk.injEq,List.cons.injEq,and_true]
  rw [e]at hK
  cases h1:decide (o=o') with
  | false=>
   rw [h1]at hK
   simp only [go_sem,uc,hs,hr,cpA,cpC,Zb,h1]
   repeat (first | (refine And.intro (by omega) ?_) | (refine And.intro (by assumption) ?_) | (refine And.intro rfl ?_) | (refine And.intro ⟨rfl,by omega⟩ ?_) | (refine And.intro ⟨rfl,by omega,by omega⟩ ?_) | (intro _))
   exact hK
  | true=>
   cases h2:decide (q=q') with
   | false=>
    rw [h1,h2]at hK
    simp only [go_sem,uc,hs,hr,cpA,cpC,Zb,h1,h2]
    repeat (first | (refine And.intro (by omega) ?_) | (refine And.intro (by assumption) ?_) | (refine And.intro rfl ?_) | (refine And.intro ⟨rfl,by omega⟩ ?_) | (refine And.intro ⟨rfl,by omega,by omega⟩ ?_) | (intro _))
    exact hK
   | true=>
    rw [h1,h2,Bool.true_and,Bool.true_and]at hK
    simp only [go_sem,uc,hs,hr,cpA,cpC,Zb,h1,h2]
    repeat (first | (refine And.intro (by omega) ?_) | (refine And.intro (by assumption) ?_) | (refine And.intro rfl ?_) | (refine And.intro ⟨rfl,by omega⟩ ?_) | (refine And.intro ⟨rfl,by omega,by omega⟩ ?_) | (intro _))
    exact ⟨⟨w1,w2,w3,w4,w5⟩,⟨v1,v2,v3,v4,v5⟩,hr5,hK⟩
end Go.Abs
end
