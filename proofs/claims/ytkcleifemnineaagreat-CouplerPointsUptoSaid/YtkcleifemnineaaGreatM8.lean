/-
  Parts of the proof, merged: PoseF, PoseG, PoseH, PoseI, PoseJ, PoseK.
-/
import Derived.Test.YtkcleifemnineaaGreatM7
set_option linter.unusedVariables false
set_option linter.unusedSimpArgs false
section
set_option linter.unusedVariables false
set_option linter.unusedSimpArgs false
set_option maxRecDepth 100000
namespace Go.Num
open Go.Abs
def pt (i:Nat) (A:List V2):V2:=A.getD i (0,0)
def ciV (A:List V2):V2:=ciQ (pt 0 A) (subQ (pt 1 A) (pt 0 A)) (subQ (pt 2 A) (pt 0 A))
def crV (A:List V2):Rat:=crossQ (subQ (pt 1 A) (pt 0 A)) (subQ (pt 2 A) (pt 0 A))
def othV (A:List V2):V2:=if pt 0 A=pt 1 A then pt 2 A else pt 1 A
def lnC (A:List V2):Nat:=if pt 0 A=othV A then 8 else if crV A≠0 then 21 else 0
def lnA (A:List V2):Rat:=if lnC A=0 then (pt 0 A).2-(othV A).2 else 0
def lnB (A:List V2):Rat:=if lnC A=0 then (othV A).1-(pt 0 A).1 else 0
def lnK (A:List V2):Rat:=if lnC A=0 then ((pt 0 A).2-(othV A).2)*(pt 0 A).1+((othV A).1-(pt 0 A).1)*(pt 0 A).2 else 0
abbrev DyQ:=V2×V2×Rat
def dl (d:Dy):Nat:=max (al d.1) (max (al d.2.1) (rl d.2.2))
def dvld (d:Dy):Bool:=avld d.1 && (avld d.2.1 && vldR d.2.2)
def d0:DyQ:=((0,0),(0,0),0)
def cenC (l:List Ps) (m:Arc):Nat:=if chkC l [m]≠0 then chkC l [m] else if crV (imgs l m)=0 then 8 else 0
def cenQ (A:List V2) (m:V2):DyQ:=(ciV A,m,sqQ (subQ (pt 0 A) (ciV A)))
def lineC (l:List Ps) (m:Arc):Nat:=if chkC l [m]≠0 then chkC l [m] else lnC (imgs l m)
def psnC (l:List Ps) (d:Dy):Nat:=if plchk l≠0 then plchk l else if dvld d then 0 else 2
def psnB (l:List Ps) (d:Dy):Bool:=(imgs l d.2.1).all fun x=>decide (sqQ (subQ x (av d.1))=rv d.2.2)
end Go.Num
namespace Go.Abs
open Go.Num
variable {P:Program} {Γ:Nat→Spec}
def dqA (d:DyQ):AV:=.agg [cb (rcan d.1.1),cn (rcan d.1.1),cd (rcan d.1.1),cb (rcan d.1.2),cn (rcan d.1.2),cd (rcan d.1.2),cb (rcan d.2.1.1),cn (rcan d.2.1.1),cd (rcan d.2.1.1),cb (rcan d.2.1.2),cn (rcan d.2.1.2),cd (rcan d.2.1.2),cb (rcan d.2.2),cn (rcan d.2.2),cd (rcan d.2.2)]
theorem dqA_eq (d:DyQ):dqA d=.agg [cb (rcan d.1.1),cn (rcan d.1.1),cd (rcan d.1.1),cb (rcan d.1.2),cn (rcan d.1.2),cd (rcan d.1.2),cb (rcan d.2.1.1),cn (rcan d.2.1.1),cd (rcan d.2.1.1),cb (rcan d.2.1.2),cn (rcan d.2.1.2),cd (rcan d.2.1.2),cb (rcan d.2.2),cn (rcan d.2.2),cd (rcan d.2.2)]:=eq_of_heq (HEq.refl _)
attribute [go_sem] dqA_eq
attribute [go_sem ↓] dqA_eq
def tline_G (tE:Nat) (l:List AV) (K:AV→Prop):Prop:=
 match l with
 | [a,b]=>onPs (fun l=>onA (fun m=>okPs 1000 l∧al m≤10000∧K (.tup [rQ (if lineC l m=0 then lnA (imgs l m) else 0),rQ (if lineC l m=0 then lnB (imgs l m) else 0),rQ (if lineC l m=0 then lnK (imgs l m) else 0),errV tE (lineC l m)])) b) a
 | _=>False
theorem tline_Ge (tE:Nat) (a b:AV) (K:AV→Prop):tline_G tE [a,b] K=(onPs (fun l=>onA (fun m=>okPs 1000 l∧al m≤10000∧K (.tup [rQ (if lineC l m=0 then lnA (imgs l m) else 0),rQ (if lineC l m=0 then lnB (imgs l m) else 0),rQ (if lineC l m=0 then lnK (imgs l m) else 0),errV tE (lineC l m)])) b) a):=propext Iff.rfl
@[congr] theorem tline_Gc (tE:Nat) {K:AV→Prop} {l l' : List AV} (h:l=l'):tline_G tE l K=tline_G tE l' K:=by subst h;rfl
attribute [go_sem] tline_Ge
attribute [go_sem ↓] tline_Ge
def rline_G (l:List AV) (K:AV→Prop):Prop:=
 match l with
 | [a,b]=>onPs (fun l=>onA (fun m=>okPs 1000 l∧al m≤10000∧l.length=3∧K (.tup [rQ (lnA (imgs l m)),rQ (lnB (imgs l m)),rQ (lnK (imgs l m)),.one (.lit (.int .i64 (lnC (imgs l m):Nat)))])) b) a
 | _=>False
theorem rline_Ge (a b:AV) (K:AV→Prop):rline_G [a,b] K=(onPs (fun l=>onA (fun m=>okPs 1000 l∧al m≤10000∧l.length=3∧K (.tup [rQ (lnA (imgs l m)),rQ (lnB (imgs l m)),rQ (lnK (imgs l m)),.one (.lit (.int .i64 (lnC (imgs l m):Nat)))])) b) a):=propext Iff.rfl
@[congr] theorem rline_Gc {K:AV→Prop} {l l' : List AV} (h:l=l'):rline_G l K=rline_G l' K:=by subst h;rfl
attribute [go_sem] rline_Ge
attribute [go_sem ↓] rline_Ge
def tcentre_G (tE:Nat) (l:List AV) (K:AV→Prop):Prop:=
 match l with
 | [a,b]=>onPs (fun l=>onA (fun m=>okPs 1000 l∧al m≤10000∧K (.tup [dqA (if cenC l m=0 then cenQ (imgs l m) (av m) else d0),errV tE (cenC l m)])) b) a
 | _=>False
theorem tcentre_Ge (tE:Nat) (a b:AV) (K:AV→Prop):tcentre_G tE [a,b] K=(onPs (fun l=>onA (fun m=>okPs 1000 l∧al m≤10000∧K (.tup [dqA (if cenC l m=0 then cenQ (imgs l m) (av m) else d0),errV tE (cenC l m)])) b) a):=propext Iff.rfl
@[congr] theorem tcentre_Gc (tE:Nat) {K:AV→Prop} {l l' : List AV} (h:l=l'):tcentre_G tE l K=tcentre_G tE l' K:=by subst h;rfl
attribute [go_sem] tcentre_Ge
attribute [go_sem ↓] tcentre_Ge
def tpasses_G (tE:Nat) (l:List AV) (K:AV→Prop):Prop:=
 match l with
 | [a,b]=>onPs (fun l=>onDy (fun d=>okPs 1000 l∧dl d≤100000∧K (.tup [.one (.lit (.bool (decide (psnC l d=0) && psnB l d))),errV tE (psnC l d)])) b) a
 | _=>False
theorem tpasses_Ge (tE:Nat) (a b:AV) (K:AV→Prop):tpasses_G tE [a,b] K=(onPs (fun l=>onDy (fun d=>okPs 1000 l∧dl d≤100000∧K (.tup [.one (.lit (.bool (decide (psnC l d=0) && psnB l d))),errV tE (psnC l d)])) b) a):=propext Iff.rfl
@[congr] theorem tpasses_Gc (tE:Nat) {K:AV→Prop} {l l' : List AV} (h:l=l'):tpasses_G tE l K=tpasses_G tE l' K:=by subst h;rfl
attribute [go_sem] tpasses_Ge
attribute [go_sem ↓] tpasses_Ge
theorem rcmpW_sound (hΓ:Holds P Γ) {f fp fm fc:Nat} (hp:Γ fp=.dat false rparts_G) (hm:Γ fm=.dat false zmul_G) (hc' : Γ fc=.dat true zcmp_G) (hc:check P f=some (26,(ac_fraction_Cmp fp fm fc).strip,[.tmp 4])):Sound P f (.dat true rcmp02_G):=by
 refine sound_dat hc rcmp02_good hΓ (fun args K hcl hfi hG=>?_)
 match args,hG with
 | [a,b],hG=>
  obtain ⟨x,rfl,hx,y,rfl,hy,hl,hl',hK⟩:=hG
  refine ⟨by simp,?_⟩
  simp only [go_sem,ac_fraction_Cmp,hp,hm,hc',hx,hy]
  have n1:=num_le hx
  have d1:=den_le hx
  have n2:=num_le hy
  have d2:=den_le hy
  rw [←ordQ_eq]
  exact ⟨by omega,by omega,by omega,by omega,by omega,by omega,hK⟩
end Go.Abs
end
section
set_option linter.unusedVariables false
set_option linter.unusedSimpArgs false
set_option maxRecDepth 100000
namespace Go.Num
open Go.Abs
def exPs:List Ps:=[((rcan 0,false),(rcan 0,rcan 0)),((rcan 0,false),(rcan 2,rcan 0)),((rcan 0,true),(rcan 2,rcan 2))]
def o2:Arc:=(rcan 0,rcan 0)
theorem rz_2:rz 2≤2:=by
 have zt:=rz_int 2
 have zt2:zs 2≤2:=zs_of (by decide)
 have e2:(((2:Int)):Rat)=2:=rfl
 rw [e2]at zt
 omega
end Go.Num
namespace Go.Abs
open Go.Num
variable {P:Program} {Γ:Nat→Spec}
def ex46_G (l:List AV) (K:AV→Prop):Prop:=
 match l with
 | []=>K (psA exPs)
 | _=>False
theorem ex46_Ge (K:AV→Prop):ex46_G [] K=(K (psA exPs)):=propext Iff.rfl
@[congr] theorem ex46_Gc {K:AV→Prop} {l l' : List AV} (h:l=l'):ex46_G l K=ex46_G l' K:=by subst h;rfl
attribute [go_sem] ex46_Ge
attribute [go_sem ↓] ex46_Ge
def awk46_G (l:List AV) (K:AV→Prop):Prop:=
 match l with
 | []=>K (.one (.lit (.bool true)))
 | _=>False
theorem awk46_Ge (K:AV→Prop):awk46_G [] K=(K (.one (.lit (.bool true)))):=propext Iff.rfl
@[congr] theorem awk46_Gc {K:AV→Prop} {l l' : List AV} (h:l=l'):awk46_G l K=awk46_G l' K:=by subst h;rfl
attribute [go_sem] awk46_Ge
attribute [go_sem ↓] awk46_Ge
def lLines_G (l:List AV) (K:AV→Prop):Prop:=
 match l with
 | [a,b]=>onPs (fun l=>onA (fun m=>okPs 1048576 l∧al m≤1048576∧K (.one (.lit (.bool true)))) b) a
 | _=>False
theorem lLines_Ge (a b:AV) (K:AV→Prop):lLines_G [a,b] K=(onPs (fun l=>onA (fun m=>okPs 1048576 l∧al m≤1048576∧K (.one (.lit (.bool true)))) b) a):=propext Iff.rfl
@[congr] theorem lLines_Gc {K:AV→Prop} {l l' : List AV} (h:l=l'):lLines_G l K=lLines_G l' K:=by subst h;rfl
attribute [go_sem] lLines_Ge
attribute [go_sem ↓] lLines_Ge
theorem short_al {m:Arc} (h:sA m=true):al m≤2:=by
 simp only [sA,Bool.and_eq_true]at h
 exact Nat.max_le.2 ⟨sR_rl h.1,sR_rl h.2⟩
end Go.Abs
end
section
set_option linter.unusedVariables false
set_option linter.unusedSimpArgs false
set_option maxRecDepth 100000
namespace Go.Num
open Go.Abs
instance decAR:DecidableEq (Arc×R):=instDecidableEqProd
instance decDy:DecidableEq Dy:=instDecidableEqProd
def dz:Dy:=(((false,[],[]),(false,[],[])),((false,[],[]),(false,[],[])),(false,[],[]))
def cenR (A:List V2) (m:Arc):Dy:=(acan (ciV A),m,rcan (sqQ (subQ (pt 0 A) (ciV A))))
def movR (A:List V2) (m:Arc):Dy:=(m,acan (ciV A),rcan (sqQ (subQ (pt 0 A) (ciV A))))
def imgsB (l:List Ps) (o:Arc):List V2:=l.map fun p=>appQ (invQ (pv p)) (av o)
def movC (l:List Ps) (o:Arc):Nat:=if chkC l [o]≠0 then chkC l [o] else if crV (imgsB l o)=0 then 8 else 0
def movQ (A:List V2) (o:V2):DyQ:=(o,ciV A,sqQ (subQ (pt 0 A) (ciV A)))
end Go.Num
namespace Go.Abs
open Go.Num
variable {P:Program} {Γ:Nat→Spec}
theorem okB_c {h h' : Nat→HB} {z:Nat} {b:Bool} {es:List (List C)} (hc:CleanR es):okB h h' (some ⟨es,z,b⟩) (some ⟨es,z,b⟩):=⟨⟨rfl,rfl⟩,.inl ⟨rfl,hc⟩⟩
def rcentre_G (l:List AV) (K:AV→Prop):Prop:=
 match l with
 | [a,b]=>onPs (fun l=>onA (fun m=>okPs 1000 l∧al m≤10000∧l.length=3∧K (.tup [dA (if crV (imgs l m)=0 then dz else cenR (imgs l m) m),.one (.lit (.int .i64 (if crV (imgs l m)=0 then 8 else 0)))])) b) a
 | _=>False
theorem rcentre_Ge (a b:AV) (K:AV→Prop):rcentre_G [a,b] K=(onPs (fun l=>onA (fun m=>okPs 1000 l∧al m≤10000∧l.length=3∧K (.tup [dA (if crV (imgs l m)=0 then dz else cenR (imgs l m) m),.one (.lit (.int .i64 (if crV (imgs l m)=0 then 8 else 0)))])) b) a):=propext Iff.rfl
@[congr] theorem rcentre_Gc {K:AV→Prop} {l l' : List AV} (h:l=l'):rcentre_G l K=rcentre_G l' K:=by subst h;rfl
attribute [go_sem] rcentre_Ge
attribute [go_sem ↓] rcentre_Ge
def rmoving_G (l:List AV) (K:AV→Prop):Prop:=
 match l with
 | [a,b]=>onPs (fun l=>onA (fun m=>okPs 1000 l∧al m≤10000∧l.length=3∧K (.tup [dA (if crV (imgsB l m)=0 then dz else movR (imgsB l m) m),.one (.lit (.int .i64 (if crV (imgsB l m)=0 then 8 else 0)))])) b) a
 | _=>False
theorem rmoving_Ge (a b:AV) (K:AV→Prop):rmoving_G [a,b] K=(onPs (fun l=>onA (fun m=>okPs 1000 l∧al m≤10000∧l.length=3∧K (.tup [dA (if crV (imgsB l m)=0 then dz else movR (imgsB l m) m),.one (.lit (.int .i64 (if crV (imgsB l m)=0 then 8 else 0)))])) b) a):=propext Iff.rfl
@[congr] theorem rmoving_Gc {K:AV→Prop} {l l' : List AV} (h:l=l'):rmoving_G l K=rmoving_G l' K:=by subst h;rfl
attribute [go_sem] rmoving_Ge
attribute [go_sem ↓] rmoving_Ge
def tmoving_G (tE:Nat) (l:List AV) (K:AV→Prop):Prop:=
 match l with
 | [a,b]=>onPs (fun l=>onA (fun m=>okPs 1000 l∧al m≤10000∧K (.tup [dqA (if movC l m=0 then movQ (imgsB l m) (av m) else d0),errV tE (movC l m)])) b) a
 | _=>False
theorem tmoving_Ge (tE:Nat) (a b:AV) (K:AV→Prop):tmoving_G tE [a,b] K=(onPs (fun l=>onA (fun m=>okPs 1000 l∧al m≤10000∧K (.tup [dqA (if movC l m=0 then movQ (imgsB l m) (av m) else d0),errV tE (movC l m)])) b) a):=propext Iff.rfl
@[congr] theorem tmoving_Gc (tE:Nat) {K:AV→Prop} {l l' : List AV} (h:l=l'):tmoving_G tE l K=tmoving_G tE l' K:=by subst h;rfl
attribute [go_sem] tmoving_Ge
attribute [go_sem ↓] tmoving_Ge
def rpasses_G (l:List AV) (K:AV→Prop):Prop:=
 match l with
 | [a,b]=>onPs (fun l=>onDy (fun d=>okPs 1000 l∧dl d≤100000∧l.length≤1000∧K (.one (.lit (.bool (psnB l d))))) b) a
 | _=>False
theorem rpasses_Ge (a b:AV) (K:AV→Prop):rpasses_G [a,b] K=(onPs (fun l=>onDy (fun d=>okPs 1000 l∧dl d≤100000∧l.length≤1000∧K (.one (.lit (.bool (psnB l d))))) b) a):=propext Iff.rfl
@[congr] theorem rpasses_Gc {K:AV→Prop} {l l' : List AV} (h:l=l'):rpasses_G l K=rpasses_G l' K:=by subst h;rfl
attribute [go_sem] rpasses_Ge
attribute [go_sem ↓] rpasses_Ge
def rdyad_G (l:List AV) (K:AV→Prop):Prop:=
 match l with
 | [a]=>onDy (fun d=>dl d≤100000∧K (.one (.lit (.bool (dvld d))))) a
 | _=>False
theorem rdyad_Ge (a:AV) (K:AV→Prop):rdyad_G [a] K=(onDy (fun d=>dl d≤100000∧K (.one (.lit (.bool (dvld d))))) a):=propext Iff.rfl
@[congr] theorem rdyad_Gc {K:AV→Prop} {l l' : List AV} (h:l=l'):rdyad_G l K=rdyad_G l' K:=by subst h;rfl
attribute [go_sem] rdyad_Ge
attribute [go_sem ↓] rdyad_Ge
def rdshort_G (l:List AV) (K:AV→Prop):Prop:=
 match l with
 | [a]=>onDy (fun d=>dl d≤4294967296∧K (.one (.lit (.bool (sA d.1 && (sA d.2.1 && sR 4 d.2.2)))))) a
 | _=>False
theorem rdshort_Ge (a:AV) (K:AV→Prop):rdshort_G [a] K=(onDy (fun d=>dl d≤4294967296∧K (.one (.lit (.bool (sA d.1 && (sA d.2.1 && sR 4 d.2.2)))))) a):=propext Iff.rfl
@[congr] theorem rdshort_Gc {K:AV→Prop} {l l' : List AV} (h:l=l'):rdshort_G l K=rdshort_G l' K:=by subst h;rfl
attribute [go_sem] rdshort_Ge
attribute [go_sem ↓] rdshort_Ge
def dequal_G (l:List AV) (K:AV→Prop):Prop:=
 match l with
 | [a,b]=>onDy (fun d=>onDy (fun e=>dl d≤4294967296∧K (.one (.lit (.bool (decide (d=e)))))) b) a
 | _=>False
theorem dequal_Ge (a b:AV) (K:AV→Prop):dequal_G [a,b] K=(onDy (fun d=>onDy (fun e=>dl d≤4294967296∧K (.one (.lit (.bool (decide (d=e)))))) b) a):=propext Iff.rfl
@[congr] theorem dequal_Gc {K:AV→Prop} {l l' : List AV} (h:l=l'):dequal_G l K=dequal_G l' K:=by subst h;rfl
attribute [go_sem] dequal_Ge
attribute [go_sem ↓] dequal_Ge
end Go.Abs
end
section
set_option linter.unusedVariables false
set_option linter.unusedSimpArgs false
set_option maxRecDepth 100000
namespace Go.Num
open Go.Abs
abbrev CpQ:=V2×V2×Rat×Rat×Rat×Rat×Rat
def c0:CpQ:=((0,0),(0,0),0,0,0,0,0)
def timesQ (a b:V2):V2:=(a.1*b.1-a.2*b.2,a.1*b.2+a.2*b.1)
def barQ (a:V2):V2:=(a.1,-a.2)
def lnkC (A B:List V2) (m n:V2):Nat:=if m=n then 8 else if crV A=0 then 8 else if crV B=0 then 8 else if ciV A=ciV B then 8 else 0
def lnkQ (A B:List V2) (m n:V2):CpQ:=(ciV A,ciV B,sqQ (subQ (pt 0 A) (ciV A)),sqQ (subQ n m),sqQ (subQ (pt 0 B) (ciV B)),-(m.1*(subQ n m).1+m.2*(subQ n m).2) / sqQ (subQ n m),(m.1*(subQ n m).2-m.2*(subQ n m).1) / sqQ (subQ n m))
def lkC (l:List Ps) (m n:Arc):Nat:=if chkC l [m,n]≠0 then chkC l [m,n] else lnkC (imgs l m) (imgs l n) (av m) (av n)
end Go.Num
namespace Go.Abs
open Go.Num
variable {P:Program} {Γ:Nat→Spec}
def cqC (c:CpQ):List C:=[cb (rcan c.1.1),cn (rcan c.1.1),cd (rcan c.1.1),cb (rcan c.1.2),cn (rcan c.1.2),cd (rcan c.1.2),cb (rcan c.2.1.1),cn (rcan c.2.1.1),cd (rcan c.2.1.1),cb (rcan c.2.1.2),cn (rcan c.2.1.2),cd (rcan c.2.1.2),cb (rcan c.2.2.1),cn (rcan c.2.2.1),cd (rcan c.2.2.1),cb (rcan c.2.2.2.1),cn (rcan c.2.2.2.1),cd (rcan c.2.2.2.1),cb (rcan c.2.2.2.2.1),cn (rcan c.2.2.2.2.1),cd (rcan c.2.2.2.2.1),cb (rcan c.2.2.2.2.2.1),cn (rcan c.2.2.2.2.2.1),cd (rcan c.2.2.2.2.2.1),cb (rcan c.2.2.2.2.2.2),cn (rcan c.2.2.2.2.2.2),cd (rcan c.2.2.2.2.2.2)]
def cqA (c:CpQ):AV:=.agg (cqC c)
def cl (c:Cp):Nat:=max (al c.1) (max (al c.2.1) (max (rl c.2.2.1) (max (rl c.2.2.2.1) (max (rl c.2.2.2.2.1) (max (rl c.2.2.2.2.2.1) (rl c.2.2.2.2.2.2))))))
def ctimes_G (l:List AV) (K:AV→Prop):Prop:=
 match l with
 | [a,b]=>onA (fun p=>onA (fun q=>al p≤100000000∧al q≤100000000∧K (pQ (timesQ (av p) (av q)))) b) a
 | _=>False
theorem ctimes_Ge (a b:AV) (K:AV→Prop):ctimes_G [a,b] K=(onA (fun p=>onA (fun q=>al p≤100000000∧al q≤100000000∧K (pQ (timesQ (av p) (av q)))) b) a):=propext Iff.rfl
@[congr] theorem ctimes_Gc {K:AV→Prop} {l l' : List AV} (h:l=l'):ctimes_G l K=ctimes_G l' K:=by subst h;rfl
attribute [go_sem] ctimes_Ge
attribute [go_sem ↓] ctimes_Ge
def cbar_G (l:List AV) (K:AV→Prop):Prop:=
 match l with
 | [a]=>onA (fun p=>al p≤100000000∧vldR p.1=true∧K (pQ (barQ (av p)))) a
 | _=>False
theorem cbar_Ge (a:AV) (K:AV→Prop):cbar_G [a] K=(onA (fun p=>al p≤100000000∧vldR p.1=true∧K (pQ (barQ (av p)))) a):=propext Iff.rfl
@[congr] theorem cbar_Gc {K:AV→Prop} {l l' : List AV} (h:l=l'):cbar_G l K=cbar_G l' K:=by subst h;rfl
attribute [go_sem] cbar_Ge
attribute [go_sem ↓] cbar_Ge
def tlink_G (tE:Nat) (l:List AV) (K:AV→Prop):Prop:=
 match l with
 | [a,b,c]=>onPs (fun l=>onA (fun m=>onA (fun n=>okPs 1000 l∧al m≤10000∧al n≤10000∧K (.tup [cqA (if lkC l m n=0 then lnkQ (imgs l m) (imgs l n) (av m) (av n) else c0),errV tE (lkC l m n)])) c) b) a
 | _=>False
theorem tlink_Ge (tE:Nat) (a b c:AV) (K:AV→Prop):tlink_G tE [a,b,c] K=(onPs (fun l=>onA (fun m=>onA (fun n=>okPs 1000 l∧al m≤10000∧al n≤10000∧K (.tup [cqA (if lkC l m n=0 then lnkQ (imgs l m) (imgs l n) (av m) (av n) else c0),errV tE (lkC l m n)])) c) b) a):=propext Iff.rfl
@[congr] theorem tlink_Gc (tE:Nat) {K:AV→Prop} {l l' : List AV} (h:l=l'):tlink_G tE l K=tlink_G tE l' K:=by subst h;rfl
attribute [go_sem] tlink_Ge
attribute [go_sem ↓] tlink_Ge
def rlink_G (l:List AV) (K:AV→Prop):Prop:=
 match l with
 | [a,b,c]=>onPs (fun l=>onA (fun m=>onA (fun n=>okPs 1000 l∧al m≤10000∧al n≤10000∧l.length=3∧K (.tup [cqA (if lnkC (imgs l m) (imgs l n) (av m) (av n)=0 then lnkQ (imgs l m) (imgs l n) (av m) (av n) else c0),.one (.lit (.int .i64 (lnkC (imgs l m) (imgs l n) (av m) (av n):Nat)))])) c) b) a
 | _=>False
theorem rlink_Ge (a b c:AV) (K:AV→Prop):rlink_G [a,b,c] K=(onPs (fun l=>onA (fun m=>onA (fun n=>okPs 1000 l∧al m≤10000∧al n≤10000∧l.length=3∧K (.tup [cqA (if lnkC (imgs l m) (imgs l n) (av m) (av n)=0 then lnkQ (imgs l m) (imgs l n) (av m) (av n) else c0),.one (.lit (.int .i64 (lnkC (imgs l m) (imgs l n) (av m) (av n):Nat)))])) c) b) a):=propext Iff.rfl
@[congr] theorem rlink_Gc {K:AV→Prop} {l l' : List AV} (h:l=l'):rlink_G l K=rlink_G l' K:=by subst h;rfl
attribute [go_sem] rlink_Ge
attribute [go_sem ↓] rlink_Ge
end Go.Abs
end
section
set_option linter.unusedVariables false
set_option linter.unusedSimpArgs false
set_option maxRecDepth 100000
namespace Go.Num
open Go.Abs
theorem can_av {m:Arc} (hw:WLA m) (h:avld m=true):(rcan (av m).1,rcan (av m).2)=m:=by
 unfold avld at h
 rw [Bool.and_eq_true]at h
 exact Prod.ext (rcan_of_vld hw.1 h.1) (rcan_of_vld hw.2 h.2)
end Go.Num
namespace Go.Abs
open Go.Num
variable {P:Program} {Γ:Nat→Spec}
def lDyads_G (l:List AV) (K:AV→Prop):Prop:=
 match l with
 | [a,b]=>onPs (fun l=>onA (fun m=>okPs 1048576 l∧al m≤1048576∧K (.one (.lit (.bool true)))) b) a
 | _=>False
theorem lDyads_Ge (a b:AV) (K:AV→Prop):lDyads_G [a,b] K=(onPs (fun l=>onA (fun m=>okPs 1048576 l∧al m≤1048576∧K (.one (.lit (.bool true)))) b) a):=propext Iff.rfl
@[congr] theorem lDyads_Gc {K:AV→Prop} {l l' : List AV} (h:l=l'):lDyads_G l K=lDyads_G l' K:=by subst h;rfl
attribute [go_sem] lDyads_Ge
attribute [go_sem ↓] lDyads_Ge
end Go.Abs
end
section
set_option linter.unusedVariables false
set_option linter.unusedSimpArgs false
set_option maxRecDepth 100000
namespace Go.Num
open Go.Abs
abbrev Cp5:=R×R×R×R×R
instance decC5:DecidableEq Cp5:=fun a b=>decidable_of_iff (a.1=b.1∧a.2.1=b.2.1∧a.2.2.1=b.2.2.1∧a.2.2.2.1=b.2.2.2.1∧a.2.2.2.2=b.2.2.2.2) ⟨fun ⟨h1,h2,h3,h4,h5⟩=>Prod.ext h1 (Prod.ext h2 (Prod.ext h3 (Prod.ext h4 h5))),fun h=>by subst h;exact ⟨rfl,rfl,rfl,rfl,rfl⟩⟩
instance decCp:DecidableEq Cp:=fun a b=>decidable_of_iff (a.1=b.1∧a.2.1=b.2.1∧(a.2.2:Cp5)=b.2.2) ⟨fun ⟨h1,h2,h3⟩=>Prod.ext h1 (Prod.ext h2 h3),fun h=>by subst h;exact ⟨rfl,rfl,rfl⟩⟩
def canC (X:CpQ):Cp:=((rcan X.1.1,rcan X.1.2),(rcan X.2.1.1,rcan X.2.1.2),rcan X.2.2.1,rcan X.2.2.2.1,rcan X.2.2.2.2.1,rcan X.2.2.2.2.2.1,rcan X.2.2.2.2.2.2)
theorem cl_can (X:CpQ):cl (canC X)=max (zq X.1) (max (zq X.2.1) (max (rz X.2.2.1) (max (rz X.2.2.2.1) (max (rz X.2.2.2.2.1) (max (rz X.2.2.2.2.2.1) (rz X.2.2.2.2.2.2)))))):=rfl
end Go.Num
namespace Go.Abs
open Go.Num
variable {P:Program} {Γ:Nat→Spec}
def cpC (c:Cp):List C:=[cb c.1.1,cn c.1.1,cd c.1.1,cb c.1.2,cn c.1.2,cd c.1.2,cb c.2.1.1,cn c.2.1.1,cd c.2.1.1,cb c.2.1.2,cn c.2.1.2,cd c.2.1.2,cb c.2.2.1,cn c.2.2.1,cd c.2.2.1,cb c.2.2.2.1,cn c.2.2.2.1,cd c.2.2.2.1,cb c.2.2.2.2.1,cn c.2.2.2.2.1,cd c.2.2.2.2.1,cb c.2.2.2.2.2.1,cn c.2.2.2.2.2.1,cd c.2.2.2.2.2.1,cb c.2.2.2.2.2.2,cn c.2.2.2.2.2.2,cd c.2.2.2.2.2.2]
def cpA (c:Cp):AV:=.agg (cpC c)
theorem r_inj {x y:R} (h1:cb x=cb y) (h2:cn x=cn y) (h3:cd x=cd y):x=y:=rA_inj _ _ (by simp only [rA];rw [h1,h2,h3])
theorem cpA_inj (x y:Cp) (h:cpA x=cpA y):x=y:=by
 simp only [cpA,cpC,AV.agg.injEq,List.cons.injEq,and_true]at h
 obtain ⟨a1,a2,a3,b1,b2,b3,c1,c2,c3,d1,d2,d3,e1,e2,e3,f1,f2,f3,g1,g2,g3,h1,h2,h3,i1,i2,i3⟩:=h
 exact Prod.ext (Prod.ext (r_inj a1 a2 a3) (r_inj b1 b2 b3)) (Prod.ext (Prod.ext (r_inj c1 c2 c3) (r_inj d1 d2 d3)) (Prod.ext (r_inj e1 e2 e3) (Prod.ext (r_inj f1 f2 f3) (Prod.ext (r_inj g1 g2 g3) (Prod.ext (r_inj h1 h2 h3) (r_inj i1 i2 i3))))))
def onCp (k:Cp→Prop) (a:AV):Prop:=onE cpA (fun c=>WLC c∧k c) a
@[congr] theorem onCp_cg {k:Cp→Prop} {a a' : AV} (h:a=a'):onCp k a=onCp k a':=by subst h;rfl
theorem onCp_l (k:Cp→Prop) (a1 a2 a3 b1 b2 b3 c1 c2 c3 d1 d2 d3 e1 e2 e3 f1 f2 f3 g1 g2 g3 h1 h2 h3 i1 i2 i3:C):onCp k (.agg [a1,a2,a3,b1,b2,b3,c1,c2,c3,d1,d2,d3,e1,e2,e3,f1,f2,f3,g1,g2,g3,h1,h2,h3,i1,i2,i3]) =
  onO (fun a=>onO (fun b=>onO (fun c=>onO (fun d=>onO (fun e=>onO (fun f=>onO (fun g=>onO (fun h=>onO (fun i=>WLC ((a,b),(c,d),e,f,g,h,i)∧k ((a,b),(c,d),e,f,g,h,i)) (dR i1 i2 i3)) (dR h1 h2 h3)) (dR g1 g2 g3)) (dR f1 f2 f3)) (dR e1 e2 e3)) (dR d1 d2 d3)) (dR c1 c2 c3)) (dR b1 b2 b3)) (dR a1 a2 a3):=by
 refine propext ⟨fun ⟨t,h,hh⟩=>?_,fun h=>?_⟩
 ·simp only [cpA,cpC,AV.agg.injEq,List.cons.injEq,and_true]at h
  obtain ⟨rfl,rfl,rfl,rfl,rfl,rfl,rfl,rfl,rfl,rfl,rfl,rfl,rfl,rfl,rfl,rfl,rfl,rfl,rfl,rfl,rfl,rfl,rfl,rfl,rfl,rfl,rfl⟩:=h
  simp only [dR_e,onO_s];exact hh
 ·obtain ⟨a,ha,q1⟩:=onO_iff.1 h
  obtain ⟨b,hb,q2⟩:=onO_iff.1 q1
  obtain ⟨c,hc,q3⟩:=onO_iff.1 q2
  obtain ⟨d,hd,q4⟩:=onO_iff.1 q3
  obtain ⟨e,he,q5⟩:=onO_iff.1 q4
  obtain ⟨f,hf,q6⟩:=onO_iff.1 q5
  obtain ⟨g,hg,q7⟩:=onO_iff.1 q6
  obtain ⟨hh,hhh,q8⟩:=onO_iff.1 q7
  obtain ⟨i,hi,q9⟩:=onO_iff.1 q8
  obtain ⟨rfl,rfl,rfl⟩:=dR_some.1 ha
  obtain ⟨rfl,rfl,rfl⟩:=dR_some.1 hb
  obtain ⟨rfl,rfl,rfl⟩:=dR_some.1 hc
  obtain ⟨rfl,rfl,rfl⟩:=dR_some.1 hd
  obtain ⟨rfl,rfl,rfl⟩:=dR_some.1 he
  obtain ⟨rfl,rfl,rfl⟩:=dR_some.1 hf
  obtain ⟨rfl,rfl,rfl⟩:=dR_some.1 hg
  obtain ⟨rfl,rfl,rfl⟩:=dR_some.1 hhh
  obtain ⟨rfl,rfl,rfl⟩:=dR_some.1 hi
  exact ⟨((a,b),(c,d),e,f,g,hh,i),rfl,q9⟩
theorem g_onCp {β:Type} {T:Cp→(β→Prop)→Prop} (h:∀x,GoodT (T x)) {a:AV}:GoodT fun K=>onCp (fun x=>T x K) a:=
 g_onE (e:=cpA) (T:=fun p K=>WLC p∧T p K) cpA_inj fun p=>GoodT.and (c:=WLC p) (T:=T p) fun _=>h p
attribute [go_sem] onCp_l
attribute [go_sem ↓] onCp_l
def cequal_G (l:List AV) (K:AV→Prop):Prop:=
 match l with
 | [a,b]=>onCp (fun c=>onCp (fun d=>cl c≤4294967296∧K (.one (.lit (.bool (decide (c=d)))))) b) a
 | _=>False
theorem cequal_Ge (a b:AV) (K:AV→Prop):cequal_G [a,b] K=(onCp (fun c=>onCp (fun d=>cl c≤4294967296∧K (.one (.lit (.bool (decide (c=d)))))) b) a):=propext Iff.rfl
@[congr] theorem cequal_Gc {K:AV→Prop} {l l' : List AV} (h:l=l'):cequal_G l K=cequal_G l' K:=by subst h;rfl
attribute [go_sem] cequal_Ge
attribute [go_sem ↓] cequal_Ge
def lLinkages_G (l:List AV) (K:AV→Prop):Prop:=
 match l with
 | [a,b,c]=>onPs (fun l=>onDy (fun d=>onA (fun n=>okPs 1048576 l∧dl d≤1048576∧al n≤1048576∧K (.one (.lit (.bool true)))) c) b) a
 | _=>False
theorem lLinkages_Ge (a b c:AV) (K:AV→Prop):lLinkages_G [a,b,c] K=(onPs (fun l=>onDy (fun d=>onA (fun n=>okPs 1048576 l∧dl d≤1048576∧al n≤1048576∧K (.one (.lit (.bool true)))) c) b) a):=propext Iff.rfl
@[congr] theorem lLinkages_Gc {K:AV→Prop} {l l' : List AV} (h:l=l'):lLinkages_G l K=lLinkages_G l' K:=by subst h;rfl
attribute [go_sem] lLinkages_Ge
attribute [go_sem ↓] lLinkages_Ge
end Go.Abs
end
