/-
  Parts of the proof, merged: ArgD, RatC, RefA, RatD, RatE, PoseP, PoseB, PoseC, ChartE, ChartF.
-/
import Derived.Test.YtjggkdaangghfaaGreatDoorM5
set_option linter.unusedVariables false
set_option linter.unusedSimpArgs false
set_option maxRecDepth 100000
section
namespace Go.Abs
open Go.Num
variable {H:Type} {enc:TypeId×Value->H} {bulk:DataW H->Nat} {P:Program} {w:World} {α:Type}
structure TnT (P:Program) (t:TypeId):Prop where
 ex:∃f0 f1:Field,P.underlying t=some (.struct #[f0,f1])/\f0.offset=0/\f1.offset=3/\P.cellsOf t=4/\P.cellsOf f0.type=3/\P.cellsOf f1.type=1/\RatT P f0.type/\P.underlying f1.type=some .bool
structure PsT (P:Program) (t:TypeId):Prop where
 ex:∃f0 f1:Field,P.underlying t=some (.struct #[f0,f1])/\f0.offset=0/\f1.offset=4/\P.cellsOf t=10/\P.cellsOf f0.type=4/\P.cellsOf f1.type=6/\TnT P f0.type/\ArcT P f1.type
structure PosesT (P:Program) (t:TypeId):Prop where
 ex:∃u,P.underlying t=some (.slice u)/\P.cellsOf u=10/\PsT P u
structure DyT (P:Program) (t:TypeId):Prop where
 ex:∃f0 f1 f2:Field,P.underlying t=some (.struct #[f0,f1,f2])/\f0.offset=0/\f1.offset=6/\f2.offset=12/\P.cellsOf t=15/\P.cellsOf f0.type=6/\P.cellsOf f1.type=6/\P.cellsOf f2.type=3/\ArcT P f0.type/\ArcT P f1.type/\RatT P f2.type
end Go.Abs
end
section
namespace Go.Abs
open Go.Num
variable {P:Program} {Γ:Nat->Spec}
def yn (f0 f1 f2 f3:Nat):AC:=(.seq (.ops false [.u 1 (.box 3 (.t 0)),.m 2 .fa])
 (.fg [1] (.seq (.seq (.ops false [.u 5 (.fa 1 (.t 1)),.u 6 (.ld none 1 false (.t 5)),.u 7 (.len (.t 6)),.u 8 (.bin .eql (.t 7) (.i 0)),.m 9 (.t 8),.w 10 9 true (.fa 2 (.t 1)),.w 11 9 true (.ld none 1 false (.t 10)),.w 12 9 true (.len (.t 11)),.w 13 9 true (.bin .eql (.t 12) (.i 0)),.u 14 (.pick (.t 9) (.t 13) .fa)])
 (.fg [1,14] (.cond (.t 14) (.seq (.ops false [.u 15 (.fa 0 (.t 1)),.u 16 (.ld none 1 false (.t 15)),.u 17 (.un .not (.t 16)),.m 2 (.t 17)])
 .ret) .skip)))
 (.fg [1] (.seq (.ops true [.u 18 (.fa 1 (.t 1)),.u 19 (.ld (some 1) 1 false (.t 18)),.u 20 (.build [.z [(.lit (.bool false))],.x 1 (.t 19)]),.u 21 (.fa 2 (.t 1)),.u 22 (.ld (some 1) 1 false (.t 21)),.u 23 (.build [.z [(.lit (.bool false))],.x 1 (.t 22)]),.u 3 (.alloc [(.lit (.bool false)),.emp]),.u 4 (.alloc [(.lit (.bool false)),.emp]),.n (.st (some 3) 2 (.t 3) (.t 20)),.n (.st (some 4) 2 (.t 4) (.t 23))])
 (.fg [1,3,4] (.seq (.seq (.ops false [.u 24 (.fa 1 (.t 1)),.u 25 (.ld none 1 false (.t 24)),.u 26 (.len (.t 25)),.u 27 (.bin .eql (.t 26) (.i 0)),.m 28 (.t 27),.w 29 28 false (.fa 2 (.t 1)),.w 30 28 false (.ld none 1 false (.t 29)),.w 31 28 false (.len (.t 30)),.w 32 28 false (.bin .eql (.t 31) (.i 0)),.u 33 (.pick (.t 28) .tr (.t 32)),.m 34 (.t 33),.w 35 34 false (.ld none 2 true (.t 3)),.w 36 34 false (.call f0 [(.t 35)]),.w 37 34 false (.un .not (.t 36)),.u 38 (.pick (.t 34) .tr (.t 37)),.m 39 (.t 38),.w 40 39 false (.ld none 2 true (.t 4)),.w 41 39 false (.call f0 [(.t 40)]),.w 42 39 false (.un .not (.t 41)),.u 43 (.pick (.t 39) .tr (.t 42))])
 (.fg [3,4,43] (.cond (.t 43) (.seq (.ops false [.m 2 .fa])
 .ret) .skip)))
 (.fg [3,4] (.seq (.ops false [.u 44 (.ld none 2 true (.t 3)),.u 45 (.ld none 2 true (.t 4)),.u 46 (.call f1 [(.t 44),(.t 45)]),.u 47 (.call f2 []),.u 48 (.call f3 [(.t 46),(.t 47)]),.u 49 (.bin .eql (.t 48) (.i 0)),.m 2 (.t 49)])
 .ret)))))))))
def Wn (f0 f1:Nat):AC:=(.seq (.ops false [.u 1 (.box 3 (.t 0)),.u 2 (.alloc [(.lit (.bool false)),.emp]),.u 3 (.alloc [(.lit (.bool false)),.emp])])
 (.fg [1,2,3] (.seq (.seq (.ops false [.u 4 (.ld none 3 true (.t 1)),.u 5 (.call f0 [(.t 4)]),.u 6 (.un .not (.t 5)),.m 7 (.t 6),.w 8 7 false (.fa 1 (.t 1)),.w 9 7 false (.ld none 1 false (.t 8)),.w 10 7 false (.len (.t 9)),.w 11 7 false (.bin .eql (.t 10) (.i 0)),.u 12 (.pick (.t 7) .tr (.t 11))])
 (.fg [1,2,3,12] (.cond (.t 12) (.seq (.ops false [.u 13 (.build [.z [(.lit (.bool false)),.emp]]),.u 14 (.call f1 []),.n (.st none 2 (.t 2) (.t 13)),.n (.st none 2 (.t 3) (.t 14))])
 .ret) .skip)))
 (.fg [1,2,3] (.seq (.ops true [.u 15 (.fa 0 (.t 1)),.u 16 (.ld none 1 false (.t 15)),.m 17 (.c (.one .emp)),.u 18 (.fa 1 (.t 1)),.u 19 (.ld none 1 false (.t 18)),.u 20 (.app0 1 (.t 17) (.t 19)),.u 21 (.build [.x 1 (.t 16),.x 1 (.t 20)]),.n (.st none 2 (.t 2) (.t 21))])
 (.fg [1,2,3] (.seq (.ops true [.u 22 (.ld none 2 true (.t 2)),.m 23 (.c (.one .emp)),.u 24 (.fa 2 (.t 1)),.u 25 (.ld none 1 false (.t 24)),.u 26 (.app0 1 (.t 23) (.t 25)),.u 27 (.build [.z [(.lit (.bool false))],.x 1 (.t 26)]),.n (.st none 2 (.t 2) (.t 22)),.n (.st none 2 (.t 3) (.t 27))])
 .ret)))))))
def Jq (f0 f1 f2 f3:Nat):AC:=(.seq (.ops false [.u 2 (.box 2 (.t 0)),.u 3 (.box 2 (.t 1)),.u 4 (.alloc [(.lit (.bool false)),.emp,.emp])])
 (.fg [2,3,4] (.seq (.seq (.ops false [.u 7 (.ld none 2 true (.t 2)),.u 8 (.call f0 [(.t 7)]),.u 9 (.bin .eql (.t 8) (.i 0))])
 (.fg [2,3,4,9] (.cond (.t 9) (.seq (.ops false [.u 10 (.build [.z [(.lit (.bool false)),.emp,.emp]]),.n (.st none 3 (.t 4) (.t 10))])
 .ret) .skip)))
 (.fg [2,3,4] (.seq (.seq (.ops false [.u 11 (.ld none 2 true (.t 3)),.u 12 (.call f0 [(.t 11)]),.u 13 (.bin .lss (.t 12) (.i 0))])
 (.fg [2,3,4,13] (.cond (.t 13) (.ops true [.u 14 (.ld none 2 true (.t 2)),.u 15 (.call f1 [(.t 14)]),.u 16 (.ld none 2 true (.t 3)),.u 17 (.call f1 [(.t 16)]),.n (.st none 2 (.t 2) (.t 15)),.n (.st none 2 (.t 3) (.t 17))]) .skip)))
 (.fg [2,3,4] (.seq (.ops false [.u 18 (.ld none 2 true (.t 2)),.u 19 (.ld none 2 true (.t 3)),.u 20 (.call f2 [(.t 18),(.t 19)]),.u 5 (.alloc [(.lit (.bool false)),.emp]),.n (.st none 2 (.t 5) (.t 20))])
 (.fg [2,3,4,5] (.seq (.ops false [.u 21 (.ld none 2 true (.t 2)),.u 22 (.call f0 [(.t 21)]),.u 23 (.bin .lss (.t 22) (.i 0)),.m 6 (.t 23)])
 (.fg [2,3,4,5,6] (.seq (.seq (.ops false [.m 24 (.t 6)])
 (.fg [2,3,4,5,6,24] (.cond (.t 24) (.ops false [.u 25 (.ld none 2 true (.t 2)),.u 26 (.call f1 [(.t 25)]),.n (.st none 2 (.t 2) (.t 26))]) .skip)))
 (.fg [2,3,4,5,6] (.seq (.ops false [.u 28 (.ld none 2 true (.t 2)),.u 29 (.ld none 2 true (.t 5)),.u 30 (.call f3 [(.t 28),(.t 29)]),.m 27 (.t 30),.u 31 (.ext 0 (.t 27)),.u 32 (.ext 1 (.t 27)),.u 33 (.ext 2 (.t 27)),.n (.st none 2 (.t 2) (.t 31))])
 (.fg [2,3,4,5,6] (.seq (.ops false [.u 35 (.ld none 2 true (.t 3)),.u 36 (.ld none 2 true (.t 5)),.u 37 (.call f3 [(.t 35),(.t 36)]),.m 34 (.t 37),.u 38 (.ext 0 (.t 34)),.u 39 (.ext 1 (.t 34)),.u 40 (.ext 2 (.t 34)),.n (.st none 2 (.t 3) (.t 38))])
 (.fg [2,3,4,6] (.seq (.ops false [.m 41 (.t 6),.u 42 (.fa 1 (.t 2)),.u 43 (.ld none 1 false (.t 42)),.u 44 (.fa 1 (.t 3)),.u 45 (.ld none 1 false (.t 44)),.u 46 (.build [.x 1 (.t 41),.x 1 (.t 43),.x 1 (.t 45)]),.n (.st none 3 (.t 4) (.t 46))])
 .ret)))))))))))))))))
def Ym (f0:Nat):AC:=(.seq (.ops false [.u 0 (.alloc [(.lit (.bool false)),.emp])])
 (.fg [0] (.seq (.ops false [.u 1 (.call f0 [(.i 1)]),.n (.st none 2 (.t 0) (.t 1))])
 .ret)))
def Vo (f0 f1 f2:Nat):AC:=(.seq (.ops false [.u 2 (.alloc [(.lit (.bool false)),.emp,.emp])])
 (.fg [0,2] (.seq (.ops false [.m 3 (.t 0),.u 4 (.call f0 [(.t 3)]),.u 5 (.call f1 []),.u 6 (.call f2 [(.t 4),(.t 5)]),.n (.st none 3 (.t 2) (.t 6))])
 .ret)))
def vm (f0 f1 f2:Nat):AC:=(.seq (.ops false [.u 1 (.box 3 (.t 0)),.u 2 (.alloc [(.lit (.bool false)),.emp,.emp])])
 (.fg [1,2] (.seq (.ops false [.u 6 (.ld none 3 true (.t 1)),.u 7 (.call f0 [(.t 6)]),.m 5 (.t 7),.u 8 (.ext 0 (.t 5)),.u 9 (.ext 1 (.t 5)),.u 3 (.alloc [(.lit (.bool false)),.emp]),.u 4 (.alloc [(.lit (.bool false)),.emp]),.n (.st none 2 (.t 3) (.t 8)),.n (.st none 2 (.t 4) (.t 9))])
 (.fg [2,3,4] (.seq (.ops true [.u 10 (.ld none 2 true (.t 3)),.u 11 (.call f1 [(.t 10)]),.u 12 (.ld none 2 true (.t 4)),.u 13 (.call f2 [(.t 11),(.t 12)]),.n (.st none 3 (.t 2) (.t 13))])
 .ret)))))
def Zl (f0 f1:Nat):AC:=(.seq (.ops false [.u 1 (.box 3 (.t 0)),.m 2 (.i 0)])
 (.fg [1] (.seq (.ops false [.u 6 (.ld none 3 true (.t 1)),.u 7 (.call f0 [(.t 6)]),.m 5 (.t 7),.u 8 (.ext 0 (.t 5)),.u 9 (.ext 1 (.t 5)),.u 3 (.alloc [(.lit (.bool false)),.emp]),.u 4 (.alloc [(.lit (.bool false)),.emp]),.n (.st none 2 (.t 3) (.t 8)),.n (.st none 2 (.t 4) (.t 9))])
 (.fg [3] (.seq (.ops false [.u 10 (.ld none 2 true (.t 3)),.u 11 (.call f1 [(.t 10)]),.m 2 (.t 11)])
 .ret)))))
def Wt (f0 f1 f2:Nat):AC:=(.seq (.ops false [.u 2 (.box 3 (.t 0)),.u 3 (.box 3 (.t 1)),.m 4 (.i 0)])
 (.fg [2,3] (.seq (.ops false [.u 10 (.ld none 3 true (.t 2)),.u 11 (.call f0 [(.t 10)]),.m 9 (.t 11),.u 12 (.ext 0 (.t 9)),.u 13 (.ext 1 (.t 9)),.u 5 (.alloc [(.lit (.bool false)),.emp]),.u 6 (.alloc [(.lit (.bool false)),.emp]),.n (.st none 2 (.t 5) (.t 12)),.n (.st none 2 (.t 6) (.t 13))])
 (.fg [3,5,6] (.seq (.ops false [.u 15 (.ld none 3 true (.t 3)),.u 16 (.call f0 [(.t 15)]),.m 14 (.t 16),.u 17 (.ext 0 (.t 14)),.u 18 (.ext 1 (.t 14)),.u 7 (.alloc [(.lit (.bool false)),.emp]),.u 8 (.alloc [(.lit (.bool false)),.emp]),.n (.st none 2 (.t 7) (.t 17)),.n (.st none 2 (.t 8) (.t 18))])
 (.fg [5,6,7,8] (.seq (.ops true [.u 19 (.ld none 2 true (.t 5)),.u 20 (.ld none 2 true (.t 8)),.u 21 (.call f1 [(.t 19),(.t 20)]),.u 22 (.ld none 2 true (.t 7)),.u 23 (.ld none 2 true (.t 6)),.u 24 (.call f1 [(.t 22),(.t 23)]),.u 25 (.call f2 [(.t 21),(.t 24)]),.m 4 (.t 25)])
 .ret)))))))
def Wm (f0 f1 f2 f3:Nat):AC:=(.seq (.ops false [.u 2 (.box 3 (.t 0)),.u 3 (.box 3 (.t 1)),.u 4 (.alloc [(.lit (.bool false)),.emp,.emp])])
 (.fg [2,3,4] (.seq (.ops false [.u 10 (.ld none 3 true (.t 2)),.u 11 (.call f0 [(.t 10)]),.m 9 (.t 11),.u 12 (.ext 0 (.t 9)),.u 13 (.ext 1 (.t 9)),.u 5 (.alloc [(.lit (.bool false)),.emp]),.u 6 (.alloc [(.lit (.bool false)),.emp]),.n (.st none 2 (.t 5) (.t 12)),.n (.st none 2 (.t 6) (.t 13))])
 (.fg [3,4,5,6] (.seq (.ops false [.u 15 (.ld none 3 true (.t 3)),.u 16 (.call f0 [(.t 15)]),.m 14 (.t 16),.u 17 (.ext 0 (.t 14)),.u 18 (.ext 1 (.t 14)),.u 7 (.alloc [(.lit (.bool false)),.emp]),.u 8 (.alloc [(.lit (.bool false)),.emp]),.n (.st none 2 (.t 7) (.t 17)),.n (.st none 2 (.t 8) (.t 18))])
 (.fg [4,5,6,7,8] (.seq (.ops true [.u 19 (.ld none 2 true (.t 5)),.u 20 (.ld none 2 true (.t 8)),.u 21 (.call f1 [(.t 19),(.t 20)]),.u 22 (.ld none 2 true (.t 7)),.u 23 (.ld none 2 true (.t 6)),.u 24 (.call f1 [(.t 22),(.t 23)]),.u 25 (.call f2 [(.t 21),(.t 24)]),.u 26 (.ld none 2 true (.t 6)),.u 27 (.ld none 2 true (.t 8)),.u 28 (.call f1 [(.t 26),(.t 27)]),.u 29 (.call f3 [(.t 25),(.t 28)]),.n (.st none 3 (.t 4) (.t 29))])
 .ret)))))))
def Um (f0 f1:Nat):AC:=(.seq (.ops false [.u 2 (.box 3 (.t 0)),.u 3 (.box 3 (.t 1)),.u 4 (.alloc [(.lit (.bool false)),.emp,.emp])])
 (.fg [2,3,4] (.seq (.ops true [.u 5 (.ld none 3 true (.t 2)),.u 6 (.ld none 3 true (.t 3)),.u 7 (.call f0 [(.t 6)]),.u 8 (.call f1 [(.t 5),(.t 7)]),.n (.st none 3 (.t 4) (.t 8))])
 .ret)))
def yp (f0 f1 tE:Nat):AC:=(.seq (.ops false [.u 2 (.box 2 (.t 0)),.u 3 (.box 2 (.t 1)),.u 4 (.alloc [(.lit (.bool false)),.emp,.emp]),.m 5 (.c (.one (.lit .nilIface)))])
 (.fg [2,3,4] (.seq (.seq (.ops false [.u 6 (.ld none 2 true (.t 3)),.u 7 (.call f0 [(.t 6)]),.u 8 (.bin .eql (.t 7) (.i 0))])
 (.fg [2,3,4,8] (.cond (.t 8) (.seq (.ops false [.u 9 (.build [.z [(.lit (.bool false)),.emp,.emp]]),.u 10 (.iface tE (.i 8)),.n (.st none 3 (.t 4) (.t 9)),.m 5 (.t 10)])
 .ret) .skip)))
 (.fg [2,3,4] (.seq (.ops false [.u 11 (.ld none 2 true (.t 2)),.u 12 (.ld none 2 true (.t 3)),.u 13 (.call f1 [(.t 11),(.t 12)]),.n (.st none 3 (.t 4) (.t 13)),.m 5 (.c (.one (.lit .nilIface)))])
 .ret)))))
theorem xaV {n:Int}:n.sign<0↔n<0:=by
 rcases Int.lt_trichotomy n 0 with h | h | h
 .rw [Int.sign_eq_neg_one_of_neg h];omega
 .subst h;simp
 .rw [Int.sign_eq_one_of_pos h];omega
theorem qB {n d N D:Int} {g:Nat} {m:Bool} (hd:d≠0) (hn:n≠0) (hN:0<=N) (hD:0<=D) (e1:N.natAbs=n.natAbs) (e2:D.natAbs=d.natAbs) (eg:g=Int.gcd n d) (em:m=decide (d.sign*n<0)) :
  AV.agg [.lit (.bool m),zm (zcan (N / (g:Int))),zm (zcan (D / (g:Int)))]=.agg [cb (rcan (Rat.divInt n d)),cn (rcan (Rat.divInt n d)),cd (rcan (Rat.divInt n d))]:=by
 obtain ⟨N',rfl⟩:=Int.eq_ofNat_of_zero_le hN
 obtain ⟨D',rfl⟩:=Int.eq_ofNat_of_zero_le hD
 simp only [Int.natAbs_natCast]at e1 e2
 subst e1 e2 eg em
 rw [YaC,UaF,ZaC,jM hd hn,JaE,JaE]
 simp only [zcan]
 rw [<-Int.natCast_ediv,<-Int.natCast_ediv]
 simp only [Int.natAbs_natCast]
theorem WaI {v w:Int} {s:Nat} (h:w≠0) (hw:zs w<=s):zs ((Int.gcd v w:Nat):Int)<=s:=by
 refine Nat.le_trans (Jae ?_) hw
 simp only [Int.natAbs_natCast]
 exact Nat.le_of_dvd (by omega) (Int.gcd_dvd_natAbs_right _ _)
theorem yad {a b:Int}:ordI a b=0↔a=b:=by unfold ordI;split <;> (try split) <;> omega
theorem xaO {l:List Nat} (h:l≠[]):vldW (false,l)=decide (NZ l):=by unfold vldW;rw [if_neg h]
theorem zv_f {l:List Nat} (h:NZ l):zv (false,l)=(val l:Int):=by
 unfold zv
 by_cases e:l=[]
 .subst e;simp [vldW]
 .rw [xaO e];simp [h]
theorem vN (hΓ:Holds P Γ) {f fo:Nat} (ho:Γ fo=.dat false XF) (hc:check P f=some (2,(Ym fo).strip,[.cell 0 2 true])):Sound P f (.dat false kp):=by
 refine ja hc YaZ hΓ (λargs K hcl hfi hG=>?_)
 match args,hG with
 | [],hG=>
  have hK:=hG
  simp only [kp]at hK
  refine ⟨by simp,?_⟩
  simp only [go_sem,Ym,ho]
  refine ⟨by omega,by omega,hK⟩
theorem XZ (hΓ:Holds P Γ) {f fv fg fo fc:Nat} (hv:Γ fv=.dat true qj) (hg:Γ fg=.dat false xt) (ho:Γ fo=.dat false kp) (hc' : Γ fc=.dat true JA) (hc:check P f=some (50,(yn fv fg fo fc).strip,[.tmp 2])):Sound P f (.dat true yd):=by
 refine ja hc kL hΓ (λargs K hcl hfi hG=>?_)
 match args,hG with
 | [a],hG=>
  obtain ⟨x,rfl,hx,hl,hK⟩:=hG
  refine ⟨by simp,?_⟩
  simp only [go_sem,yn,hv,hg,ho,hc',YaC,UaF,ZaC]
  have hl1:x.2.1.length<=4294967296:=Nat.le_trans (Nat.le_max_left _ _) hl
  have hl2:x.2.2.length<=4294967296:=Nat.le_trans (Nat.le_max_right _ _) hl
  have key:x.2.1≠[]->x.2.2≠[]->WL x.2.1/\(vldW (false,x.2.1)=true->WL x.2.2/\(vldW (false,x.2.2)=true->WL x.2.1/\WL x.2.2/\zs (zv (false,x.2.1))<=17179869184/\zs (zv (false,x.2.2))<=17179869184/\
    K (AV.one (C.lit (Value.bool (decide (ordI (((zv (false,x.2.1)).gcd (zv (false,x.2.2)):Nat):Int) 1=0))))))/\(vldW (false,x.2.2)=false->K (AV.one (C.lit (Value.bool false)))))/\(vldW (false,x.2.1)=false->K (AV.one (C.lit (Value.bool false)))):=by
   intro hn hd
   unfold vldR at hK
   rw [if_neg (λe=>hn e.1)]at hK
   rw [xaO hn,xaO hd]
   refine ⟨hx.1,λh1=>⟨hx.2,λh2=>⟨hx.1,hx.2,?_,?_,?_⟩,λh2=>?_⟩,λh1=>?_⟩
   .rw [zv_f (of_decide_eq_true h1),V8,Yd hx.1 (of_decide_eq_true h1)];omega
   .rw [zv_f (of_decide_eq_true h2),V8,Yd hx.2 (of_decide_eq_true h2)];omega
   .rw [zv_f (of_decide_eq_true h1),zv_f (of_decide_eq_true h2)]
    have e:decide (ordI (((((val x.2.1:Nat):Int)).gcd ((val x.2.2:Nat):Int):Nat):Int) 1=0)=decide (x.2.1≠[]/\x.2.2≠[]/\NZ x.2.1/\NZ x.2.2/\Nat.gcd (val x.2.1) (val x.2.2)=1):=by
     rw [decide_eq_decide,yad,Int.gcd_natCast_natCast]
     have h1':=of_decide_eq_true h1
     have h2':=of_decide_eq_true h2
     constructor
     .intro h;exact ⟨hn,hd,h1',h2',by omega⟩
     .rintro ⟨_,_,_,_,h⟩;omega
    rw [e];exact hK
   .rw [decide_eq_false (λh=>of_decide_eq_false h2 h.2.2.2.1)]at hK;exact hK
   .rw [decide_eq_false (λh=>of_decide_eq_false h1 h.2.2.1)]at hK;exact hK
  have e0:∀{l:List Nat},¬l.length=0->l≠[]:=λh e=>h (by rw [e];rfl)
  have key0:¬(x.2.1=[]/\x.2.2=[])->(x.2.1=[]∨x.2.2=[])->K (AV.one (C.lit (Value.bool false))):=by
   intro h1 h2
   unfold vldR at hK
   rw [if_neg h1,decide_eq_false (λh=>h2.elim h.1 h.2.1)]at hK
   exact hK
  refine λ_=>⟨λhn _=>⟨λhd=>?_,λhd _=>⟨λh=>?_,λh=>absurd hn h⟩⟩,λhn _=>⟨λh=>absurd h hn,λ_ _=>⟨λhd=>?_,λhd=>key (e0 hn) (e0 hd)⟩⟩⟩
  .unfold vldR at hK
   rw [if_pos ⟨List.eq_nil_of_length_eq_zero hn,List.eq_nil_of_length_eq_zero hd⟩]at hK;exact hK
  .exact key0 (λh=>e0 hd h.2) (.inl (List.eq_nil_of_length_eq_zero hn))
  .exact key0 (λh=>e0 hn h.1) (.inr (List.eq_nil_of_length_eq_zero hd))
theorem UZ (hΓ:Holds P Γ) {f fv fo:Nat} (hv:Γ fv=.dat true yd) (ho:Γ fo=.dat false kp) (hc:check P f=some (28,(Wn fv fo).strip,[.cell 2 2 true,.cell 3 2 true])):Sound P f (.dat false jd):=by
 refine ja hc QL hΓ (λargs K hcl hfi hG=>?_)
 match args,hG with
 | [a],hG=>
  obtain ⟨x,rfl,hx,hl,hK⟩:=hG
  refine ⟨by simp,?_⟩
  simp only [go_sem,Wn,hv,ho,YaC,UaF,ZaC]
  have hl1:x.2.1.length<=4294967296:=Nat.le_trans (Nat.le_max_left _ _) hl
  have hl2:x.2.2.length<=4294967296:=Nat.le_trans (Nat.le_max_right _ _) hl
  have e0:(zcan 0)=(false,[]):=by simp [zcan,Qb]
  have h0:rv x=0->K (AV.tup [AV.agg [C.lit (Value.bool false),C.slice []],AV.agg [zb (zcan 1),zm (zcan 1)]]):=by
   intro h
   rw [h]at hK
   have e1:((0:Rat).num)=0:=rfl
   have e2:((0:Rat).den:Int)=1:=rfl
   rw [e1,e2,e0]at hK;exact hK
  refine ⟨hx,hl,λhv _=>⟨λhn=>h0 ?_,λhn=>⟨by omega,by omega,?_⟩⟩,λhv=>h0 (uaj hv)⟩
  .unfold rv;rw [if_pos hv,List.eq_nil_of_length_eq_zero hn];simp [val,sg]
  .obtain ⟨p1,p2,p3,p4,p5,p6⟩:=kX hx hv (λe=>hn (by rw [e];rfl))
   have hn0:=qc p4 (λe=>hn (by rw [e];rfl))
   rw [p1,p2]at hK
   have e1:zcan (sg x.1 (val x.2.1))=(x.1,x.2.1):=by
    rw [<-vQ,Yd hx.1 p4]
    have:decide (0<x.2.1.length)=true:=by simp only [decide_eq_true_eq];omega
    rw [this,Bool.and_true]
   have e2:zcan ((val x.2.2:Nat):Int)=(false,x.2.2):=by
    have:=vQ false (val x.2.2)
    rw [Yd hx.2 p5,Bool.false_and]at this
    exact this.symm
   rw [e1,e2]at hK;exact hK
theorem wai (hΓ:Holds P Γ) {f fs fn fg fd:Nat} (hs:Γ fs=.dat true yf) (hn:Γ fn=.dat false Qv) (hg:Γ fg=.dat false xt) (hd:Γ fd=.dat false zF) (hc:check P f=some (47,(Jq fs fn fg fd).strip,[.cell 4 3 true])):Sound P f (.dat false uh):=by
 refine ja hc ZN hΓ (λargs K hcl hfi hG=>?_)
 match args,hG with
 | [a,b],hG=>
  obtain ⟨v,rfl,hv,w,rfl,hw,hz,hz',h0,hK⟩:=hG
  refine ⟨by simp,?_⟩
  simp only [go_sem,Jq,hs,hn,hg,hd,hv,hw]
  generalize zv v=n at *
  generalize zv w=d at *
  have hd0:=h0
  refine ⟨λh=>?_,λh=>?_⟩
  .rw [Int.sign_eq_zero_iff_zero.1 h,Rat.zero_divInt,ub]at hK;exact hK
  have hn0:n≠0:=λe=>h (by rw [e];rfl)
  have hg0:((Int.gcd n d:Nat):Int)≠0:=by
   have:=Int.gcd_pos_of_ne_zero_left d hn0;omega
  have hgz:zs ((Int.gcd n d:Nat):Int)<=17179869184:=WaI hd0 hz'
  simp only [Int.gcd_neg,Int.neg_gcd,X9,xaV]
  refine ⟨λhdn=>⟨by omega,by omega,hz,hz',λhnn=>⟨by omega,hz,hgz,hg0,hz',hgz,hg0,?_⟩,λhnn=>⟨hz,hgz,hg0,hz',hgz,hg0,?_⟩⟩,λhdn=>⟨hz,hz',λhnn=>⟨by omega,hz,hgz,hg0,hz',hgz,hg0,?_⟩,λhnn=>⟨hz,hgz,hg0,hz',hgz,hg0,?_⟩⟩⟩
  .rw [qB hd0 hn0 (by omega) (by omega) (by omega) (by omega) rfl (by rw [decide_eq_decide,Int.sign_eq_neg_one_of_neg hdn];omega)];exact hK
  .rw [qB hd0 hn0 (by omega) (by omega) (by omega) (by omega) rfl (by rw [decide_eq_decide,Int.sign_eq_neg_one_of_neg hdn];omega)];exact hK
  .rw [qB hd0 hn0 (by omega) (by omega) (by omega) (by omega) rfl (by rw [decide_eq_decide,Int.sign_eq_one_of_pos (by omega)];omega)];exact hK
  .rw [qB hd0 hn0 (by omega) (by omega) (by omega) (by omega) rfl (by rw [decide_eq_decide,Int.sign_eq_one_of_pos (by omega)];omega)];exact hK
theorem QY (hΓ:Holds P Γ) {f fo fn ff:Nat} (ho:Γ fo=.dat false XF) (hn:Γ fn=.dat false kp) (hf:Γ ff=.dat false uh) (hc:check P f=some (7,(Vo fo fn ff).strip,[.cell 2 3 true])):Sound P f (.dat false yz):=by
 refine ja hc qba hΓ (λargs K hcl hfi hG=>?_)
 match args,hG with
 | [a],hG=>
  obtain ⟨k,n,rfl,rfl,hn1,hn2,hK⟩:=Ua hG
  refine ⟨by simp,?_⟩
  simp only [go_sem,Vo,ho,hn,hf]
  have e:Rat.divInt n 1=(n:Rat):=Rat.num_divInt_den (n:Rat)
  rw [e]
  have h1:zs 1<=2:=qV (by decide)
  have h2:zs n<=2:=qV (by omega)
  exact ⟨hn1,hn2,by omega,by omega,by decide,hK⟩
theorem UM (hΓ:Holds P Γ) {f fp fn ff:Nat} (hp:Γ fp=.dat false jd) (hn:Γ fn=.dat false Qv) (hf:Γ ff=.dat false uh) (hc:check P f=some (14,(vm fp fn ff).strip,[.cell 2 3 true])):Sound P f (.dat false Vu):=by
 refine ja hc YaR hΓ (λargs K hcl hfi hG=>?_)
 match args,hG with
 | [a],hG=>
  obtain ⟨x,rfl,hx,hl,hK⟩:=hG
  refine ⟨by simp,?_⟩
  simp only [go_sem,vm,hp,hn,hf,hx]
  have n1:=jA hx
  have d1:=wA hx
  rw [qaQ,X9]
  exact ⟨hl,by omega,by omega,by omega,Wz _,hK⟩
theorem JI (hΓ:Holds P Γ) {f fp fs:Nat} (hp:Γ fp=.dat false jd) (hs:Γ fs=.dat true yf) (hc:check P f=some (12,(Zl fp fs).strip,[.tmp 2])):Sound P f (.dat true yj):=by
 refine ja hc uaC hΓ (λargs K hcl hfi hG=>?_)
 match args,hG with
 | [a],hG=>
  obtain ⟨x,rfl,hx,hl,hK⟩:=hG
  refine ⟨by simp,?_⟩
  simp only [go_sem,Zl,hp,hs,hx]
  rw [<-VaO]
  exact ⟨hl,hK⟩
theorem wP (hΓ:Holds P Γ) {f fp fm fa ff:Nat} (hp:Γ fp=.dat false jd) (hm:Γ fm=.dat false ut) (ha:Γ fa=.dat false Vx) (hf:Γ ff=.dat false uh) (hc:check P f=some (30,(Wm fp fm fa ff).strip,[.cell 4 3 true])):Sound P f (.dat false kn):=by
 refine ja hc XaH hΓ (λargs K hcl hfi hG=>?_)
 match args,hG with
 | [a,b],hG=>
  obtain ⟨x,rfl,hx,y,rfl,hy,hl,hl',hK⟩:=hG
  refine ⟨by simp,?_⟩
  simp only [go_sem,Wm,hp,hm,ha,hf,hx,hy]
  have n1:=jA hx
  have d1:=wA hx
  have n2:=jA hy
  have d2:=wA hy
  rw [Int.natCast_mul,YZ]
  have m1:=Zp (rv x).num (rv y).den
  have m2:=Zp (rv y).num (rv x).den
  have m3:=Zp ((rv x).den:Int) (rv y).den
  have a1:=XJ ((rv x).num*(rv y).den) ((rv y).num*(rv x).den)
  exact ⟨hl,hl',by omega,by omega,by omega,by omega,by omega,by omega,by omega,by omega,by omega,by omega,Int.mul_ne_zero (Wz _) (Wz _),hK⟩
theorem YQ (hΓ:Holds P Γ) {f fn fa:Nat} (hn:Γ fn=.dat false Vu) (ha:Γ fa=.dat false kn) (hc:check P f=some (9,(Um fn fa).strip,[.cell 4 3 true])):Sound P f (.dat false Zt):=by
 refine ja hc Ya4 hΓ (λargs K hcl hfi hG=>?_)
 match args,hG with
 | [a,b],hG=>
  obtain ⟨x,rfl,hx,y,rfl,hy,hl,hl',hK⟩:=hG
  refine ⟨by simp,?_⟩
  simp only [go_sem,Um,hn,ha,hx,hy]
  rw [<-Rat.sub_eq_add_neg,yA]
  exact ⟨hl',hl,Nat.le_trans (Jg hy) hl',hK⟩
end Go.Abs
end
section
namespace Go.Num
def bln (n:Nat):Nat:=if n=0 then 0 else bln (n / 2)+1
termination_by n
decreasing_by omega
theorem wH:bln 0=0:=by rw [bln];rfl
theorem jak {n:Nat} (h:n≠0):bln n=bln (n / 2)+1:=by rw [bln,if_neg h]
theorem ybw (n:Nat):n<2 ^ bln n:=by
 induction n using Nat.strongRecOn with
 | _ n ih=>
  by_cases h:n=0
  .subst h;rw [wH];decide
  .rw [jak h,Nat.pow_succ]
   have:=ih (n / 2) (by omega)
   omega
theorem ubd {n k:Nat} (h:n<2 ^ k):bln n<=k:=by
  induction k generalizing n with
  | zero => have : n = 0 := by omega
            subst this;rw [wH];exact Nat.le_refl _
  | succ k ih=>
    by_cases h0:n=0
    . subst h0;rw [wH];omega
    . rw [jak h0]
      have:=ih (n:=n / 2) (by rw [Nat.pow_succ]at h;omega)
      omega
theorem qX (l:List Nat) (m:Nat):val l=val (l.take m)+4294967296 ^ m*val (l.drop m):=by
 by_cases h:m<=l.length
 .conv=>lhs;rw [<-List.take_append_drop m l,Yb,List.length_take,Nat.min_eq_left h]
 .rw [List.take_of_length_le (by omega),List.drop_of_length_le (by omega)];simp [val]
theorem UA (l:List Nat) (m:Nat):val (l.drop m)=l.getD m 0+4294967296*val (l.drop (m+1)):=by
 by_cases h:m<l.length
 .have:=yJ l (n:=m+1) (by omega) (by omega)
  exact this
 .rw [List.drop_of_length_le (by omega),List.drop_of_length_le (by omega),List.getD_eq_getElem?_getD,List.getElem?_eq_none (by omega)];simp [val]
theorem Wag {l:List Nat} (h:WL l) (m:Nat):val (l.take m)<4294967296 ^ m:=
 Nat.lt_of_lt_of_le (wm (zy h m)) (Nat.pow_le_pow_right (by omega) (by rw [List.length_take];omega))
theorem Xbd {x y:List Nat} {m:Nat} (hx:WL x) (hd:val (x.drop (m+1))=val (y.drop (m+1))) (h:x.getD m 0<y.getD m 0):val x<val y:=by
 have h1:=qX x m
 have h2:=qX y m
 have h3:=Wag hx m
 rw [UA,hd]at h1
 rw [UA]at h2
 generalize 4294967296 ^ m=p at *
 have:p*(x.getD m 0+4294967296*val (y.drop (m+1))+1)<=p*(y.getD m 0+4294967296*val (y.drop (m+1))):=Nat.mul_le_mul_left _ (by omega)
 rw [Nat.mul_add p _ 1]at this
 omega
theorem jX {x y c:Nat} (hx:x<4294967296) (hy:y<4294967296) (hc:c<=1):∃s:Nat,((((4294967296+(x:Int)) % 18446744073709551616-(y:Int)) % 18446744073709551616-(c:Int)) % 18446744073709551616)=(s:Int)/\
  (1-(s:Int) / 4294967296) % 18446744073709551616=((1-s / 4294967296:Nat):Int)/\s % 4294967296+y+c=x+4294967296*(1-s / 4294967296)/\1-s / 4294967296<=1:=by
 exact ⟨4294967296+x-y-c,by omega,by omega,by omega,by omega⟩
theorem qa6 {V Q c xa ya a b u w B:Nat} (h:V+Q*c=xa+ya) (hs:u+B*w=a+b+c):V+Q*u+Q*B*w=xa+Q*a+(ya+Q*b):=by
 have:=congrArg (Q * ·) hs
 simp only [Nat.mul_add]at this
 rw [Nat.mul_assoc Q B w]
 omega
theorem vaT {o l post:List Nat} (h:o.length<=l.length):(o++(l.drop o.length++post)).length=l.length+post.length:=by simp;omega
theorem Qai {o l post:List Nat} (h:o.length<=l.length):(o++(l.drop o.length++post)).take l.length=o++l.drop o.length:=by
 rw [<-List.append_assoc,List.take_append_of_le_length (by simp;omega),List.take_of_length_le (by simp;omega)]
theorem Van (o l:List Nat) (k:Nat):(o++l.drop o.length).getD (o.length+k) 0=l.getD (o.length+k) 0:=by
 simp only [List.getD_eq_getElem?_getD]
 rw [List.getElem?_append_right (by omega),List.getElem?_drop,show o.length+(o.length+k-o.length)=o.length+k by omega]
theorem vU (o l:List Nat):(o++l.drop o.length).getD o.length 0=l.getD o.length 0:=Van o l 0
theorem jar {o l post:List Nat} (v:Nat) (h:o.length<l.length):(o++(l.drop o.length++post)).set o.length v=(o++[v])++(l.drop (o++[v]).length++post):=by
 have:=vaf [] o l post v h
 simpa using this
theorem wbn {o l:List Nat} (h:o.length<=l.length):(o++l.drop o.length).length=l.length:=by simp;omega
theorem xbl {o l:List Nat} (v:Nat) (h:o.length<l.length):(o++l.drop o.length).set o.length v=(o++[v])++l.drop (o++[v]).length:=by
 have:=jar (post:=[]) v h
 simpa using this
theorem xbq {o l:List Nat} (ho:WL o) (hl:WL l):WL (o++l.drop o.length):=Qe.2 ⟨ho,Qbr hl _⟩
theorem Ua5 {a b:Nat} (ha:a<4294967296) (hb:b<4294967296):(a / 2 ||| b*2147483648 % 18446744073709551616) % 4294967296=(a+4294967296*b) / 2 ^ 1 % 4294967296:=by
 have:=Nat.two_pow_add_eq_or_of_lt (i:=31) (b:=a / 2) (by omega) b
 rw [Nat.mod_eq_of_lt (show b*2147483648<18446744073709551616 by omega),Nat.or_comm,show b*2147483648=2 ^ 31*b by omega,<-this]
 omega
theorem WaW {l post:List Nat} {i:Nat} (h:i<l.length):(l++post).getD i 0=l.getD i 0:=by
 simp only [List.getD_eq_getElem?_getD];rw [List.getElem?_append_left h]
theorem Qm {a:Nat} (h:a≠0):0<(digs a).length:=by rw [Ur h];simp
theorem Xw {a:Nat} (h:a≠0) (p:List Nat):(digs a++p).getD 0 0=a % 4294967296:=by rw [Ur h];rfl
theorem yw {a:Nat}:(digs a).length=0↔a=0:=by rw [List.length_eq_zero_iff,xf]
theorem wbz {a b k g:Nat} (ha:a % 2=0) (hb:b % 2=0) (h:Nat.gcd a b*2 ^ k=g):Nat.gcd (a / 2) (b / 2)*2 ^ (k+1)=g:=by
 obtain ⟨a',rfl⟩:∃a',a=2*a':=⟨a / 2,by omega⟩
 obtain ⟨b',rfl⟩:∃b',b=2*b':=⟨b / 2,by omega⟩
 rw [Nat.gcd_mul_left]at h
 rw [Nat.mul_div_cancel_left _ (by omega),Nat.mul_div_cancel_left _ (by omega),Nat.pow_succ,<-h]
 rw [Nat.mul_comm (2 ^ k) 2,<-Nat.mul_assoc,Nat.mul_comm _ 2]
theorem vaM {a b:Nat} (ha:a % 2=0) (hb:b % 2≠0):Nat.gcd (a / 2) b=Nat.gcd a b:=by
 obtain ⟨a',rfl⟩:∃a',a=2*a':=⟨a / 2,by omega⟩
 rw [Nat.mul_div_cancel_left _ (by omega)]
 have:Nat.Coprime 2 b:=by
  rw [Nat.coprime_iff_gcd_eq_one,Nat.gcd_rec,show b % 2=1 by omega];rfl
 exact (Nat.Coprime.gcd_mul_left_cancel a' this).symm
theorem vbd {a b:Nat} (ha:a % 2≠0) (hb:b % 2=0):Nat.gcd a (b / 2)=Nat.gcd a b:=by
 rw [Nat.gcd_comm a,Nat.gcd_comm a];exact vaM hb ha
theorem jT {a b:Nat} (h:b<=a):Nat.gcd (a-b) b=Nat.gcd a b:=Nat.gcd_sub_self_left h
theorem qbk {k n:Nat} (h:2 ^ k<=n) {s:Nat} (hn:n<4294967296 ^ s):k<32*s:=by
 have e:(4294967296:Nat) ^ s=2 ^ (32*s):=by rw [Nat.pow_mul]
 rw [e]at hn
 exact (Nat.pow_lt_pow_iff_right (by omega)).1 (Nat.lt_of_le_of_lt h hn)
theorem JH {a b:Nat}:ordN a b<0↔a<b:=by unfold ordN;split <;> (try split) <;> omega
theorem Vbm {x:List Nat} (hx:WL x) (h:x.length≠0):val x<2 ^ (32*(x.length-1)+bln (x.getD (x.length-1) 0)):=by
 have h1:=qX x (x.length-1)
 have h2:=UA x (x.length-1)
 rw [show x.length-1+1=x.length by omega,List.drop_length]at h2
 have h3:=Wag hx (x.length-1)
 have h4:=ybw (x.getD (x.length-1) 0)
 have e:(4294967296:Nat) ^ (x.length-1)=2 ^ (32*(x.length-1)):=by rw [Nat.pow_mul]
 rw [h2,show val []=0 from rfl,Nat.mul_zero,Nat.add_zero]at h1
 rw [Nat.pow_add,<-e]
 generalize 4294967296 ^ (x.length-1)=p at *
 generalize 2 ^ bln (x.getD (x.length-1) 0)=q at *
 have:p*(x.getD (x.length-1) 0+1)<=p*q:=Nat.mul_le_mul_left _ h4
 rw [Nat.mul_add,Nat.mul_one]at this
 omega
theorem digit (x:List Nat) {m:Nat} (hx:WL x):val x / 4294967296 ^ m=x.getD m 0+4294967296*val (x.drop (m+1)):=by
 rw [qX x m,UA,Nat.add_mul_div_left _ _ (Nat.pow_pos (by omega)),Nat.div_eq_of_lt (Wag hx m),Nat.zero_add]
theorem jK (i:Nat):(2:Nat) ^ i=4294967296 ^ (i / 32)*2 ^ (i % 32):=by
 have e:(4294967296:Nat) ^ (i / 32)=2 ^ (32*(i / 32)):=by rw [Nat.pow_mul]
 rw [e,<-Nat.pow_add,Nat.div_add_mod]
theorem zbD {x:List Nat} (hx:WL x) (i:Nat):x.getD (i / 32) 0 / 2 ^ (i % 32) % 2=val x / 2 ^ i % 2:=by
 rw [jK i,<-Nat.div_div_eq_div_mul,digit x hx]
 have hs:i % 32<32:=Nat.mod_lt _ (by omega)
 generalize i % 32=s at *
 generalize val (x.drop (i / 32+1))=r
 have e:(4294967296:Nat)=2 ^ s*(2*2 ^ (31-s)):=by
  rw [Nat.mul_left_comm,<-Nat.pow_add,show s+(31-s)=31 by omega]
 rw [e,Nat.mul_assoc,Nat.add_mul_div_left _ _ (Nat.pow_pos (by omega)),Nat.mul_assoc,Nat.add_mul_mod_self_left]
theorem yap (v i:Nat):v / 2 ^ i=2*(v / 2 ^ (i+1))+v / 2 ^ i % 2:=by
 rw [Nat.pow_succ,<-Nat.div_div_eq_div_mul];omega
theorem Ybw {a c:Nat} (hc:c<=1):a*2 % 4294967296 ||| c=a*2 % 4294967296+c:=by
 have:=Nat.two_pow_add_eq_or_of_lt (i:=1) (b:=c) (by omega) (a*2 % 4294967296 / 2)
 rw [show 2 ^ 1*(a*2 % 4294967296 / 2)=a*2 % 4294967296 by omega]at this
 exact this.symm
theorem vbl {a s:Nat} (hs:s<32) (h:a % 2 ^ (s+1)=0):a ||| 2 ^ s=a+2 ^ s:=by
 have:=Nat.two_pow_add_eq_or_of_lt (i:=s+1) (b:=2 ^ s) (Nat.pow_lt_pow_right (by omega) (by omega)) (a / 2 ^ (s+1))
 rw [Nat.mul_div_cancel' (Nat.dvd_of_mod_eq_zero h)]at this
 exact this.symm
theorem Za5 {q:List Nat} (hq:WL q) {i Q:Nat} (h:val q=Q*2 ^ (i+1)):q.getD (i / 32) 0 % 2 ^ (i % 32+1)=0:=by
 have hs:i % 32<32:=Nat.mod_lt _ (by omega)
 have h1:=digit q hq (m:=i / 32)
 have e1:(2:Nat) ^ (i+1)=4294967296 ^ (i / 32)*2 ^ (i % 32+1):=by rw [Nat.pow_succ,jK,Nat.pow_succ,Nat.mul_assoc]
 rw [h,e1,Nat.mul_left_comm,Nat.mul_div_cancel_left _ (Nat.pow_pos (by omega))]at h1
 generalize i % 32=s at *
 generalize val (q.drop (i / 32+1))=r at *
 have e2:(4294967296:Nat)=2 ^ (s+1)*2 ^ (31-s):=by
  rw [<-Nat.pow_add,show s+1+(31-s)=32 by omega]
 have:(q.getD (i / 32) 0+4294967296*r) % 2 ^ (s+1)=0:=by rw [<-h1];exact Nat.mul_mod_left _ _
 rw [e2,Nat.mul_assoc,Nat.add_mul_mod_self_left]at this
 exact this
theorem xa6 {vo p c tr bit x:Nat} (h:vo+p*c=2*tr+bit) (hx:x<4294967296):vo+p*(x*2 % 4294967296+c)+p*4294967296*(x / 2147483648)=2*(tr+p*x)+bit:=by
 have e:x*2 % 4294967296+4294967296*(x / 2147483648)=2*x:=by omega
 have:=congrArg (p * ·) e
 simp only [Nat.mul_add]at this ⊢
 rw [Nat.mul_assoc p 4294967296]
 have e2:p*(2*x)=2*(p*x):=by rw [Nat.mul_left_comm]
 omega
theorem qaX {v y i q r bit:Nat} (hy:0<y) (hb:v / 2 ^ i % 2=bit) (hq:q=v / 2 ^ (i+1) / y*2 ^ (i+1)) (hr:r=v / 2 ^ (i+1) % y) (h:y<=2*r+bit):q+2 ^ i=v / 2 ^ i / y*2 ^ i/\2*r+bit-y=v / 2 ^ i % y:=by
 have e:=yap v i
 rw [hb]at e
 have d:=Nat.div_add_mod (v / 2 ^ (i+1)) y
 have hm:=Nat.mod_lt (v / 2 ^ (i+1)) hy
 rw [<-hr]at d hm
 generalize hQ:v / 2 ^ (i+1) / y=Q at *
 generalize v / 2 ^ (i+1)=X at *
 have hb1:bit<=1:=by omega
 have key:v / 2 ^ i=y*(2*Q+1)+(2*r+bit-y):=by
  have e2:y*(2*Q+1)=2*(y*Q)+y:=by rw [Nat.mul_add,Nat.mul_one,Nat.mul_left_comm y 2 Q]
  rw [e,<-d,e2];omega
 have hlt:2*r+bit-y<y:=by omega
 constructor
 .rw [key,Nat.mul_add_div hy,Nat.div_eq_of_lt hlt,Nat.add_zero,hq,Nat.pow_succ,Nat.add_mul,Nat.one_mul,Nat.mul_comm 2 Q,Nat.mul_assoc,Nat.mul_comm 2]
 .rw [key,Nat.mul_add_mod,Nat.mod_eq_of_lt hlt]
theorem xa2 {v y i q r bit:Nat} (hy:0<y) (hb:v / 2 ^ i % 2=bit) (hq:q=v / 2 ^ (i+1) / y*2 ^ (i+1)) (hr:r=v / 2 ^ (i+1) % y) (h:2*r+bit<y):q=v / 2 ^ i / y*2 ^ i/\2*r+bit=v / 2 ^ i % y:=by
 have e:=yap v i
 rw [hb]at e
 have d:=Nat.div_add_mod (v / 2 ^ (i+1)) y
 rw [<-hr]at d
 generalize hQ:v / 2 ^ (i+1) / y=Q at *
 generalize v / 2 ^ (i+1)=X at *
 have key:v / 2 ^ i=y*(2*Q)+(2*r+bit):=by
  have e2:y*(2*Q)=2*(y*Q):=by rw [Nat.mul_left_comm y 2 Q]
  rw [e,<-d,e2];omega
 constructor
 .rw [key,Nat.mul_add_div hy,Nat.div_eq_of_lt h,Nat.add_zero,hq,Nat.pow_succ,Nat.mul_comm 2 Q,Nat.mul_assoc,Nat.mul_comm 2]
 .rw [key,Nat.mul_add_mod,Nat.mod_eq_of_lt h]
end Go.Num
namespace Go.Abs
open Go.Num
theorem share4 {c1 c2 c3 p d1 d2 d3 q X L:Prop} (h1:c1) (h2:c2) (h3:c3) (k1:d1) (k2:d2) (k3:d3) (hx:p->q->X) (hl:¬p∨¬q->L):c1/\c2/\c3/\(p->d1/\d2/\d3/\(q->X)/\(¬q->L))/\(¬p->L):=
 ⟨h1,h2,h3,λhp=>⟨k1,k2,k3,hx hp,λhq=>hl (.inr hq)⟩,λhp=>hl (.inl hp)⟩
theorem Xm (K:AV->Prop) (a:Nat):arith K .and .u32 (a:Int) 1=(a<2 ^ IntKind.u32.bits/\intR K .u32 ((a % 2:Nat):Int)):=zaG K .u32 a rfl (by decide)
theorem JZ {h' : Nat->HB} {k v v' z:Nat} {b:Bool} {es:List (List C)} {l' : List Nat} {r:List (Nat×HB)} (e:es=l'.map wc):okH (mkH ((k,⟨v,some ⟨es,z,b⟩⟩)::r)) h' [(k,⟨v',some ⟨l'.map wc,z,b⟩⟩)]:=by
 subst e;exact Uf rfl
theorem VaW {h h' : Nat->HB} {z:Nat} {b:Bool} {es:List (List C)} {l' : List Nat} (e:es=l'.map wc):okB h h' (some ⟨es,z,b⟩) (some ⟨l'.map wc,z,b⟩):=by
 subst e;exact Zb rfl
theorem xaX (L:List Nat) (i s:Nat):(L.map wc).set i [C.lit (.int .u32 ((s:Int) % 4294967296))]=(L.set i (s % 4294967296)).map wc:=by
 rw [List.map_set];simp [wc]
def onWx (k:List Nat->Prop) (a:AV):Prop:=∃l,(a=.one (ws l)∨a=.one (.full (l.map wc))∨(a=.one .emp/\l=[]))/\WL l/\k l
@[congr] theorem JbR {k:List Nat->Prop} {a a' : AV} (h:a=a'):onWx k a=onWx k a':=by subst h;rfl
theorem xac (k:List Nat->Prop) (l:List Nat):onWx k (.one (.slice (l.map wc)))=(WL l/\k l):=by
 refine propext ⟨λ⟨x,h,h1,h2⟩=>?_,λh=>⟨l,.inl rfl,h⟩⟩
 rcases h with h | h | h
 .have:=yy l x h;subst this;exact ⟨h1,h2⟩
 .simp at h
 .simp at h
theorem zaV (k:List Nat->Prop) (l:List Nat):onWx k (.one (.full (l.map wc)))=(WL l/\k l):=by
 refine propext ⟨λ⟨x,h,h1,h2⟩=>?_,λh=>⟨l,.inr (.inl rfl),h⟩⟩
 rcases h with h | h | h
 .simp [ws]at h
 .have:=qS (x:=l) (y:=x) (by simpa using h);subst this;exact ⟨h1,h2⟩
 .simp at h
theorem Va1 (k:List Nat->Prop):onWx k (.one .emp)=k []:=by
 refine propext ⟨λ⟨x,h,h1,h2⟩=>?_,λh=>⟨[],.inr (.inr ⟨rfl,rfl⟩),Ub,h⟩⟩
 rcases h with h | h | h
 .simp [ws]at h
 .simp at h
 .obtain ⟨_,rfl⟩:=h;exact h2
attribute [go_sem] xac zaV Va1
attribute [go_sem ↓] xac zaV Va1
theorem Ubt {β:Type} {T:List Nat->(β->Prop)->Prop} (h:∀l,GoodT (T l)) {a:AV}:GoodT λK=>onWx (λl=>T l K) a:=
 .of λK hx=>by
  obtain ⟨l,ha,hw,hk⟩:=hx
  rcases ha with ha | ha | ⟨ha,rfl⟩
  .have:(λK=>onWx (λl=>T l K) a)=λK=>WL l/\T l K:=funext λK=>by rw [ha];exact xac _ l
   rw [this];exact .and λ_=>h l
  .have:(λK=>onWx (λl=>T l K) a)=λK=>WL l/\T l K:=funext λK=>by rw [ha];exact zaV _ l
   rw [this];exact .and λ_=>h l
  .have:(λK=>onWx (λl=>T l K) a)=T []:=funext λK=>by rw [ha];exact Va1 _
   rw [this];exact h []
def Xu (l:List AV) (K:List (List C)->Prop):Prop:=
 match l with
 | [a]=>onWx (λl=>l.length<=68719476736/\K ((digs (val l)).map wc)) a
 | _=>False
theorem qaJ (a:AV) (K:List (List C)->Prop):Xu [a] K=(onWx (λl=>l.length<=68719476736/\K ((digs (val l)).map wc)) a):=propext Iff.rfl
@[congr] theorem wbL {K:List (List C)->Prop} {l l' : List AV} (h:l=l'):Xu l K=Xu l' K:=by subst h;rfl
attribute [go_sem] qaJ
attribute [go_sem ↓] qaJ
theorem Ja0:Good Xu:=Va λas=>by
 unfold Xu
 split
 .exact (Ubt λ_=>(.and λ_=>(.ret _)))
 .exact .of λK hk=>hk.elim
def Ju (l:List AV) (K:AV->Prop):Prop:=
 match l with
 | [a,b]=>onWs (λx=>onWs (λy=>K (.one (.lit (.int .i64 (ordN (val x) (val y)))))) b) a
 | _=>False
theorem xan (a b:AV) (K:AV->Prop):Ju [a,b] K=(onWs (λx=>onWs (λy=>K (.one (.lit (.int .i64 (ordN (val x) (val y)))))) b) a):=propext Iff.rfl
@[congr] theorem zbF {K:AV->Prop} {l l' : List AV} (h:l=l'):Ju l K=Ju l' K:=by subst h;rfl
attribute [go_sem] xan
attribute [go_sem ↓] xan
theorem XaA:Good Ju:=Va λas=>by
 unfold Ju
 split
 .exact (xe λ_=>(xe λ_=>(.ret _)))
 .exact .of λK hk=>hk.elim
def Ux (l:List AV) (K:AV->Prop):Prop:=
 match l with
 | [a,b]=>onWs (λx=>onWs (λy=>x.length<=17179869184/\y.length<=17179869184/\K (.one (.slice ((digs (Nat.gcd (val x) (val y))).map wc)))) b) a
 | _=>False
theorem Yaw (a b:AV) (K:AV->Prop):Ux [a,b] K=(onWs (λx=>onWs (λy=>x.length<=17179869184/\y.length<=17179869184/\K (.one (.slice ((digs (Nat.gcd (val x) (val y))).map wc)))) b) a):=propext Iff.rfl
@[congr] theorem YbI {K:AV->Prop} {l l' : List AV} (h:l=l'):Ux l K=Ux l' K:=by subst h;rfl
attribute [go_sem] Yaw
attribute [go_sem ↓] Yaw
theorem ZaD:Good Ux:=Va λas=>by
 unfold Ux
 split
 .exact (xe λ_=>(xe λ_=>(.and λ_=>(.and λ_=>(.ret _)))))
 .exact .of λK hk=>hk.elim
def Vr (l:List AV) (K:AV->Prop):Prop:=
 match l with
 | [a]=>onWs (λx=>x.length<=68719476736/\K (.one (.lit (.int .i64 ((if x.length=0 then 0 else 32*(x.length-1)+bln (x.getD (x.length-1) 0):Nat):Int))))) a
 | _=>False
theorem Xab (a:AV) (K:AV->Prop):Vr [a] K=(onWs (λx=>x.length<=68719476736/\K (.one (.lit (.int .i64 ((if x.length=0 then 0 else 32*(x.length-1)+bln (x.getD (x.length-1) 0):Nat):Int))))) a):=propext Iff.rfl
@[congr] theorem Qbs {K:AV->Prop} {l l' : List AV} (h:l=l'):Vr l K=Vr l' K:=by subst h;rfl
attribute [go_sem] Xab
attribute [go_sem ↓] Xab
theorem Jaj:Good Vr:=Va λas=>by
 unfold Vr
 split
 .exact (xe λ_=>(.and λ_=>(.ret _)))
 .exact .of λK hk=>hk.elim
def VD (l:List AV) (K:AV->Prop):Prop:=
 match l with
 | [a,b]=>onW (λv=>onW (λw=>zs (zv v)<=17179869184/\zs (zv w)<=17179869184/\K (.agg [zb (zcan (zv v-zv w)),zm (zcan (zv v-zv w))])) b) a
 | _=>False
theorem vaU (a b:AV) (K:AV->Prop):VD [a,b] K=(onW (λv=>onW (λw=>zs (zv v)<=17179869184/\zs (zv w)<=17179869184/\K (.agg [zb (zcan (zv v-zv w)),zm (zcan (zv v-zv w))])) b) a):=propext Iff.rfl
@[congr] theorem QbQ {K:AV->Prop} {l l' : List AV} (h:l=l'):VD l K=VD l' K:=by subst h;rfl
attribute [go_sem] vaU
attribute [go_sem ↓] vaU
theorem JaR:Good VD:=Va λas=>by
 unfold VD
 split
 .exact (Jm λ_=>(Jm λ_=>(.and λ_=>(.and λ_=>(.ret _)))))
 .exact .of λK hk=>hk.elim
def yr (l:List AV) (K:AV->Prop):Prop:=
 match l with
 | [a,b]=>onW (λv=>onW (λw=>zs (zv v)<=17179869184/\zs (zv w)<=17179869184/\zs (zv v-zv w)<=17179869184/\K (.one (.lit (.int .i64 (ordI (zv v) (zv w)))))) b) a
 | _=>False
theorem Jac (a b:AV) (K:AV->Prop):yr [a,b] K=(onW (λv=>onW (λw=>zs (zv v)<=17179869184/\zs (zv w)<=17179869184/\zs (zv v-zv w)<=17179869184/\K (.one (.lit (.int .i64 (ordI (zv v) (zv w)))))) b) a):=propext Iff.rfl
@[congr] theorem xbw {K:AV->Prop} {l l' : List AV} (h:l=l'):yr l K=yr l' K:=by subst h;rfl
attribute [go_sem] Jac
attribute [go_sem ↓] Jac
theorem qai:Good yr:=Va λas=>by
 unfold yr
 split
 .exact (Jm λ_=>(Jm λ_=>(.and λ_=>(.and λ_=>(.and λ_=>(.ret _))))))
 .exact .of λK hk=>hk.elim
def vr (l:List AV) (K:AV->Prop):Prop:=
 match l with
 | [a,b]=>onW (λv=>onW (λw=>zs (zv v)<=17179869184/\zs (zv w)<=17179869184/\zv w≠0/\K (.tup [.agg [zb (zcan (zv v / zv w)),zm (zcan (zv v / zv w))],.agg [zb (zcan (zv v % zv w)),zm (zcan (zv v % zv w))],.one (.lit (.int .i64 0))])) b) a
 | _=>False
theorem U0 (a b:AV) (K:AV->Prop):vr [a,b] K=(onW (λv=>onW (λw=>zs (zv v)<=17179869184/\zs (zv w)<=17179869184/\zv w≠0/\K (.tup [.agg [zb (zcan (zv v / zv w)),zm (zcan (zv v / zv w))],.agg [zb (zcan (zv v % zv w)),zm (zcan (zv v % zv w))],.one (.lit (.int .i64 0))])) b) a):=propext Iff.rfl
@[congr] theorem kbB {K:AV->Prop} {l l' : List AV} (h:l=l'):vr l K=vr l' K:=by subst h;rfl
attribute [go_sem] U0
attribute [go_sem ↓] U0
theorem kai:Good vr:=Va λas=>by
 unfold vr
 split
 .exact (Jm λ_=>(Jm λ_=>(.and λ_=>(.and λ_=>(.and λ_=>(.ret _))))))
 .exact .of λK hk=>hk.elim
def J7 (d:Option Nat) (args:List AV) (h:Nat->HB) (K:AV->(Nat->HB)->Prop):Prop:=
 match args with
 | [.one (.own r ver 1 0 len)]=>∃l post,len=l.length/\h r=⟨ver,some ⟨(l++post).map wc,1,true⟩⟩/\WL l/\len<=68719476736/\
   ∀post',K (.one (.own r ver 1 0 (digs (val l)).length)) (upd h r ⟨ver,some ⟨(digs (val l)++post').map wc,1,true⟩⟩)
 | _=>False
@[congr] theorem jbT {d:Option Nat} {l l' : List AV} {h h' : Nat->HB} {K:AV->(Nat->HB)->Prop} (e1:l=l') (e2:h=h'):J7 d l h K=J7 d l' h' K:=by subst e1;subst e2;rfl
def Wq (d:Option Nat) (args:List AV) (h:Nat->HB) (K:AV->(Nat->HB)->Prop):Prop:=
 match args with
 | [.one (.own r ver 1 0 len)]=>∃l post,len=l.length/\h r=⟨ver,some ⟨(l++post).map wc,1,true⟩⟩/\WL l/\len<=68719476736/\
   ∀post',K (.one (.own r ver 1 0 (digs (val l / 2)).length)) (upd h r ⟨ver,some ⟨(digs (val l / 2)++post').map wc,1,true⟩⟩)
 | _=>False
@[congr] theorem UbF {d:Option Nat} {l l' : List AV} {h h' : Nat->HB} {K:AV->(Nat->HB)->Prop} (e1:l=l') (e2:h=h'):Wq d l h K=Wq d l' h' K:=by subst e1;subst e2;rfl
def Wx (d:Option Nat) (args:List AV) (h:Nat->HB) (K:AV->(Nat->HB)->Prop):Prop:=
 match args with
 | [.one (.own r ver 1 0 len),.one (.own r2 ver2 1 0 len2)]=>∃l post y posty,r≠r2/\len=l.length/\h r=⟨ver,some ⟨(l++post).map wc,1,true⟩⟩/\WL l/\len<=68719476736/\
   len2=y.length/\h r2=⟨ver2,some ⟨(y++posty).map wc,1,true⟩⟩/\WL y/\val y<=val l/\
   K (.tup []) (upd (upd h r2 ⟨ver2,some ⟨(y++posty).map wc,1,true⟩⟩) r ⟨ver,some ⟨(dig l.length (val l-val y)++post).map wc,1,true⟩⟩)
 | [.one (.own r ver 1 0 len),b]=>onWs (λy=>∃l post,len=l.length/\h r=⟨ver,some ⟨(l++post).map wc,1,true⟩⟩/\WL l/\len<=68719476736/\val y<=val l/\
   K (.tup []) (upd h r ⟨ver,some ⟨(dig l.length (val l-val y)++post).map wc,1,true⟩⟩)) b
 | _=>False
@[congr] theorem qbK {d:Option Nat} {l l' : List AV} {h h' : Nat->HB} {K:AV->(Nat->HB)->Prop} (e1:l=l') (e2:h=h'):Wx d l h K=Wx d l' h' K:=by subst e1;subst e2;rfl
end Go.Abs
end
section
namespace Go.Abs
open Go.Num
variable {P:Program} {Γ:Nat->Spec}
def kg (f0 f1 f2 f3:Nat):AC:=(.seq (.ops false [.u 1 (.box 3 (.t 0)),.m 2 .fa])
 (.fg [1] (.seq (.seq (.ops false [.u 3 (.fa 1 (.t 1)),.u 4 (.ld none 1 false (.t 3)),.u 5 (.len (.t 4)),.u 6 (.bin .eql (.t 5) (.i 0)),.m 7 (.t 6),.w 8 7 true (.fa 2 (.t 1)),.w 9 7 true (.ld none 1 false (.t 8)),.w 10 7 true (.len (.t 9)),.w 11 7 true (.bin .eql (.t 10) (.i 0)),.u 12 (.pick (.t 7) (.t 11) .fa)])
 (.fg [1,12] (.cond (.t 12) (.seq (.ops false [.u 13 (.fa 0 (.t 1)),.u 14 (.ld none 1 false (.t 13)),.u 15 (.un .not (.t 14)),.m 2 (.t 15)])
 .ret) .skip)))
 (.fg [1] (.seq (.ops false [.u 16 (.fa 1 (.t 1)),.u 17 (.ld none 1 false (.t 16)),.u 18 (.call f0 [(.t 17)]),.m 19 (.t 18),.w 20 19 true (.fa 2 (.t 1)),.w 21 19 true (.ld none 1 false (.t 20)),.w 22 19 true (.call f0 [(.t 21)]),.u 23 (.pick (.t 19) (.t 22) .fa),.m 24 (.t 23),.w 25 24 true (.fa 1 (.t 1)),.w 26 24 true (.ld none 1 false (.t 25)),.w 27 24 true (.build [.z [(.lit (.bool false))],.x 1 (.t 26)]),.w 28 24 true (.fa 2 (.t 1)),.w 29 24 true (.ld none 1 false (.t 28)),.w 30 24 true (.build [.z [(.lit (.bool false))],.x 1 (.t 29)]),.w 31 24 true (.call f1 [(.t 27),(.t 30)]),.w 32 24 true (.call f2 []),.w 33 24 true (.call f3 [(.t 31),(.t 32)]),.w 34 24 true (.bin .eql (.t 33) (.i 0)),.u 35 (.pick (.t 24) (.t 34) .fa),.m 2 (.t 35)])
 .ret)))))
def zh (f0 f1:Nat):AC:=(.seq (.ops false [.u 1 (.box 3 (.t 0)),.u 2 (.alloc [(.lit (.bool false)),.emp]),.u 3 (.alloc [(.lit (.bool false)),.emp])])
 (.fg [1,2,3] (.seq (.seq (.ops false [.u 4 (.ld none 3 true (.t 1)),.u 5 (.call f0 [(.t 4)]),.u 6 (.un .not (.t 5)),.m 7 (.t 6),.w 8 7 false (.fa 1 (.t 1)),.w 9 7 false (.ld none 1 false (.t 8)),.w 10 7 false (.len (.t 9)),.w 11 7 false (.bin .eql (.t 10) (.i 0)),.u 12 (.pick (.t 7) .tr (.t 11))])
 (.fg [1,2,3,12] (.cond (.t 12) (.seq (.ops false [.u 13 (.build [.z [(.lit (.bool false)),.emp]]),.u 14 (.call f1 []),.n (.st none 2 (.t 2) (.t 13)),.n (.st none 2 (.t 3) (.t 14))])
 .ret) .skip)))
 (.fg [1,2,3] (.seq (.ops true [.u 15 (.fa 0 (.t 1)),.u 16 (.ld (some 1) 1 false (.t 15)),.u 17 (.fa 1 (.t 1)),.u 18 (.ld (some 1) 1 false (.t 17)),.u 19 (.build [.x 1 (.t 16),.x 1 (.t 18)]),.u 20 (.fa 2 (.t 1)),.u 21 (.ld (some 1) 1 false (.t 20)),.u 22 (.build [.z [(.lit (.bool false))],.x 1 (.t 21)]),.n (.st (some 2) 2 (.t 2) (.t 19)),.n (.st (some 3) 2 (.t 3) (.t 22))])
 .ret)))))
def ji (f0 f1 f2 f3:Nat):AC:=(.seq (.ops false [.u 2 (.box 2 (.t 0)),.u 3 (.box 2 (.t 1)),.u 4 (.alloc [(.lit (.bool false)),.emp,.emp])])
 (.fg [2,3,4] (.seq (.seq (.ops false [.u 12 (.ld none 2 true (.t 2)),.u 13 (.call f0 [(.t 12)]),.u 14 (.bin .eql (.t 13) (.i 0))])
 (.fg [2,3,4,14] (.cond (.t 14) (.seq (.ops false [.u 15 (.build [.z [(.lit (.bool false)),.emp,.emp]]),.n (.st none 3 (.t 4) (.t 15))])
 .ret) .skip)))
 (.fg [2,3,4] (.seq (.seq (.ops false [.u 16 (.ld none 2 true (.t 3)),.u 17 (.call f0 [(.t 16)]),.u 18 (.bin .lss (.t 17) (.i 0))])
 (.fg [2,3,4,18] (.cond (.t 18) (.ops true [.u 19 (.ld none 2 true (.t 2)),.u 20 (.call f1 [(.t 19)]),.u 21 (.ld none 2 true (.t 3)),.u 22 (.call f1 [(.t 21)]),.n (.st none 2 (.t 2) (.t 20)),.n (.st none 2 (.t 3) (.t 22))]) .skip)))
 (.fg [2,3,4] (.seq (.ops false [.u 23 (.ld none 2 true (.t 2)),.u 24 (.ld none 2 true (.t 3)),.u 25 (.call f2 [(.t 23),(.t 24)]),.u 5 (.alloc [(.lit (.bool false)),.emp]),.n (.st none 2 (.t 5) (.t 25))])
 (.fg [2,3,4,5] (.seq (.ops false [.u 27 (.ld none 2 true (.t 2)),.u 28 (.ld none 2 true (.t 5)),.u 29 (.call f3 [(.t 27),(.t 28)]),.m 26 (.t 29),.u 30 (.ext 0 (.t 26)),.u 31 (.ext 1 (.t 26)),.u 32 (.ext 2 (.t 26)),.u 6 (.alloc [(.lit (.bool false)),.emp]),.u 7 (.alloc [(.lit (.bool false)),.emp]),.n (.st none 2 (.t 6) (.t 30)),.n (.st none 2 (.t 7) (.t 31)),.m 8 (.t 32)])
 (.fg [3,4,5,6] (.seq (.ops false [.u 34 (.ld none 2 true (.t 3)),.u 35 (.ld none 2 true (.t 5)),.u 36 (.call f3 [(.t 34),(.t 35)]),.m 33 (.t 36),.u 37 (.ext 0 (.t 33)),.u 38 (.ext 1 (.t 33)),.u 39 (.ext 2 (.t 33)),.u 9 (.alloc [(.lit (.bool false)),.emp]),.u 10 (.alloc [(.lit (.bool false)),.emp]),.n (.st none 2 (.t 9) (.t 37)),.n (.st none 2 (.t 10) (.t 38)),.m 11 (.t 39)])
 (.fg [4,6,9] (.seq (.ops false [.u 40 (.fa 0 (.t 6)),.u 41 (.ld none 1 false (.t 40)),.u 42 (.fa 1 (.t 6)),.u 43 (.ld none 1 false (.t 42)),.u 44 (.fa 1 (.t 9)),.u 45 (.ld none 1 false (.t 44)),.u 46 (.build [.x 1 (.t 41),.x 1 (.t 43),.x 1 (.t 45)]),.n (.st none 3 (.t 4) (.t 46))])
 .ret)))))))))))))
def uj (f0 f1:Nat):AC:=(.seq (.ops false [.u 2 (.box 3 (.t 0)),.u 3 (.box 3 (.t 1)),.m 4 (.i 0)])
 (.fg [2,3] (.seq (.ops false [.u 5 (.ld none 3 true (.t 2)),.u 6 (.ld none 3 true (.t 3)),.u 7 (.call f0 [(.t 5),(.t 6)]),.u 8 (.call f1 [(.t 7)]),.m 4 (.t 8)])
 .ret)))
def yi (f0 f1:Nat):AC:=(.seq (.ops false [.u 2 (.box 2 (.t 0)),.u 3 (.box 2 (.t 1)),.u 4 (.alloc [(.lit (.bool false)),.emp,.emp]),.m 5 (.i 0)])
 (.fg [2,3,4] (.seq (.seq (.ops false [.u 6 (.ld none 2 true (.t 3)),.u 7 (.call f0 [(.t 6)]),.u 8 (.bin .eql (.t 7) (.i 0))])
 (.fg [2,3,4,8] (.cond (.t 8) (.seq (.ops false [.u 9 (.build [.z [(.lit (.bool false)),.emp,.emp]]),.n (.st none 3 (.t 4) (.t 9)),.m 5 (.i 8)])
 .ret) .skip)))
 (.fg [2,3,4] (.seq (.ops false [.u 10 (.ld none 2 true (.t 2)),.u 11 (.ld none 2 true (.t 3)),.u 12 (.call f1 [(.t 10),(.t 11)]),.n (.st none 3 (.t 4) (.t 12)),.m 5 (.i 0)])
 .ret)))))
def Wg:AC:=(.seq (.ops false [.m 2 .fa])
 (.fg [0] (.seq (.ops false [.m 3 (.t 0),.u 4 (.len (.t 3)),.u 5 (.bin .gtr (.t 4) (.i 0)),.m 6 (.t 5),.w 7 6 true (.mv (.t 0)),.w 8 6 true (.mv (.t 0)),.w 9 6 true (.len (.t 8)),.w 10 6 true (.bin .sub (.t 9) (.i 1)),.w 11 6 true (.idx 1 (.t 7) (.t 10)),.w 12 6 true (.ld none 1 false (.t 11)),.w 13 6 true (.bin .neq (.t 12) (.c (.one (.lit (.int .u32 0))))),.u 14 (.pick (.t 6) (.t 13) .fa),.m 2 (.t 14)])
 .ret)))
def wi (f0 f1:Nat):AC:=(.seq (.ops false [.u 4 (.alloc [(.lit (.bool false)),.emp,.emp]),.m 5 (.i 0)])
 (.fg [0,1,4] (.seq (.ops false [.m 6 (.t 0),.u 7 (.call f0 [(.t 6)]),.m 8 (.t 1),.u 9 (.call f0 [(.t 8)]),.u 10 (.call f1 [(.t 7),(.t 9)]),.u 11 (.ext 0 (.t 10)),.u 12 (.ext 1 (.t 10)),.n (.st none 3 (.t 4) (.t 11)),.m 5 (.t 12)])
 .ret)))
theorem JJ {n d N D:Int} {g:Nat} (hd:d≠0) (hn:n≠0) (hN:N=d.sign*n) (hD:0<=D) (e2:D.natAbs=d.natAbs) (eg:g=Int.gcd n d) :
  AV.agg [zb (zcan (N / (g:Int))),zm (zcan (N / (g:Int))),zm (zcan (D / (g:Int)))]=.agg [cb (rcan (Rat.divInt n d)),cn (rcan (Rat.divInt n d)),cd (rcan (Rat.divInt n d))]:=by
 obtain ⟨D',rfl⟩:=Int.eq_ofNat_of_zero_le hD
 simp only [Int.natAbs_natCast]at e2
 subst e2 eg hN
 have hg:0<Int.gcd n d:=Int.gcd_pos_of_ne_zero_left _ hn
 rw [YaC,UaF,ZaC,jM hd hn,JaE,JaE,Ybj]
 have hdv:((Int.gcd n d:Nat):Int) ∣ d.sign*n:=Int.dvd_mul_of_dvd_right (Int.gcd_dvd_left _ _)
 obtain ⟨k,hk⟩:=hdv
 have hs:(d.sign*n).natAbs=n.natAbs:=by
  rw [Int.natAbs_mul,Int.natAbs_sign_of_ne_zero hd,Nat.one_mul]
 have e:(d.sign*n / ((Int.gcd n d:Nat):Int))=k:=by rw [hk,Int.mul_ediv_cancel_left _ (by omega)]
 rw [e,<-Int.natCast_ediv]
 simp only [zcan,Int.natAbs_natCast]
 have hk2:k.natAbs=n.natAbs / Int.gcd n d:=by
  rw [<-hs,hk,Int.natAbs_mul]
  simp only [Int.natAbs_natCast]
  rw [Nat.mul_div_cancel_left _ hg]
 have:decide (k<0)=decide (d.sign*n<0):=by
  rw [decide_eq_decide,hk]
  constructor
  .intro h;exact Int.mul_neg_of_pos_of_neg (by omega) h
  .intro h
   rcases Int.lt_or_le k 0 with h' | h'
   .exact h'
   .have:=Int.mul_nonneg (show (0:Int)<=((Int.gcd n d:Nat):Int) by omega) h';omega
 rw [hk2,this]
theorem XM (hΓ:Holds P Γ) {f:Nat} (hc:check P f=some (15,Wg.strip,[.tmp 2])):Sound P f (.dat true Uq):=by
 refine ja hc vaj hΓ (λargs K hcl hfi hG=>?_)
 match args,hG with
 | [a],hG=>
  obtain ⟨l,rfl,hl,hK⟩:=hG
  refine ⟨by simp,?_⟩
  simp only [go_sem,Wg]
  intro _
  refine ⟨λh _=>⟨by omega,by omega,by omega,?_⟩,λh=>?_⟩
  .have hne:l≠[]:=λe=>by rw [e]at h;simp at h
   rw [show ((l.length:Int)-1).toNat=l.length-1 by omega]
   have e:(!decide (l.getD (l.length-1) 0=0))=decide (l≠[]/\NZ l):=by
    rw [<-decide_not,decide_eq_decide]
    unfold NZ
    rw [List.getLast?_eq_getElem?,List.getElem?_eq_getElem (by omega),List.getD_eq_getElem?_getD,List.getElem?_eq_getElem (by omega)]
    simp [hne]
   rw [e];exact hK
  .have hne:l=[]:=List.eq_nil_of_length_eq_zero (by omega)
   rw [decide_eq_false (λe=>e.1 hne)]at hK;exact hK
theorem xM (hΓ:Holds P Γ) {f fv fg fo fc:Nat} (hv:Γ fv=.dat true Uq) (hg:Γ fg=.dat false xt) (ho:Γ fo=.dat false kp) (hc' : Γ fc=.dat true yr) (hc:check P f=some (36,(kg fv fg fo fc).strip,[.tmp 2])):Sound P f (.dat true yd):=by
 refine ja hc kL hΓ (λargs K hcl hfi hG=>?_)
 match args,hG with
 | [a],hG=>
  obtain ⟨x,rfl,hx,hl,hK⟩:=hG
  refine ⟨by simp,?_⟩
  simp only [go_sem,kg,hv,hg,ho,hc',YaC,UaF,ZaC]
  have hl1:x.2.1.length<=4294967296:=Nat.le_trans (Nat.le_max_left _ _) hl
  have hl2:x.2.2.length<=4294967296:=Nat.le_trans (Nat.le_max_right _ _) hl
  have e0:∀{l:List Nat},¬l.length=0->l≠[]:=λh e=>h (by rw [e];rfl)
  have key:¬(x.2.1=[]/\x.2.2=[])->WL x.2.1/\(x.2.1≠[]/\NZ x.2.1->WL x.2.2/\(x.2.2≠[]/\NZ x.2.2->WL x.2.1/\WL x.2.2/\zs (zv (false,x.2.1))<=17179869184/\zs (zv (false,x.2.2))<=17179869184/\
    zs (((zv (false,x.2.1)).gcd (zv (false,x.2.2)):Nat):Int)<=17179869184/\zs 1<=17179869184/\zs ((((zv (false,x.2.1)).gcd (zv (false,x.2.2)):Nat):Int)-1)<=17179869184/\
    K (AV.one (C.lit (Value.bool (decide (ordI (((zv (false,x.2.1)).gcd (zv (false,x.2.2)):Nat):Int) 1=0))))))/\(¬(x.2.2≠[]/\NZ x.2.2)->K (AV.one (C.lit (Value.bool false)))))/\(¬(x.2.1≠[]/\NZ x.2.1)->K (AV.one (C.lit (Value.bool false)))):=by
   intro hnd
   unfold vldR at hK
   rw [if_neg hnd]at hK
   refine ⟨hx.1,λh1=>⟨hx.2,λh2=>?_,λh2=>?_⟩,λh1=>?_⟩
   .have s2:zs (zv (false,x.2.2))<=4294967296:=by rw [zv_f h2.2,V8,Yd hx.2 h2.2];exact hl2
    have hne:zv (false,x.2.2)≠0:=by
     rw [zv_f h2.2];have:=qc h2.2 h2.1;omega
    have s3:=WaI (v:=zv (false,x.2.1)) hne s2
    have s4:zs 1<=2:=qV (by decide)
    have s5:=XJ ((((zv (false,x.2.1)).gcd (zv (false,x.2.2)):Nat):Int)) (-1)
    rw [X9,<-Int.sub_eq_add_neg]at s5
    refine ⟨hx.1,hx.2,?_,by omega,by omega,by omega,by omega,?_⟩
    .rw [zv_f h1.2,V8,Yd hx.1 h1.2];omega
    .rw [zv_f h1.2,zv_f h2.2]
     have e:decide (ordI (((((val x.2.1:Nat):Int)).gcd ((val x.2.2:Nat):Int):Nat):Int) 1=0)=decide (x.2.1≠[]/\x.2.2≠[]/\NZ x.2.1/\NZ x.2.2/\Nat.gcd (val x.2.1) (val x.2.2)=1):=by
      rw [decide_eq_decide,yad,Int.gcd_natCast_natCast]
      constructor
      .intro h;exact ⟨h1.1,h2.1,h1.2,h2.2,by omega⟩
      .rintro ⟨_,_,_,_,h⟩;omega
     rw [e];exact hK
   .rw [decide_eq_false (λh=>h2 ⟨h.2.1,h.2.2.2.1⟩)]at hK;exact hK
   .rw [decide_eq_false (λh=>h1 ⟨h.1,h.2.2.1⟩)]at hK;exact hK
  refine λ_=>⟨λhn _=>⟨λhd=>?_,λhd=>key (λh=>e0 hd h.2)⟩,λhn=>key (λh=>e0 hn h.1)⟩
  unfold vldR at hK
  rw [if_pos ⟨List.eq_nil_of_length_eq_zero hn,List.eq_nil_of_length_eq_zero hd⟩]at hK;exact hK
theorem WM (hΓ:Holds P Γ) {f fv fo:Nat} (hv:Γ fv=.dat true yd) (ho:Γ fo=.dat false kp) (hc:check P f=some (23,(zh fv fo).strip,[.cell 2 2 true,.cell 3 2 true])):Sound P f (.dat false jd):=by
 refine ja hc QL hΓ (λargs K hcl hfi hG=>?_)
 match args,hG with
 | [a],hG=>
  obtain ⟨x,rfl,hx,hl,hK⟩:=hG
  refine ⟨by simp,?_⟩
  simp only [go_sem,zh,hv,ho,YaC,UaF,ZaC]
  have hl1:x.2.1.length<=4294967296:=Nat.le_trans (Nat.le_max_left _ _) hl
  have hl2:x.2.2.length<=4294967296:=Nat.le_trans (Nat.le_max_right _ _) hl
  have e0:(zcan 0)=(false,[]):=by simp [zcan,Qb]
  have h0:rv x=0->K (AV.tup [AV.agg [C.lit (Value.bool false),C.slice []],AV.agg [zb (zcan 1),zm (zcan 1)]]):=by
   intro h
   rw [h]at hK
   have e1:((0:Rat).num)=0:=rfl
   have e2:((0:Rat).den:Int)=1:=rfl
   rw [e1,e2,e0]at hK;exact hK
  refine ⟨hx,hl,λhv _=>⟨λhn=>h0 ?_,λhn=>?_⟩,λhv=>h0 (uaj hv)⟩
  .unfold rv;rw [if_pos hv,List.eq_nil_of_length_eq_zero hn];simp [val,sg]
  .obtain ⟨p1,p2,p3,p4,p5,p6⟩:=kX hx hv (λe=>hn (by rw [e];rfl))
   have hn0:=qc p4 (λe=>hn (by rw [e];rfl))
   rw [p1,p2]at hK
   have e1:zcan (sg x.1 (val x.2.1))=(x.1,x.2.1):=by
    rw [<-vQ,Yd hx.1 p4]
    have:decide (0<x.2.1.length)=true:=by simp only [decide_eq_true_eq];omega
    rw [this,Bool.and_true]
   have e2:zcan ((val x.2.2:Nat):Int)=(false,x.2.2):=by
    have:=vQ false (val x.2.2)
    rw [Yd hx.2 p5,Bool.false_and]at this
    exact this.symm
   rw [e1,e2]at hK;exact hK
theorem JW (hΓ:Holds P Γ) {f fs fn fg fd:Nat} (hs:Γ fs=.dat true yf) (hn:Γ fn=.dat false Qv) (hg:Γ fg=.dat false xt) (hd:Γ fd=.dat false vr) (hc:check P f=some (47,(ji fs fn fg fd).strip,[.cell 4 3 true])):Sound P f (.dat false uh):=by
 refine ja hc ZN hΓ (λargs K hcl hfi hG=>?_)
 match args,hG with
 | [a,b],hG=>
  obtain ⟨v,rfl,hv,w,rfl,hw,hz,hz',h0,hK⟩:=hG
  refine ⟨by simp,?_⟩
  simp only [go_sem,ji,hs,hn,hg,hd,hv,hw]
  generalize zv v=n at *
  generalize zv w=d at *
  have hd0:=h0
  refine ⟨λh=>?_,λh=>?_⟩
  .rw [Int.sign_eq_zero_iff_zero.1 h,Rat.zero_divInt,ub]at hK;exact hK
  have hn0:n≠0:=λe=>h (by rw [e];rfl)
  have hg0:((Int.gcd n d:Nat):Int)≠0:=by
   have:=Int.gcd_pos_of_ne_zero_left d hn0;omega
  have hgz:zs ((Int.gcd n d:Nat):Int)<=17179869184:=WaI hd0 hz'
  simp only [Int.gcd_neg,Int.neg_gcd,X9,xaV]
  refine ⟨λhdn=>⟨by omega,by omega,hz,hz',hz,hgz,hg0,hz',hgz,hg0,?_⟩,λhdn=>⟨hz,hz',hz,hgz,hg0,hz',hgz,hg0,?_⟩⟩
  .rw [JJ hd0 hn0 (by rw [Int.sign_eq_neg_one_of_neg hdn];omega) (by omega) (by omega) rfl];exact hK
  .rw [JJ hd0 hn0 (by rw [Int.sign_eq_one_of_pos (by omega)];omega) (by omega) (by omega) rfl];exact hK
theorem vaa (hΓ:Holds P Γ) {f fs fg:Nat} (hs:Γ fs=.dat false Zt) (hg:Γ fg=.dat true yj) (hc:check P f=some (9,(uj fs fg).strip,[.tmp 4])):Sound P f (.dat true qh):=by
 refine ja hc ZJ hΓ (λargs K hcl hfi hG=>?_)
 match args,hG with
 | [a,b],hG=>
  obtain ⟨x,rfl,hx,y,rfl,hy,hl,hl',hK⟩:=hG
  refine ⟨by simp,?_⟩
  simp only [go_sem,uj,hs,hg,hx,hy]
  have hs1:=yF (rv x) (rv y)
  have h1:=Jg hx
  have h2:=Jg hy
  have e:ordQ (rv x-rv y) 0=ordQ (rv x) (rv y):=by
   unfold ordQ
   have e1:(rv x-rv y<0)=(rv x<rv y):=propext ⟨λh=>by have:=(Rat.sub_lt_iff (a:=rv x) (c:=rv y) (b:=0)).1 h;rwa [Rat.zero_add]at this,λh=>(Rat.sub_lt_iff (a:=rv x) (c:=rv y) (b:=0)).2 (by rwa [Rat.zero_add])⟩
   have e2:(0<rv x-rv y)=(rv y<rv x):=propext (Rat.lt_iff_sub_pos _ _).symm
   simp only [e1,e2]
  rw [e]
  exact ⟨by omega,by omega,by omega,hK⟩
end Go.Abs
end
section
namespace Go.Num
open Go.Abs
theorem rz_0:rz 0=0:=by unfold rz;rw [ub];rfl
theorem rz_1:rz 1<=2:=by
 have:=Vbe 1
 have h1:zs 1<=2:=qV (by decide)
 have e:((1:Int):Rat)=1:=rfl
 rw [e]at this
 omega
theorem wd (p q:Rat):rz (p*q)<=rz p+rz q+2:=by
 rw [<-V9]
 have n1:=xJ p
 have n2:=xJ q
 have d1:=qI p
 have d2:=qI q
 have m1:=Zp p.num q.num
 have m2:=Zp (p.den:Int) (q.den:Int)
 refine jI (by exact Int.mul_ne_zero (Wz _) (Wz _)) (by omega) (by omega)
theorem Yab {p q:Rat} (hq:q≠0):Rat.divInt (p.num*q.den) (p.den*q.num)=p / q:=by
 have hn:q.num≠0:=vaY hq
 have e1:(p.num:Rat) / (p.den:Rat)=p:=by have:=Rat.num_divInt_den p;rw [Rat.divInt_eq_div]at this;exact this
 have e2:(q.num:Rat) / (q.den:Rat)=q:=by have:=Rat.num_divInt_den q;rw [Rat.divInt_eq_div]at this;exact this
 have d1:(p.den:Rat)≠0:=by exact_mod_cast p.den_nz
 have d2:(q.den:Rat)≠0:=by exact_mod_cast q.den_nz
 have d3:(q.num:Rat)≠0:=by exact_mod_cast hn
 rw [Rat.divInt_eq_div]
 simp only [Rat.intCast_mul,Rat.intCast_natCast]
 have f1:(p.num:Rat)=p*(p.den:Rat):=by grind
 have f2:(q.num:Rat)=q*(q.den:Rat):=by grind
 rw [f1,f2]
 grind
theorem JaP (p q:Rat):rz (p / q)<=rz p+rz q+2:=by
 by_cases hq:q=0
 .subst hq
  rw [Rat.div_def,Rat.inv_zero,Rat.mul_zero,rz_0];omega
 .rw [<-Yab hq]
  have n1:=xJ p
  have n2:=xJ q
  have d1:=qI p
  have d2:=qI q
  have m1:=Zp p.num (q.den:Int)
  have m2:=Zp (p.den:Int) q.num
  refine jI (by exact Int.mul_ne_zero (Wz _) (vaY hq)) (by omega) (by omega)
theorem Ybf (p q:Rat):Rat.divInt (p.num*q.den) (p.den*q.num)=p / q:=by
 by_cases hq:q=0
 .subst hq
  rw [show (0:Rat).num=0 from rfl,Int.mul_zero,Rat.divInt_zero,Rat.div_def,Rat.inv_zero,Rat.mul_zero]
 .exact Yab hq
end Go.Num
namespace Go.Abs
open Go.Num
variable {P:Program} {Γ:Nat->Spec}
def rQ (q:Rat):AV:=.agg [cb (rcan q),cn (rcan q),cd (rcan q)]
theorem Ya8 (q:Rat):rQ q=.agg [cb (rcan q),cn (rcan q),cd (rcan q)]:=eq_of_heq (HEq.refl _)
attribute [go_sem] Ya8
attribute [go_sem ↓] Ya8
def Wk (l:List AV) (K:AV->Prop):Prop:=
 match l with
 | [a,b]=>onR (λx=>onR (λy=>rl x<=4294967296/\rl y<=4294967296/\K (rQ (rv x*rv y))) b) a
 | _=>False
theorem WaH (a b:AV) (K:AV->Prop):Wk [a,b] K=(onR (λx=>onR (λy=>rl x<=4294967296/\rl y<=4294967296/\K (rQ (rv x*rv y))) b) a):=propext Iff.rfl
@[congr] theorem wbM {K:AV->Prop} {l l' : List AV} (h:l=l'):Wk l K=Wk l' K:=by subst h;rfl
attribute [go_sem] WaH
attribute [go_sem ↓] WaH
theorem jaI:Good Wk:=Va λas=>by
 unfold Wk
 split
 .exact (Zf λ_=>(Zf λ_=>(.and λ_=>(.and λ_=>(.ret _)))))
 .exact .of λK hk=>hk.elim
def js (tE:Nat) (l:List AV) (K:AV->Prop):Prop:=
 match l with
 | [a,b]=>onW (λv=>onW (λw=>zs (zv v)<=17179869184/\zs (zv w)<=17179869184/\K (.tup [rQ (Rat.divInt (zv v) (zv w)),errV tE (if zv w=0 then 8 else 0)])) b) a
 | _=>False
theorem V3 (tE:Nat) (a b:AV) (K:AV->Prop):js tE [a,b] K=(onW (λv=>onW (λw=>zs (zv v)<=17179869184/\zs (zv w)<=17179869184/\K (.tup [rQ (Rat.divInt (zv v) (zv w)),errV tE (if zv w=0 then 8 else 0)])) b) a):=propext Iff.rfl
@[congr] theorem jbv (tE:Nat) {K:AV->Prop} {l l' : List AV} (h:l=l'):js tE l K=js tE l' K:=by subst h;rfl
attribute [go_sem] V3
attribute [go_sem ↓] V3
theorem Qah (tE:Nat):Good (js tE):=Va λas=>by
 unfold js
 split
 .exact (Jm λ_=>(Jm λ_=>(.and λ_=>(.and λ_=>(.ret _)))))
 .exact .of λK hk=>hk.elim
def jy (tE:Nat) (l:List AV) (K:AV->Prop):Prop:=
 match l with
 | [a,b]=>onR (λx=>onR (λy=>rl x<=4294967296/\rl y<=4294967296/\K (.tup [rQ (rv x / rv y),errV tE (if rv y=0 then 8 else 0)])) b) a
 | _=>False
theorem kay (tE:Nat) (a b:AV) (K:AV->Prop):jy tE [a,b] K=(onR (λx=>onR (λy=>rl x<=4294967296/\rl y<=4294967296/\K (.tup [rQ (rv x / rv y),errV tE (if rv y=0 then 8 else 0)])) b) a):=propext Iff.rfl
@[congr] theorem QbI (tE:Nat) {K:AV->Prop} {l l' : List AV} (h:l=l'):jy tE l K=jy tE l' K:=by subst h;rfl
attribute [go_sem] kay
attribute [go_sem ↓] kay
theorem waB (tE:Nat):Good (jy tE):=Va λas=>by
 unfold jy
 split
 .exact (Zf λ_=>(Zf λ_=>(.and λ_=>(.and λ_=>(.ret _)))))
 .exact .of λK hk=>hk.elim
def yo (l:List AV) (K:AV->Prop):Prop:=
 match l with
 | [a,b]=>onW (λv=>onW (λw=>zs (zv v)<=17179869184/\zs (zv w)<=17179869184/\K (.tup [rQ (Rat.divInt (zv v) (zv w)),.one (.lit (.int .i64 (if zv w=0 then 8 else 0)))])) b) a
 | _=>False
theorem Q4 (a b:AV) (K:AV->Prop):yo [a,b] K=(onW (λv=>onW (λw=>zs (zv v)<=17179869184/\zs (zv w)<=17179869184/\K (.tup [rQ (Rat.divInt (zv v) (zv w)),.one (.lit (.int .i64 (if zv w=0 then 8 else 0)))])) b) a):=propext Iff.rfl
@[congr] theorem kbw {K:AV->Prop} {l l' : List AV} (h:l=l'):yo l K=yo l' K:=by subst h;rfl
attribute [go_sem] Q4
attribute [go_sem ↓] Q4
theorem xai:Good yo:=Va λas=>by
 unfold yo
 split
 .exact (Jm λ_=>(Jm λ_=>(.and λ_=>(.and λ_=>(.ret _)))))
 .exact .of λK hk=>hk.elim
def Jy (l:List AV) (K:AV->Prop):Prop:=
 match l with
 | [a,b]=>onR (λx=>onR (λy=>rl x<=1073741824/\rl y<=1073741824/\K (.tup [rQ (rv x / rv y),.one (.lit (.int .i64 (if rv y=0 then 8 else 0)))])) b) a
 | _=>False
theorem Vam (a b:AV) (K:AV->Prop):Jy [a,b] K=(onR (λx=>onR (λy=>rl x<=1073741824/\rl y<=1073741824/\K (.tup [rQ (rv x / rv y),.one (.lit (.int .i64 (if rv y=0 then 8 else 0)))])) b) a):=propext Iff.rfl
@[congr] theorem jbF {K:AV->Prop} {l l' : List AV} (h:l=l'):Jy l K=Jy l' K:=by subst h;rfl
attribute [go_sem] Vam
attribute [go_sem ↓] Vam
theorem kaE:Good Jy:=Va λas=>by
 unfold Jy
 split
 .exact (Zf λ_=>(Zf λ_=>(.and λ_=>(.and λ_=>(.ret _)))))
 .exact .of λK hk=>hk.elim
def xm (f0 f1 f2:Nat):AC:=(.seq (.ops false [.u 2 (.box 3 (.t 0)),.u 3 (.box 3 (.t 1)),.u 4 (.alloc [(.lit (.bool false)),.emp,.emp])])
 (.fg [2,3,4] (.seq (.ops false [.u 10 (.ld none 3 true (.t 2)),.u 11 (.call f0 [(.t 10)]),.m 9 (.t 11),.u 12 (.ext 0 (.t 9)),.u 13 (.ext 1 (.t 9)),.u 5 (.alloc [(.lit (.bool false)),.emp]),.u 6 (.alloc [(.lit (.bool false)),.emp]),.n (.st none 2 (.t 5) (.t 12)),.n (.st none 2 (.t 6) (.t 13))])
 (.fg [3,4,5,6] (.seq (.ops false [.u 15 (.ld none 3 true (.t 3)),.u 16 (.call f0 [(.t 15)]),.m 14 (.t 16),.u 17 (.ext 0 (.t 14)),.u 18 (.ext 1 (.t 14)),.u 7 (.alloc [(.lit (.bool false)),.emp]),.u 8 (.alloc [(.lit (.bool false)),.emp]),.n (.st none 2 (.t 7) (.t 17)),.n (.st none 2 (.t 8) (.t 18))])
 (.fg [4,5,6,7,8] (.seq (.ops true [.u 19 (.ld none 2 true (.t 5)),.u 20 (.ld none 2 true (.t 7)),.u 21 (.call f1 [(.t 19),(.t 20)]),.u 22 (.ld none 2 true (.t 6)),.u 23 (.ld none 2 true (.t 8)),.u 24 (.call f1 [(.t 22),(.t 23)]),.u 25 (.call f2 [(.t 21),(.t 24)]),.n (.st none 3 (.t 4) (.t 25))])
 .ret)))))))
def zu (f0 f1 f2:Nat):AC:=(.seq (.ops false [.u 2 (.box 3 (.t 0)),.u 3 (.box 3 (.t 1)),.u 4 (.alloc [(.lit (.bool false)),.emp,.emp]),.m 5 (.c (.one (.lit .nilIface)))])
 (.fg [2,3,4] (.seq (.ops false [.u 11 (.ld none 3 true (.t 2)),.u 12 (.call f0 [(.t 11)]),.m 10 (.t 12),.u 13 (.ext 0 (.t 10)),.u 14 (.ext 1 (.t 10)),.u 6 (.alloc [(.lit (.bool false)),.emp]),.u 7 (.alloc [(.lit (.bool false)),.emp]),.n (.st none 2 (.t 6) (.t 13)),.n (.st none 2 (.t 7) (.t 14))])
 (.fg [3,4,6,7] (.seq (.ops false [.u 16 (.ld none 3 true (.t 3)),.u 17 (.call f0 [(.t 16)]),.m 15 (.t 17),.u 18 (.ext 0 (.t 15)),.u 19 (.ext 1 (.t 15)),.u 8 (.alloc [(.lit (.bool false)),.emp]),.u 9 (.alloc [(.lit (.bool false)),.emp]),.n (.st none 2 (.t 8) (.t 18)),.n (.st none 2 (.t 9) (.t 19))])
 (.fg [4,6,7,8,9] (.seq (.ops true [.u 20 (.ld none 2 true (.t 6)),.u 21 (.ld none 2 true (.t 9)),.u 22 (.call f1 [(.t 20),(.t 21)]),.u 23 (.ld none 2 true (.t 7)),.u 24 (.ld none 2 true (.t 8)),.u 25 (.call f1 [(.t 23),(.t 24)]),.u 26 (.call f2 [(.t 22),(.t 25)]),.u 27 (.ext 0 (.t 26)),.u 28 (.ext 1 (.t 26)),.n (.st none 3 (.t 4) (.t 27)),.m 5 (.t 28)])
 .ret)))))))
def Xj (f0 f1 f2:Nat):AC:=(.seq (.ops false [.u 2 (.box 3 (.t 0)),.u 3 (.box 3 (.t 1)),.u 4 (.alloc [(.lit (.bool false)),.emp,.emp]),.m 5 (.i 0)])
 (.fg [2,3,4] (.seq (.ops false [.u 11 (.ld none 3 true (.t 2)),.u 12 (.call f0 [(.t 11)]),.m 10 (.t 12),.u 13 (.ext 0 (.t 10)),.u 14 (.ext 1 (.t 10)),.u 6 (.alloc [(.lit (.bool false)),.emp]),.u 7 (.alloc [(.lit (.bool false)),.emp]),.n (.st none 2 (.t 6) (.t 13)),.n (.st none 2 (.t 7) (.t 14))])
 (.fg [3,4,6,7] (.seq (.ops false [.u 16 (.ld none 3 true (.t 3)),.u 17 (.call f0 [(.t 16)]),.m 15 (.t 17),.u 18 (.ext 0 (.t 15)),.u 19 (.ext 1 (.t 15)),.u 8 (.alloc [(.lit (.bool false)),.emp]),.u 9 (.alloc [(.lit (.bool false)),.emp]),.n (.st none 2 (.t 8) (.t 18)),.n (.st none 2 (.t 9) (.t 19))])
 (.fg [4,6,7,8,9] (.seq (.ops true [.u 20 (.ld none 2 true (.t 6)),.u 21 (.ld none 2 true (.t 9)),.u 22 (.call f1 [(.t 20),(.t 21)]),.u 23 (.ld none 2 true (.t 7)),.u 24 (.ld none 2 true (.t 8)),.u 25 (.call f1 [(.t 23),(.t 24)]),.u 26 (.call f2 [(.t 22),(.t 25)]),.u 27 (.ext 0 (.t 26)),.u 28 (.ext 1 (.t 26)),.n (.st none 3 (.t 4) (.t 27)),.m 5 (.t 28)])
 .ret)))))))
theorem ZR (hΓ:Holds P Γ) {f fp fm ff:Nat} (hp:Γ fp=.dat false jd) (hm:Γ fm=.dat false ut) (hf:Γ ff=.dat false uh) (hc:check P f=some (26,(xm fp fm ff).strip,[.cell 4 3 true])):Sound P f (.dat false Wk):=by
 refine ja hc jaI hΓ (λargs K hcl hfi hG=>?_)
 match args,hG with
 | [a,b],hG=>
  obtain ⟨x,rfl,hx,y,rfl,hy,hl,hl',hK⟩:=hG
  refine ⟨by simp,?_⟩
  simp only [go_sem,xm,hp,hm,hf,hx,hy]
  have n1:=jA hx
  have d1:=wA hx
  have n2:=jA hy
  have d2:=wA hy
  have m1:=Zp (rv x).num (rv y).num
  have m3:=Zp ((rv x).den:Int) (rv y).den
  rw [Int.natCast_mul,V9]
  exact ⟨hl,hl',by omega,by omega,by omega,by omega,by omega,by omega,Int.mul_ne_zero (Wz _) (Wz _),hK⟩
theorem wab (hΓ:Holds P Γ) {f fs ff tE:Nat} (hs:Γ fs=.dat true yf) (hf:Γ ff=.dat false uh) (hc:check P f=some (14,(yp fs ff tE).strip,[.cell 4 3 true,.tmp 5])):Sound P f (.dat false (js tE)):=by
 refine ja hc (Qah tE) hΓ (λargs K hcl hfi hG=>?_)
 match args,hG with
 | [a,b],hG=>
  obtain ⟨v,rfl,hv,w,rfl,hw,hz,hz',hK⟩:=hG
  refine ⟨by simp,?_⟩
  simp only [go_sem,yp,hs,hf,hv,hw]
  refine ⟨λe=>?_,λe=>?_⟩
  .have h0:=Int.sign_eq_zero_iff_zero.1 e
   rw [if_pos h0,h0,Rat.divInt_zero,Uc tE (by decide),Ya8,ub]at hK
   exact hK
  .have h0:zv w≠0:=λh=>e (by rw [h];rfl)
   rw [if_neg h0,jc]at hK
   exact ⟨hz,hz',h0,hK⟩
theorem Vag (hΓ:Holds P Γ) {f fp fm ff tE:Nat} (hp:Γ fp=.dat false jd) (hm:Γ fm=.dat false ut) (hf:Γ ff=.dat false (js tE)) (hc:check P f=some (29,(zu fp fm ff).strip,[.cell 4 3 true,.tmp 5])):Sound P f (.dat false (jy tE)):=by
 refine ja hc (waB tE) hΓ (λargs K hcl hfi hG=>?_)
 match args,hG with
 | [a,b],hG=>
  obtain ⟨x,rfl,hx,y,rfl,hy,hl,hl',hK⟩:=hG
  refine ⟨by simp,?_⟩
  simp only [go_sem,zu,hp,hm,hf,hx,hy]
  have n1:=jA hx
  have d1:=wA hx
  have n2:=jA hy
  have d2:=wA hy
  have m1:=Zp (rv x).num ((rv y).den:Int)
  have m3:=Zp ((rv x).den:Int) (rv y).num
  have e:((((rv x).den:Int)*(rv y).num=0))=(rv y=0):=propext ⟨λh=>by
   rcases Int.mul_eq_zero.1 h with h | h
   .exact absurd h (Wz _)
   .exact Rat.num_eq_zero.1 h,λh=>by rw [h];exact Int.mul_zero _⟩
  simp only [e]
  rw [Ybf]
  exact ⟨hl,hl',by omega,by omega,by omega,by omega,by omega,by omega,hK⟩
theorem xad (hΓ:Holds P Γ) {f fs ff:Nat} (hs:Γ fs=.dat true yf) (hf:Γ ff=.dat false uh) (hc:check P f=some (13,(yi fs ff).strip,[.cell 4 3 true,.tmp 5])):Sound P f (.dat false yo):=by
 refine ja hc xai hΓ (λargs K hcl hfi hG=>?_)
 match args,hG with
 | [a,b],hG=>
  obtain ⟨v,rfl,hv,w,rfl,hw,hz,hz',hK⟩:=hG
  refine ⟨by simp,?_⟩
  simp only [go_sem,yi,hs,hf,hv,hw]
  refine ⟨λe=>?_,λe=>?_⟩
  .have h0:=Int.sign_eq_zero_iff_zero.1 e
   rw [if_pos h0,h0,Rat.divInt_zero,Ya8,ub]at hK
   exact hK
  .have h0:zv w≠0:=λh=>e (by rw [h];rfl)
   rw [if_neg h0]at hK
   exact ⟨hz,hz',h0,hK⟩
theorem zai (hΓ:Holds P Γ) {f fp fm ff:Nat} (hp:Γ fp=.dat false jd) (hm:Γ fm=.dat false ut) (hf:Γ ff=.dat false yo) (hc:check P f=some (29,(Xj fp fm ff).strip,[.cell 4 3 true,.tmp 5])):Sound P f (.dat false Jy):=by
 refine ja hc kaE hΓ (λargs K hcl hfi hG=>?_)
 match args,hG with
 | [a,b],hG=>
  obtain ⟨x,rfl,hx,y,rfl,hy,hl,hl',hK⟩:=hG
  refine ⟨by simp,?_⟩
  simp only [go_sem,Xj,hp,hm,hf,hx,hy]
  have n1:=jA hx
  have d1:=wA hx
  have n2:=jA hy
  have d2:=wA hy
  have m1:=Zp (rv x).num ((rv y).den:Int)
  have m3:=Zp ((rv x).den:Int) (rv y).num
  have e:((((rv x).den:Int)*(rv y).num=0))=(rv y=0):=propext ⟨λh=>by
   rcases Int.mul_eq_zero.1 h with h | h
   .exact absurd h (Wz _)
   .exact Rat.num_eq_zero.1 h,λh=>by rw [h];exact Int.mul_zero _⟩
  simp only [e]
  rw [Ybf]
  exact ⟨by omega,by omega,by omega,by omega,by omega,by omega,by omega,by omega,hK⟩
end Go.Abs
end
section
namespace Go.Num
open Go.Abs
abbrev V2:=Rat×Rat
abbrev TnQ:=Rat×Bool
abbrev PsQ:=TnQ×V2
def tv (t:Tn):TnQ:=(rv t.1,t.2)
def pv (p:Ps):PsQ:=(tv p.1,av p.2)
def subQ (a b:V2):V2:=(a.1-b.1,a.2-b.2)
def addQ (a b:V2):V2:=(a.1+b.1,a.2+b.2)
def negQ (a:V2):V2:=(-a.1,-a.2)
def crossQ (a b:V2):Rat:=a.1*b.2-a.2*b.1
def sqQ (a:V2):Rat:=a.1*a.1+a.2*a.2
def cosQ (t:TnQ):Rat:=if t.2=true then -1 else (1-t.1*t.1) / (1+t.1*t.1)
def sinQ (t:TnQ):Rat:=if t.2=true then 0 else (t.1+t.1) / (1+t.1*t.1)
def rotQ (t:TnQ) (q:V2):V2:=(cosQ t*q.1-sinQ t*q.2,sinQ t*q.1+cosQ t*q.2)
def appQ (p:PsQ) (q:V2):V2:=addQ (rotQ p.1 q) p.2
def backQ (t:TnQ):TnQ:=(-t.1,t.2)
def invQ (p:PsQ):PsQ:=(backQ p.1,rotQ (backQ p.1) (negQ p.2))
def tchk (t:Tn):Nat:=if vldR t.1=true/\¬(t.2=true/\rv t.1≠0) then 0 else 2
def avld (a:Arc):Bool:=vldR a.1 && vldR a.2
def pvld (p:Ps):Bool:=decide (tchk p.1=0) && avld p.2
def zq (a:V2):Nat:=max (rz a.1) (rz a.2)
theorem Jaq (a b:V2):zq (subQ a b)<=zq a+zq b+2:=by
 have h1:=yF a.1 b.1
 have h2:=yF a.2 b.2
 unfold zq subQ;simp only;omega
theorem ubC (a b:V2):zq (addQ a b)<=zq a+zq b+2:=by
 have h1:=wG a.1 b.1
 have h2:=wG a.2 b.2
 unfold zq addQ;simp only;omega
theorem xH (a:V2):rz (sqQ a)<=4*zq a+6:=by
 have h1:=wd a.1 a.1
 have h2:=wd a.2 a.2
 have h3:=wG (a.1*a.1) (a.2*a.2)
 unfold zq sqQ;omega
theorem Wbm:rz (-1)<=2:=by rw [show (-1:Rat) = -(1:Rat) from rfl,yA];exact rz_1
theorem Vah {a:Arc} (h:WLA a):zq (av a)<=al a:=by
 have h1:=Jg h.1
 have h2:=Jg h.2
 unfold zq av al;simp only;omega
end Go.Num
end
section
namespace Go.Abs
open Go.Num
variable {P:Program} {Γ:Nat->Spec}
def pQ (x:V2):AV:=.agg [cb (rcan x.1),cn (rcan x.1),cd (rcan x.1),cb (rcan x.2),cn (rcan x.2),cd (rcan x.2)]
theorem QaJ (x:V2):pQ x=.agg [cb (rcan x.1),cn (rcan x.1),cd (rcan x.1),cb (rcan x.2),cn (rcan x.2),cd (rcan x.2)]:=eq_of_heq (HEq.refl _)
def tQ (t:TnQ):AV:=.agg [cb (rcan t.1),cn (rcan t.1),cd (rcan t.1),.lit (.bool t.2)]
theorem WbB (t:TnQ):tQ t=.agg [cb (rcan t.1),cn (rcan t.1),cd (rcan t.1),.lit (.bool t.2)]:=eq_of_heq (HEq.refl _)
theorem Ybb (a b:Rat):WLA (rcan a,rcan b)=True:=eq_true ⟨je _,je _⟩
attribute [go_sem] QaJ WbB Ybb
attribute [go_sem ↓] QaJ WbB Ybb
def jl (l:List AV) (K:AV->Prop):Prop:=
 match l with
 | [a]=>onA (λp=>al p<=100000000/\K (.one (.lit (.bool (avld p))))) a
 | _=>False
theorem W1 (a:AV) (K:AV->Prop):jl [a] K=(onA (λp=>al p<=100000000/\K (.one (.lit (.bool (avld p))))) a):=propext Iff.rfl
@[congr] theorem JbD {K:AV->Prop} {l l' : List AV} (h:l=l'):jl l K=jl l' K:=by subst h;rfl
attribute [go_sem] W1
attribute [go_sem ↓] W1
theorem yag:Good jl:=Va λas=>by
 unfold jl
 split
 .exact (ku λ_=>(.and λ_=>(.ret _)))
 .exact .of λK hk=>hk.elim
def Zq (l:List AV) (K:AV->Prop):Prop:=
 match l with
 | [a,b]=>onA (λp=>onA (λq=>al p<=100000000/\al q<=100000000/\K (pQ (subQ (av p) (av q)))) b) a
 | _=>False
theorem Qar (a b:AV) (K:AV->Prop):Zq [a,b] K=(onA (λp=>onA (λq=>al p<=100000000/\al q<=100000000/\K (pQ (subQ (av p) (av q)))) b) a):=propext Iff.rfl
@[congr] theorem ubG {K:AV->Prop} {l l' : List AV} (h:l=l'):Zq l K=Zq l' K:=by subst h;rfl
attribute [go_sem] Qar
attribute [go_sem ↓] Qar
theorem XaF:Good Zq:=Va λas=>by
 unfold Zq
 split
 .exact (ku λ_=>(ku λ_=>(.and λ_=>(.and λ_=>(.ret _)))))
 .exact .of λK hk=>hk.elim
def yq (l:List AV) (K:AV->Prop):Prop:=
 match l with
 | [a,b]=>onA (λp=>onA (λq=>al p<=100000000/\al q<=100000000/\K (pQ (addQ (av p) (av q)))) b) a
 | _=>False
theorem kar (a b:AV) (K:AV->Prop):yq [a,b] K=(onA (λp=>onA (λq=>al p<=100000000/\al q<=100000000/\K (pQ (addQ (av p) (av q)))) b) a):=propext Iff.rfl
@[congr] theorem vbI {K:AV->Prop} {l l' : List AV} (h:l=l'):yq l K=yq l' K:=by subst h;rfl
attribute [go_sem] kar
attribute [go_sem ↓] kar
theorem kaB:Good yq:=Va λas=>by
 unfold yq
 split
 .exact (ku λ_=>(ku λ_=>(.and λ_=>(.and λ_=>(.ret _)))))
 .exact .of λK hk=>hk.elim
def WX (l:List AV) (K:AV->Prop):Prop:=
 match l with
 | [a,b]=>onA (λp=>onA (λq=>al p<=100000000/\al q<=100000000/\K (rQ (crossQ (av p) (av q)))) b) a
 | _=>False
theorem X6 (a b:AV) (K:AV->Prop):WX [a,b] K=(onA (λp=>onA (λq=>al p<=100000000/\al q<=100000000/\K (rQ (crossQ (av p) (av q)))) b) a):=propext Iff.rfl
@[congr] theorem vbs {K:AV->Prop} {l l' : List AV} (h:l=l'):WX l K=WX l' K:=by subst h;rfl
attribute [go_sem] X6
attribute [go_sem ↓] X6
def yC (l:List AV) (K:AV->Prop):Prop:=
 match l with
 | [a]=>onA (λp=>al p<=100000000/\K (rQ (sqQ (av p)))) a
 | _=>False
theorem qbb (a:AV) (K:AV->Prop):yC [a] K=(onA (λp=>al p<=100000000/\K (rQ (sqQ (av p)))) a):=propext Iff.rfl
@[congr] theorem qbU {K:AV->Prop} {l l' : List AV} (h:l=l'):yC l K=yC l' K:=by subst h;rfl
attribute [go_sem] qbb
attribute [go_sem ↓] qbb
theorem Va6:Good yC:=Va λas=>by
 unfold yC
 split
 .exact (ku λ_=>(.and λ_=>(.ret _)))
 .exact .of λK hk=>hk.elim
def qz (l:List AV) (K:AV->Prop):Prop:=
 match l with
 | [a,b]=>onA (λp=>onA (λq=>al p<=100000000/\al q<=100000000/\K (.one (.lit (.bool (decide (av p=av q)))))) b) a
 | _=>False
theorem xay (a b:AV) (K:AV->Prop):qz [a,b] K=(onA (λp=>onA (λq=>al p<=100000000/\al q<=100000000/\K (.one (.lit (.bool (decide (av p=av q)))))) b) a):=propext Iff.rfl
@[congr] theorem zbH {K:AV->Prop} {l l' : List AV} (h:l=l'):qz l K=qz l' K:=by subst h;rfl
attribute [go_sem] xay
attribute [go_sem ↓] xay
theorem qaE:Good qz:=Va λas=>by
 unfold qz
 split
 .exact (ku λ_=>(ku λ_=>(.and λ_=>(.and λ_=>(.ret _)))))
 .exact .of λK hk=>hk.elim
def Ua3 (l:List AV) (K:AV->Prop):Prop:=
 match l with
 | [a]=>onA (λp=>al p<=100000000/\K (pQ (negQ (av p)))) a
 | _=>False
theorem XaL (a:AV) (K:AV->Prop):Ua3 [a] K=(onA (λp=>al p<=100000000/\K (pQ (negQ (av p)))) a):=propext Iff.rfl
@[congr] theorem JbM {K:AV->Prop} {l l' : List AV} (h:l=l'):Ua3 l K=Ua3 l' K:=by subst h;rfl
attribute [go_sem] XaL
attribute [go_sem ↓] XaL
def WS (l:List AV) (K:AV->Prop):Prop:=
 match l with
 | [a]=>onA (λp=>al p<=100000000/\K (pQ (av p))) a
 | _=>False
theorem J9 (a:AV) (K:AV->Prop):WS [a] K=(onA (λp=>al p<=100000000/\K (pQ (av p))) a):=propext Iff.rfl
@[congr] theorem qby {K:AV->Prop} {l l' : List AV} (h:l=l'):WS l K=WS l' K:=by subst h;rfl
attribute [go_sem] J9
attribute [go_sem ↓] J9
def Yv (l:List AV) (K:AV->Prop):Prop:=
 match l with
 | [a]=>onR (λx=>rl x<=4294967296/\K (.one (.lit (.bool (decide (rv x=0)))))) a
 | _=>False
theorem Qay (a:AV) (K:AV->Prop):Yv [a] K=(onR (λx=>rl x<=4294967296/\K (.one (.lit (.bool (decide (rv x=0)))))) a):=propext Iff.rfl
@[congr] theorem UbE {K:AV->Prop} {l l' : List AV} (h:l=l'):Yv l K=Yv l' K:=by subst h;rfl
attribute [go_sem] Qay
attribute [go_sem ↓] Qay
theorem XaB:Good Yv:=Va λas=>by
 unfold Yv
 split
 .exact (Zf λ_=>(.and λ_=>(.ret _)))
 .exact .of λK hk=>hk.elim
def Wae (l:List AV) (K:AV->Prop):Prop:=
 match l with
 | [a,b]=>onR (λx=>onR (λy=>rl x<=1073741824/\rl y<=1073741824/\K (rQ (rv x / rv y))) b) a
 | _=>False
theorem uaw (a b:AV) (K:AV->Prop):Wae [a,b] K=(onR (λx=>onR (λy=>rl x<=1073741824/\rl y<=1073741824/\K (rQ (rv x / rv y))) b) a):=propext Iff.rfl
@[congr] theorem zbG {K:AV->Prop} {l l' : List AV} (h:l=l'):Wae l K=Wae l' K:=by subst h;rfl
attribute [go_sem] uaw
attribute [go_sem ↓] uaw
def XU (tE:Nat) (l:List AV) (K:AV->Prop):Prop:=
 match l with
 | [a]=>onT (λt=>rl t.1<=100000000/\K (errV tE (tchk t))) a
 | _=>False
theorem jaa (tE:Nat) (a:AV) (K:AV->Prop):XU tE [a] K=(onT (λt=>rl t.1<=100000000/\K (errV tE (tchk t))) a):=propext Iff.rfl
@[congr] theorem Xbt (tE:Nat) {K:AV->Prop} {l l' : List AV} (h:l=l'):XU tE l K=XU tE l' K:=by subst h;rfl
attribute [go_sem] jaa
attribute [go_sem ↓] jaa
def uX (l:List AV) (K:AV->Prop):Prop:=
 match l with
 | [a]=>onT (λt=>rl t.1<=100000000/\K (.one (.lit (.bool (decide (tchk t=0)))))) a
 | _=>False
theorem V4 (a:AV) (K:AV->Prop):uX [a] K=(onT (λt=>rl t.1<=100000000/\K (.one (.lit (.bool (decide (tchk t=0)))))) a):=propext Iff.rfl
@[congr] theorem qbE {K:AV->Prop} {l l' : List AV} (h:l=l'):uX l K=uX l' K:=by subst h;rfl
attribute [go_sem] V4
attribute [go_sem ↓] V4
def Qa3 (l:List AV) (K:AV->Prop):Prop:=
 match l with
 | [a]=>onPo (λp=>pl p<=100000000/\K (.one (.lit (.bool (pvld p))))) a
 | _=>False
theorem ZaP (a:AV) (K:AV->Prop):Qa3 [a] K=(onPo (λp=>pl p<=100000000/\K (.one (.lit (.bool (pvld p))))) a):=propext Iff.rfl
@[congr] theorem jbJ {K:AV->Prop} {l l' : List AV} (h:l=l'):Qa3 l K=Qa3 l' K:=by subst h;rfl
attribute [go_sem] ZaP
attribute [go_sem ↓] ZaP
def YaH (l:List AV) (K:AV->Prop):Prop:=
 match l with
 | [a]=>onT (λt=>rl t.1<=100000000/\K (tQ (backQ (tv t)))) a
 | _=>False
theorem Za0 (a:AV) (K:AV->Prop):YaH [a] K=(onT (λt=>rl t.1<=100000000/\K (tQ (backQ (tv t)))) a):=propext Iff.rfl
@[congr] theorem zbJ {K:AV->Prop} {l l' : List AV} (h:l=l'):YaH l K=YaH l' K:=by subst h;rfl
attribute [go_sem] Za0
attribute [go_sem ↓] Za0
def QaK (l:List AV) (K:AV->Prop):Prop:=
 match l with
 | [a]=>onT (λt=>rl t.1<=10000000/\K (.tup [rQ (cosQ (tv t)),rQ (sinQ (tv t))])) a
 | _=>False
theorem xaL (a:AV) (K:AV->Prop):QaK [a] K=(onT (λt=>rl t.1<=10000000/\K (.tup [rQ (cosQ (tv t)),rQ (sinQ (tv t))])) a):=propext Iff.rfl
@[congr] theorem QbN {K:AV->Prop} {l l' : List AV} (h:l=l'):QaK l K=QaK l' K:=by subst h;rfl
attribute [go_sem] xaL
attribute [go_sem ↓] xaL
def kw (l:List AV) (K:AV->Prop):Prop:=
 match l with
 | [a,b]=>onA (λp=>onA (λq=>al p<=4294967296/\K (.one (.lit (.bool (decide (p=q)))))) b) a
 | _=>False
theorem vav (a b:AV) (K:AV->Prop):kw [a,b] K=(onA (λp=>onA (λq=>al p<=4294967296/\K (.one (.lit (.bool (decide (p=q)))))) b) a):=propext Iff.rfl
@[congr] theorem WbE {K:AV->Prop} {l l' : List AV} (h:l=l'):kw l K=kw l' K:=by subst h;rfl
attribute [go_sem] vav
attribute [go_sem ↓] vav
theorem waC:Good kw:=Va λas=>by
 unfold kw
 split
 .exact (ku λ_=>(ku λ_=>(.and λ_=>(.ret _))))
 .exact .of λK hk=>hk.elim
def wh (f0 f1:Nat):AC:=(.seq (.ops false [.u 1 (.box 6 (.t 0)),.u 2 (.alloc [(.lit (.bool false)),.emp,.emp])])
 (.fg [1,2] (.seq (.ops true [.u 3 (.fa 0 (.t 1)),.u 4 (.ld none 3 true (.t 3)),.u 5 (.fa 0 (.t 1)),.u 6 (.ld none 3 true (.t 5)),.u 7 (.call f0 [(.t 4),(.t 6)]),.u 8 (.fa 3 (.t 1)),.u 9 (.ld none 3 true (.t 8)),.u 10 (.fa 3 (.t 1)),.u 11 (.ld none 3 true (.t 10)),.u 12 (.call f0 [(.t 9),(.t 11)]),.u 13 (.call f1 [(.t 7),(.t 12)]),.n (.st none 3 (.t 2) (.t 13))])
 .ret)))
def Xk (f0:Nat):AC:=(.seq (.ops false [.u 2 (.box 6 (.t 0)),.u 3 (.box 6 (.t 1)),.m 4 .fa])
 (.fg [2,3] (.seq (.ops false [.u 5 (.fa 0 (.t 2)),.u 6 (.ld none 3 true (.t 5)),.u 7 (.fa 0 (.t 3)),.u 8 (.ld none 3 true (.t 7)),.u 9 (.call f0 [(.t 6),(.t 8)]),.u 10 (.bin .eql (.t 9) (.i 0)),.m 11 (.t 10),.w 12 11 true (.fa 3 (.t 2)),.w 13 11 true (.ld none 3 true (.t 12)),.w 14 11 true (.fa 3 (.t 3)),.w 15 11 true (.ld none 3 true (.t 14)),.w 16 11 true (.call f0 [(.t 13),(.t 15)]),.w 17 11 true (.bin .eql (.t 16) (.i 0)),.u 18 (.pick (.t 11) (.t 17) .fa),.m 4 (.t 18)])
 .ret)))
def Xi (f0:Nat):AC:=(.seq (.ops false [.u 1 (.box 3 (.t 0)),.m 2 .fa])
 (.fg [1] (.seq (.ops false [.u 3 (.ld none 3 true (.t 1)),.u 4 (.call f0 [(.t 3)]),.u 5 (.bin .eql (.t 4) (.i 0)),.m 2 (.t 5)])
 .ret)))
def Ud (f0:Nat):AC:=(.seq (.ops false [.u 2 (.box 6 (.t 0)),.u 3 (.box 6 (.t 1)),.m 4 .fa])
 (.fg [2,3] (.seq (.ops false [.u 5 (.fa 0 (.t 2)),.u 6 (.ld none 3 true (.t 5)),.u 7 (.fa 0 (.t 3)),.u 8 (.ld none 3 true (.t 7)),.u 9 (.call f0 [(.t 6),(.t 8)]),.m 10 (.t 9),.w 11 10 true (.fa 3 (.t 2)),.w 12 10 true (.ld none 3 true (.t 11)),.w 13 10 true (.fa 3 (.t 3)),.w 14 10 true (.ld none 3 true (.t 13)),.w 15 10 true (.call f0 [(.t 12),(.t 14)]),.u 16 (.pick (.t 10) (.t 15) .fa),.m 4 (.t 16)])
 .ret)))
theorem yb {α β:Type} (p:α×β):(p.1,p.2)=p:=rfl
theorem al1 {p:Arc} {b:Nat} (h:al p<=b):rl p.1<=b/\rl p.2<=b:=⟨Nat.le_trans (Nat.le_max_left _ _) h,Nat.le_trans (Nat.le_max_right _ _) h⟩
theorem Vac (hΓ:Holds P Γ) {f fm fs:Nat} (hm:Γ fm=.dat false Wk) (hs:Γ fs=.dat false kn) (hc:check P f=some (14,(wh fm fs).strip,[.cell 2 3 true])):Sound P f (.dat false yC):=by
 refine ja hc Va6 hΓ (λargs K hcl hfi hG=>?_)
 match args,hG with
 | [a],hG=>
  obtain ⟨p,rfl,hp,hl,hK⟩:=hG
  refine ⟨by simp,?_⟩
  obtain ⟨l1,l2⟩:=al1 hl
  have r1:=Jg hp.1
  have r2:=Jg hp.2
  have m1:=wd (rv p.1) (rv p.1)
  have m2:=wd (rv p.2) (rv p.2)
  simp only [go_sem,wh,hm,hs,Vn,hp.1,hp.2]
  exact ⟨by omega,by omega,by omega,by omega,by omega,by omega,hK⟩
theorem zaf (hΓ:Holds P Γ) {f fc:Nat} (hc' : Γ fc=.dat true qh) (hc:check P f=some (19,(Xk fc).strip,[.tmp 4])):Sound P f (.dat true qz):=by
 refine ja hc qaE hΓ (λargs K hcl hfi hG=>?_)
 match args,hG with
 | [a,b],hG=>
  obtain ⟨p,rfl,hp,q,rfl,hq,hl,hl',hK⟩:=hG
  refine ⟨by simp,?_⟩
  obtain ⟨l1,l2⟩:=al1 hl
  obtain ⟨l3,l4⟩:=al1 hl'
  have e:decide (av p=av q)=(decide (ordQ (rv p.1) (rv q.1)=0) && decide (ordQ (rv p.2) (rv q.2)=0)):=by
   rw [<-Bool.decide_and,decide_eq_decide,kh,kh]
   exact Prod.mk.injEq _ _ _ _▸Iff.rfl
  rw [e]at hK
  by_cases h1:ordQ (rv p.1) (rv q.1)=0
  .rw [decide_eq_true h1,Bool.true_and]at hK
   simp only [go_sem,Xk,hc',Vn,hp.1,hp.2,hq.1,hq.2,h1]
   exact ⟨by omega,by omega,by omega,by omega,hK⟩
  .rw [decide_eq_false h1,Bool.false_and]at hK
   simp only [go_sem,Xk,hc',Vn,hp.1,hp.2,hq.1,hq.2,h1]
   exact ⟨by omega,by omega,hK⟩
theorem Zaj (hΓ:Holds P Γ) {f fs:Nat} (hs:Γ fs=.dat true yj) (hc:check P f=some (6,(Xi fs).strip,[.tmp 2])):Sound P f (.dat true Yv):=by
 refine ja hc XaB hΓ (λargs K hcl hfi hG=>?_)
 match args,hG with
 | [a],hG=>
  obtain ⟨x,rfl,hx,hl,hK⟩:=hG
  refine ⟨by simp,?_⟩
  have e:decide (rv x=0)=decide (ordQ (rv x) 0=0):=by rw [decide_eq_decide,kh]
  rw [e]at hK
  simp only [go_sem,Xi,hs,hx]
  exact ⟨hl,hK⟩
theorem uak (hΓ:Holds P Γ) {f fb:Nat} (hb:Γ fb=.dat true JB) (hc:check P f=some (17,(Ud fb).strip,[.tmp 4])):Sound P f (.dat true kw):=by
 refine ja hc waC hΓ (λargs K hcl hfi hG=>?_)
 match args,hG with
 | [a,b],hG=>
  obtain ⟨p,rfl,hp,q,rfl,hq,hl,hK⟩:=hG
  refine ⟨by simp,?_⟩
  obtain ⟨l1,l2⟩:=al1 hl
  have e:decide (p=q)=(decide (p.1=q.1) && decide (p.2=q.2)):=by
   rw [<-Bool.decide_and,decide_eq_decide]
   exact Prod.ext_iff
  rw [e]at hK
  by_cases h1:p.1=q.1
  .rw [decide_eq_true h1,Bool.true_and]at hK
   simp only [go_sem,Ud,hb,Vn,hp.1,hp.2,hq.1,hq.2,h1,decide_true]
   exact ⟨by rw [<-h1];exact l1,l2,hK⟩
  .rw [decide_eq_false h1,Bool.false_and]at hK
   simp only [go_sem,Ud,hb,Vn,hp.1,hp.2,hq.1,hq.2,h1,decide_false]
   exact ⟨l1,hK⟩
end Go.Abs
end
section
namespace Go.Num
open Go.Abs
def aok (p:Ps) (q:Arc):Bool:=pvld p && avld q
def plchk (l:List Ps):Nat:=if l.length<2 then 10 else if 5<l.length then 4 else if l.all pvld then 0 else 2
def threeC (l:List Ps):Nat:=if plchk l≠0 then plchk l else if l.length=3 then 0 else 10
def imgs (l:List Ps) (q:Arc):List V2:=l.map λp=>appQ (pv p) (av q)
def imgC (l:List Ps) (q:Arc):Nat:=if l.all (λp=>aok p q) then 0 else 2
end Go.Num
namespace Go.Abs
open Go.Num
variable {P:Program} {Γ:Nat->Spec}
def psQ (p:PsQ):AV:=.agg [cb (rcan p.1.1),cn (rcan p.1.1),cd (rcan p.1.1),.lit (.bool p.1.2),cb (rcan p.2.1),cn (rcan p.2.1),cd (rcan p.2.1),cb (rcan p.2.2),cn (rcan p.2.2),cd (rcan p.2.2)]
theorem Vbg (p:PsQ):psQ p=.agg [cb (rcan p.1.1),cn (rcan p.1.1),cd (rcan p.1.1),.lit (.bool p.1.2),cb (rcan p.2.1),cn (rcan p.2.1),cd (rcan p.2.1),cb (rcan p.2.2),cn (rcan p.2.2),cd (rcan p.2.2)]:=eq_of_heq (HEq.refl _)
attribute [go_sem] Vbg
attribute [go_sem ↓] Vbg
def YaI (tE:Nat) (l:List AV) (K:AV->Prop):Prop:=
 match l with
 | [a]=>onT (λt=>rl t.1<=10000000/\K (.tup [rQ (if tchk t=0 then cosQ (tv t) else 0),errV tE (tchk t)])) a
 | _=>False
theorem jaP (tE:Nat) (a:AV) (K:AV->Prop):YaI tE [a] K=(onT (λt=>rl t.1<=10000000/\K (.tup [rQ (if tchk t=0 then cosQ (tv t) else 0),errV tE (tchk t)])) a):=propext Iff.rfl
@[congr] theorem qbM (tE:Nat) {K:AV->Prop} {l l' : List AV} (h:l=l'):YaI tE l K=YaI tE l' K:=by subst h;rfl
attribute [go_sem] jaP
attribute [go_sem ↓] jaP
def YaJ (tE:Nat) (l:List AV) (K:AV->Prop):Prop:=
 match l with
 | [a]=>onT (λt=>rl t.1<=10000000/\K (.tup [rQ (if tchk t=0 then sinQ (tv t) else 0),errV tE (tchk t)])) a
 | _=>False
theorem VaQ (tE:Nat) (a:AV) (K:AV->Prop):YaJ tE [a] K=(onT (λt=>rl t.1<=10000000/\K (.tup [rQ (if tchk t=0 then sinQ (tv t) else 0),errV tE (tchk t)])) a):=propext Iff.rfl
@[congr] theorem xbI (tE:Nat) {K:AV->Prop} {l l' : List AV} (h:l=l'):YaJ tE l K=YaJ tE l' K:=by subst h;rfl
attribute [go_sem] VaQ
attribute [go_sem ↓] VaQ
def XaG (tE:Nat) (l:List AV) (K:AV->Prop):Prop:=
 match l with
 | [a]=>onT (λt=>rl t.1<=10000000/\K (.tup [rQ (if tchk t=0 then cosQ (tv t) else 0),rQ (if tchk t=0 then sinQ (tv t) else 0),errV tE (tchk t)])) a
 | _=>False
theorem ka0 (tE:Nat) (a:AV) (K:AV->Prop):XaG tE [a] K=(onT (λt=>rl t.1<=10000000/\K (.tup [rQ (if tchk t=0 then cosQ (tv t) else 0),rQ (if tchk t=0 then sinQ (tv t) else 0),errV tE (tchk t)])) a):=propext Iff.rfl
@[congr] theorem ZbJ (tE:Nat) {K:AV->Prop} {l l' : List AV} (h:l=l'):XaG tE l K=XaG tE l' K:=by subst h;rfl
attribute [go_sem] ka0
attribute [go_sem ↓] ka0
def za3 (tE:Nat) (l:List AV) (K:AV->Prop):Prop:=
 match l with
 | [a,b]=>onT (λt=>onA (λq=>rl t.1<=10000000/\al q<=10000000/\K (.tup [pQ (if tchk t=0 then rotQ (tv t) (av q) else (0,0)),errV tE (tchk t)])) b) a
 | _=>False
theorem yaQ (tE:Nat) (a b:AV) (K:AV->Prop):za3 tE [a,b] K=(onT (λt=>onA (λq=>rl t.1<=10000000/\al q<=10000000/\K (.tup [pQ (if tchk t=0 then rotQ (tv t) (av q) else (0,0)),errV tE (tchk t)])) b) a):=propext Iff.rfl
@[congr] theorem YbQ (tE:Nat) {K:AV->Prop} {l l' : List AV} (h:l=l'):za3 tE l K=za3 tE l' K:=by subst h;rfl
attribute [go_sem] yaQ
attribute [go_sem ↓] yaQ
def jaK (l:List AV) (K:AV->Prop):Prop:=
 match l with
 | [a,b]=>onT (λt=>onA (λq=>rl t.1<=10000000/\al q<=10000000/\K (pQ (rotQ (tv t) (av q)))) b) a
 | _=>False
theorem UaJ (a b:AV) (K:AV->Prop):jaK [a,b] K=(onT (λt=>onA (λq=>rl t.1<=10000000/\al q<=10000000/\K (pQ (rotQ (tv t) (av q)))) b) a):=propext Iff.rfl
@[congr] theorem QbJ {K:AV->Prop} {l l' : List AV} (h:l=l'):jaK l K=jaK l' K:=by subst h;rfl
attribute [go_sem] UaJ
attribute [go_sem ↓] UaJ
def qaN (tE:Nat) (l:List AV) (K:AV->Prop):Prop:=
 match l with
 | [a,b]=>onPo (λp=>onA (λq=>pl p<=1000000/\al q<=1000000/\K (.tup [pQ (if aok p q=true then appQ (pv p) (av q) else (0,0)),errV tE (if aok p q=true then 0 else 2)])) b) a
 | _=>False
theorem uaR (tE:Nat) (a b:AV) (K:AV->Prop):qaN tE [a,b] K=(onPo (λp=>onA (λq=>pl p<=1000000/\al q<=1000000/\K (.tup [pQ (if aok p q=true then appQ (pv p) (av q) else (0,0)),errV tE (if aok p q=true then 0 else 2)])) b) a):=propext Iff.rfl
@[congr] theorem qbP (tE:Nat) {K:AV->Prop} {l l' : List AV} (h:l=l'):qaN tE l K=qaN tE l' K:=by subst h;rfl
attribute [go_sem] uaR
attribute [go_sem ↓] uaR
def UaY (l:List AV) (K:AV->Prop):Prop:=
 match l with
 | [a,b]=>onPo (λp=>onA (λq=>pl p<=1000000/\al q<=1000000/\K (pQ (appQ (pv p) (av q)))) b) a
 | _=>False
theorem Ua0 (a b:AV) (K:AV->Prop):UaY [a,b] K=(onPo (λp=>onA (λq=>pl p<=1000000/\al q<=1000000/\K (pQ (appQ (pv p) (av q)))) b) a):=propext Iff.rfl
@[congr] theorem xbP {K:AV->Prop} {l l' : List AV} (h:l=l'):UaY l K=UaY l' K:=by subst h;rfl
attribute [go_sem] Ua0
attribute [go_sem ↓] Ua0
def jaf (tE:Nat) (l:List AV) (K:AV->Prop):Prop:=
 match l with
 | [a]=>onT (λt=>rl t.1<=10000000/\K (.tup [tQ (if tchk t=0 then backQ (tv t) else (0,false)),errV tE (tchk t)])) a
 | _=>False
theorem jam (tE:Nat) (a:AV) (K:AV->Prop):jaf tE [a] K=(onT (λt=>rl t.1<=10000000/\K (.tup [tQ (if tchk t=0 then backQ (tv t) else (0,false)),errV tE (tchk t)])) a):=propext Iff.rfl
@[congr] theorem QbG (tE:Nat) {K:AV->Prop} {l l' : List AV} (h:l=l'):jaf tE l K=jaf tE l' K:=by subst h;rfl
attribute [go_sem] jam
attribute [go_sem ↓] jam
def QaQ (tE:Nat) (l:List AV) (K:AV->Prop):Prop:=
 match l with
 | [a]=>onPo (λp=>pl p<=1000000/\K (.tup [psQ (if pvld p=true then invQ (pv p) else ((0,false),(0,0))),errV tE (if pvld p=true then 0 else 2)])) a
 | _=>False
theorem xaI (tE:Nat) (a:AV) (K:AV->Prop):QaQ tE [a] K=(onPo (λp=>pl p<=1000000/\K (.tup [psQ (if pvld p=true then invQ (pv p) else ((0,false),(0,0))),errV tE (if pvld p=true then 0 else 2)])) a):=propext Iff.rfl
@[congr] theorem jbO (tE:Nat) {K:AV->Prop} {l l' : List AV} (h:l=l'):QaQ tE l K=QaQ tE l' K:=by subst h;rfl
attribute [go_sem] xaI
attribute [go_sem ↓] xaI
def UaN (l:List AV) (K:AV->Prop):Prop:=
 match l with
 | [a]=>onPo (λp=>pl p<=1000000/\K (psQ (invQ (pv p)))) a
 | _=>False
theorem WaN (a:AV) (K:AV->Prop):UaN [a] K=(onPo (λp=>pl p<=1000000/\K (psQ (invQ (pv p)))) a):=propext Iff.rfl
@[congr] theorem JbS {K:AV->Prop} {l l' : List AV} (h:l=l'):UaN l K=UaN l' K:=by subst h;rfl
attribute [go_sem] WaN
attribute [go_sem ↓] WaN
end Go.Abs
end
section
namespace Go.Num
def inA (y:Rat) (x:Arc):Bool:=decide (rv x.1<=y) && decide (y<rv x.2)
def idxOf (y:Rat) (l:List Arc):Int:=match l.findIdx? (inA y) with | some i=>i | none=>-1
end Go.Num
namespace Go.Abs
open Go.Num
variable {P:Program} {Γ:Nat->Spec}
def pA (y:R):AV:=.one (.ref [cb y,cn y,cd y])
def kA (f:Nat) (y:R):AV:=.one (.clo f [.ref [cb y,cn y,cd y]])
theorem jbx (x y:R) (h:pA x=pA y):x=y:=ju x y (by simpa [pA,rA] using h)
theorem Zbv (f:Nat) (x y:R) (h:kA f x=kA f y):x=y:=ju x y (by simpa [kA,rA] using h)
def onP (k:R->Prop) (a:AV):Prop:=onE pA (λx=>WLR x/\k x) a
@[congr] theorem WbT {k:R->Prop} {a a' : AV} (h:a=a'):onP k a=onP k a':=by subst h;rfl
theorem wbx (k:R->Prop) (x:R):onP k (.one (.ref [cb x,cn x,cd x]))=(WLR x/\k x):=zo jbx (λx=>WLR x/\k x) x
def onKl (f:Nat) (k:R->Prop) (a:AV):Prop:=onE (kA f) (λx=>WLR x/\k x) a
@[congr] theorem WbQ {f:Nat} {k:R->Prop} {a a' : AV} (h:a=a'):onKl f k a=onKl f k a':=by subst h;rfl
theorem Qbf (f:Nat) (k:R->Prop) (x:R):onKl f k (.one (.clo f [.ref [cb x,cn x,cd x]]))=(WLR x/\k x):=zo (Zbv f) (λx=>WLR x/\k x) x
attribute [go_sem] wbx Qbf
attribute [go_sem ↓] wbx Qbf
theorem UaC (y:R):CleanL [cb y,cn y,cd y]:=by
 intro c hc
 simp only [List.mem_cons,List.not_mem_nil,or_false]at hc
 rcases hc with rfl | rfl | rfl
 .exact of_eq_true (Vl _)
 .exact of_eq_true (xk _)
 .exact of_eq_true (Wl _)
def xag (l:List AV) (K:AV->Prop):Prop:=
 match l with
 | [a,b]=>onA (λx=>onP (λy=>al x<=4294967296/\rl y<=4294967296/\K (.one (.lit (.bool (inA (rv y) x))))) b) a
 | _=>False
theorem waq (a b:AV) (K:AV->Prop):xag [a,b] K=(onA (λx=>onP (λy=>al x<=4294967296/\rl y<=4294967296/\K (.one (.lit (.bool (inA (rv y) x))))) b) a):=propext Iff.rfl
@[congr] theorem ZbI {K:AV->Prop} {l l' : List AV} (h:l=l'):xag l K=xag l' K:=by subst h;rfl
attribute [go_sem] waq
attribute [go_sem ↓] waq
def waK (fc:Nat) (l:List AV) (K:AV->Prop):Prop:=
 match l with
 | [a,c]=>onAs (λl=>onKl fc (λy=>okAs 4294967296 l/\rl y<=4294967296/\K (.one (.lit (.int .i64 (idxOf (rv y) l))))) c) a
 | _=>False
theorem vaW (fc:Nat) (a c:AV) (K:AV->Prop):waK fc [a,c] K=(onAs (λl=>onKl fc (λy=>okAs 4294967296 l/\rl y<=4294967296/\K (.one (.lit (.int .i64 (idxOf (rv y) l))))) c) a):=propext Iff.rfl
@[congr] theorem VbR (fc:Nat) {K:AV->Prop} {l l' : List AV} (h:l=l'):waK fc l K=waK fc l' K:=by subst h;rfl
attribute [go_sem] vaW
attribute [go_sem ↓] vaW
def Uah (fc:Nat) (l:List AV) (K:AV->Prop):Prop:=
 match l with
 | [a,c]=>onAs (λl=>onKl fc (λy=>okAs 4294967296 l/\rl y<=4294967296/\K (.one (.lit (.bool (l.any (inA (rv y))))))) c) a
 | _=>False
theorem wam (fc:Nat) (a c:AV) (K:AV->Prop):Uah fc [a,c] K=(onAs (λl=>onKl fc (λy=>okAs 4294967296 l/\rl y<=4294967296/\K (.one (.lit (.bool (l.any (inA (rv y))))))) c) a):=propext Iff.rfl
@[congr] theorem kbI (fc:Nat) {K:AV->Prop} {l l' : List AV} (h:l=l'):Uah fc l K=Uah fc l' K:=by subst h;rfl
attribute [go_sem] wam
attribute [go_sem ↓] wam
def qaU (tE:Nat) (l:List AV) (K:AV->Prop):Prop:=
 match l with
 | [a,b]=>onAs (λl=>onR (λy=>okAs 4294967296 l/\rl y<=1000000000/\K (.tup [.one (.lit (.bool (decide (chk [l]=0) && (vldR y && l.any (inA (frac (rv y))))))),errV tE (if chk [l]=0 then (if vldR y then 0 else 3) else chk [l])])) b) a
 | _=>False
theorem xaM (tE:Nat) (a b:AV) (K:AV->Prop):qaU tE [a,b] K=(onAs (λl=>onR (λy=>okAs 4294967296 l/\rl y<=1000000000/\K (.tup [.one (.lit (.bool (decide (chk [l]=0) && (vldR y && l.any (inA (frac (rv y))))))),errV tE (if chk [l]=0 then (if vldR y then 0 else 3) else chk [l])])) b) a):=propext Iff.rfl
@[congr] theorem xbR (tE:Nat) {K:AV->Prop} {l l' : List AV} (h:l=l'):qaU tE l K=qaU tE l' K:=by subst h;rfl
attribute [go_sem] xaM
attribute [go_sem ↓] xaM
end Go.Abs
end
section
namespace Go.Num
def longR (x:R):Bool:=decide (4<x.2.1.length+x.2.2.length)
def largeL (l:List Arc):Bool:=if 20<l.length then (decide (l.length<=64) || decide (200<l.length)) else l.any λx=>longR x.1 || longR x.2
def validL (l:List Arc):Bool:=!largeL l && decide (chk1 l=0)
end Go.Num
namespace Go.Abs
open Go.Num
variable {P:Program} {Γ:Nat->Spec}
def kV (l:List AV) (K:AV->Prop):Prop:=
 match l with
 | [a]=>onAs (λl=>okAs 1073741824 l/\K (.one (.lit (.int .i64 (chk1 l:Nat))))) a
 | _=>False
theorem kaa (a:AV) (K:AV->Prop):kV [a] K=(onAs (λl=>okAs 1073741824 l/\K (.one (.lit (.int .i64 (chk1 l:Nat))))) a):=propext Iff.rfl
@[congr] theorem JbC {K:AV->Prop} {l l' : List AV} (h:l=l'):kV l K=kV l' K:=by subst h;rfl
attribute [go_sem] kaa
attribute [go_sem ↓] kaa
def Jai (l:List AV) (K:AV->Prop):Prop:=
 match l with
 | [a,b]=>onAs (λl=>onAs (λm=>okAs 1073741824 l/\okAs 1073741824 m/\K (.one (.lit (.bool (decide (vals l=vals m)))))) b) a
 | _=>False
theorem Vap (a b:AV) (K:AV->Prop):Jai [a,b] K=(onAs (λl=>onAs (λm=>okAs 1073741824 l/\okAs 1073741824 m/\K (.one (.lit (.bool (decide (vals l=vals m)))))) b) a):=propext Iff.rfl
@[congr] theorem ubF {K:AV->Prop} {l l' : List AV} (h:l=l'):Jai l K=Jai l' K:=by subst h;rfl
attribute [go_sem] Vap
attribute [go_sem ↓] Vap
def Uag (l:List AV) (K:AV->Prop):Prop:=
 match l with
 | [a]=>onR (λx=>rl x<=1000000000/\K (.agg [cb (rcan (frac (rv x))),cn (rcan (frac (rv x))),cd (rcan (frac (rv x)))])) a
 | _=>False
theorem van (a:AV) (K:AV->Prop):Uag [a] K=(onR (λx=>rl x<=1000000000/\K (.agg [cb (rcan (frac (rv x))),cn (rcan (frac (rv x))),cd (rcan (frac (rv x)))])) a):=propext Iff.rfl
@[congr] theorem wbH {K:AV->Prop} {l l' : List AV} (h:l=l'):Uag l K=Uag l' K:=by subst h;rfl
attribute [go_sem] van
attribute [go_sem ↓] van
def xak (l:List AV) (K:AV->Prop):Prop:=
 match l with
 | [a,b]=>asInt (λk n=>asInt (λk' d=>k=.i64/\k' = .i64/\(-9223372036854775808<=n/\n<=9223372036854775807)/\(-9223372036854775808<=d/\d<=9223372036854775807)/\d≠0/\K (.agg [cb (rcan (Rat.divInt n d)),cn (rcan (Rat.divInt n d)),cd (rcan (Rat.divInt n d))])) b) a
 | _=>False
theorem vau (a b:AV) (K:AV->Prop):xak [a,b] K=(asInt (λk n=>asInt (λk' d=>k=.i64/\k' = .i64/\(-9223372036854775808<=n/\n<=9223372036854775807)/\(-9223372036854775808<=d/\d<=9223372036854775807)/\d≠0/\K (.agg [cb (rcan (Rat.divInt n d)),cn (rcan (Rat.divInt n d)),cd (rcan (Rat.divInt n d))])) b) a):=propext Iff.rfl
@[congr] theorem qbF {K:AV->Prop} {l l' : List AV} (h:l=l'):xak l K=xak l' K:=by subst h;rfl
attribute [go_sem] vau
attribute [go_sem ↓] vau
def zaj (l:List AV) (K:AV->Prop):Prop:=
 match l with
 | [a]=>onR (λx=>rl x<=4294967296/\K (.one (.lit (.bool (longR x))))) a
 | _=>False
theorem Uay (a:AV) (K:AV->Prop):zaj [a] K=(onR (λx=>rl x<=4294967296/\K (.one (.lit (.bool (longR x))))) a):=propext Iff.rfl
@[congr] theorem VbG {K:AV->Prop} {l l' : List AV} (h:l=l'):zaj l K=zaj l' K:=by subst h;rfl
attribute [go_sem] Uay
attribute [go_sem ↓] Uay
def WV (l:List AV) (K:AV->Prop):Prop:=
 match l with
 | [a]=>onAs (λl=>okAs 1073741824 l/\K (.one (.lit (.bool (largeL l))))) a
 | _=>False
theorem Wad (a:AV) (K:AV->Prop):WV [a] K=(onAs (λl=>okAs 1073741824 l/\K (.one (.lit (.bool (largeL l))))) a):=propext Iff.rfl
@[congr] theorem xbA {K:AV->Prop} {l l' : List AV} (h:l=l'):WV l K=WV l' K:=by subst h;rfl
attribute [go_sem] Wad
attribute [go_sem ↓] Wad
def UI (l:List AV) (K:AV->Prop):Prop:=
 match l with
 | [a]=>onAs (λl=>okAs 1073741824 l/\K (.one (.lit (.bool (validL l))))) a
 | _=>False
theorem ZP (a:AV) (K:AV->Prop):UI [a] K=(onAs (λl=>okAs 1073741824 l/\K (.one (.lit (.bool (validL l))))) a):=propext Iff.rfl
@[congr] theorem Ubr {K:AV->Prop} {l l' : List AV} (h:l=l'):UI l K=UI l' K:=by subst h;rfl
attribute [go_sem] ZP
attribute [go_sem ↓] ZP
def yT (tE:Nat) (l:List AV) (K:AV->Prop):Prop:=
 match l with
 | [a]=>onAs (λl=>K (.tup [.one (.slice ((if 64<l.length then [] else l).map aC)),errV tE (if 64<l.length then 4 else 0)])) a
 | _=>False
theorem Q3 (tE:Nat) (a:AV) (K:AV->Prop):yT tE [a] K=(onAs (λl=>K (.tup [.one (.slice ((if 64<l.length then [] else l).map aC)),errV tE (if 64<l.length then 4 else 0)])) a):=propext Iff.rfl
@[congr] theorem Jby (tE:Nat) {K:AV->Prop} {l l' : List AV} (h:l=l'):yT tE l K=yT tE l' K:=by subst h;rfl
attribute [go_sem] Q3
attribute [go_sem ↓] Q3
end Go.Abs
end
