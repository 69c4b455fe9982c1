/-
  Parts of the proof, merged: ArgD, RatC, RefA, RatD, RatE, PoseP, PoseB, PoseC, ChartE, ChartF.
-/
import Derived.Test.YtkcleifemnineaaGreatM5
set_option linter.unusedVariables false
set_option linter.unusedSimpArgs false
section
set_option linter.unusedVariables false
namespace Go.Abs
open Go.Num
variable {H:Type} {enc:TypeId×Value→H} {bulk:DataW H→Nat} {P:Program} {w:World} {α:Type}
structure TnT (P:Program) (t:TypeId):Prop where
 ex:∃f0 f1:Field,P.underlying t=some (.struct #[f0,f1])∧f0.offset=0∧f1.offset=3∧P.cellsOf t=4∧P.cellsOf f0.type=3∧P.cellsOf f1.type=1∧RatT P f0.type∧P.underlying f1.type=some .bool
structure PsT (P:Program) (t:TypeId):Prop where
 ex:∃f0 f1:Field,P.underlying t=some (.struct #[f0,f1])∧f0.offset=0∧f1.offset=4∧P.cellsOf t=10∧P.cellsOf f0.type=4∧P.cellsOf f1.type=6∧TnT P f0.type∧ArcT P f1.type
structure PosesT (P:Program) (t:TypeId):Prop where
 ex:∃u,P.underlying t=some (.slice u)∧P.cellsOf u=10∧PsT P u
structure DyT (P:Program) (t:TypeId):Prop where
 ex:∃f0 f1 f2:Field,P.underlying t=some (.struct #[f0,f1,f2])∧f0.offset=0∧f1.offset=6∧f2.offset=12∧P.cellsOf t=15∧P.cellsOf f0.type=6∧P.cellsOf f1.type=6∧P.cellsOf f2.type=3∧ArcT P f0.type∧ArcT P f1.type∧RatT P f2.type
end Go.Abs
end
section
set_option linter.unusedVariables false
set_option linter.unusedSimpArgs false
set_option maxRecDepth 100000
namespace Go.Abs
open Go.Num
variable {P:Program} {Γ:Nat→Spec}
def ac_fraction_Valid (f0 f1 f2 f3:Nat):AC:=(.seq (.ops false [.u 1 (.box 3 (.t 0)),.m 2 .fa])
 (.fg [1] (.seq (.seq (.ops false [.u 5 (.fa 1 (.t 1)),.u 6 (.ld none 1 false (.t 5)),.u 7 (.len (.t 6)),.u 8 (.bin .eql (.t 7) (.i 0)),.m 9 (.t 8),.w 10 9 true (.fa 2 (.t 1)),.w 11 9 true (.ld none 1 false (.t 10)),.w 12 9 true (.len (.t 11)),.w 13 9 true (.bin .eql (.t 12) (.i 0)),.u 14 (.pick (.t 9) (.t 13) .fa)])
 (.fg [1,14] (.cond (.t 14) (.seq (.ops false [.u 15 (.fa 0 (.t 1)),.u 16 (.ld none 1 false (.t 15)),.u 17 (.un .not (.t 16)),.m 2 (.t 17)])
 .ret) .skip)))
 (.fg [1] (.seq (.ops true [.u 18 (.fa 1 (.t 1)),.u 19 (.ld (some 1) 1 false (.t 18)),.u 20 (.build [.z [(.lit (.bool false))],.x 1 (.t 19)]),.u 21 (.fa 2 (.t 1)),.u 22 (.ld (some 1) 1 false (.t 21)),.u 23 (.build [.z [(.lit (.bool false))],.x 1 (.t 22)]),.u 3 (.alloc [(.lit (.bool false)),.emp]),.u 4 (.alloc [(.lit (.bool false)),.emp]),.n (.st (some 3) 2 (.t 3) (.t 20)),.n (.st (some 4) 2 (.t 4) (.t 23))])
 (.fg [1,3,4] (.seq (.seq (.ops false [.u 24 (.fa 1 (.t 1)),.u 25 (.ld none 1 false (.t 24)),.u 26 (.len (.t 25)),.u 27 (.bin .eql (.t 26) (.i 0)),.m 28 (.t 27),.w 29 28 false (.fa 2 (.t 1)),.w 30 28 false (.ld none 1 false (.t 29)),.w 31 28 false (.len (.t 30)),.w 32 28 false (.bin .eql (.t 31) (.i 0)),.u 33 (.pick (.t 28) .tr (.t 32)),.m 34 (.t 33),.w 35 34 false (.ld none 2 true (.t 3)),.w 36 34 false (.call f0 [(.t 35)]),.w 37 34 false (.un .not (.t 36)),.u 38 (.pick (.t 34) .tr (.t 37)),.m 39 (.t 38),.w 40 39 false (.ld none 2 true (.t 4)),.w 41 39 false (.call f0 [(.t 40)]),.w 42 39 false (.un .not (.t 41)),.u 43 (.pick (.t 39) .tr (.t 42))])
 (.fg [3,4,43] (.cond (.t 43) (.seq (.ops false [.m 2 .fa])
 .ret) .skip)))
 (.fg [3,4] (.seq (.ops false [.u 44 (.ld none 2 true (.t 3)),.u 45 (.ld none 2 true (.t 4)),.u 46 (.call f1 [(.t 44),(.t 45)]),.u 47 (.call f2 []),.u 48 (.call f3 [(.t 46),(.t 47)]),.u 49 (.bin .eql (.t 48) (.i 0)),.m 2 (.t 49)])
 .ret)))))))))
def ac_fraction_Parts (f0 f1:Nat):AC:=(.seq (.ops false [.u 1 (.box 3 (.t 0)),.u 2 (.alloc [(.lit (.bool false)),.emp]),.u 3 (.alloc [(.lit (.bool false)),.emp])])
 (.fg [1,2,3] (.seq (.seq (.ops false [.u 4 (.ld none 3 true (.t 1)),.u 5 (.call f0 [(.t 4)]),.u 6 (.un .not (.t 5)),.m 7 (.t 6),.w 8 7 false (.fa 1 (.t 1)),.w 9 7 false (.ld none 1 false (.t 8)),.w 10 7 false (.len (.t 9)),.w 11 7 false (.bin .eql (.t 10) (.i 0)),.u 12 (.pick (.t 7) .tr (.t 11))])
 (.fg [1,2,3,12] (.cond (.t 12) (.seq (.ops false [.u 13 (.build [.z [(.lit (.bool false)),.emp]]),.u 14 (.call f1 []),.n (.st none 2 (.t 2) (.t 13)),.n (.st none 2 (.t 3) (.t 14))])
 .ret) .skip)))
 (.fg [1,2,3] (.seq (.ops true [.u 15 (.fa 0 (.t 1)),.u 16 (.ld none 1 false (.t 15)),.m 17 (.c (.one .emp)),.u 18 (.fa 1 (.t 1)),.u 19 (.ld none 1 false (.t 18)),.u 20 (.app0 1 (.t 17) (.t 19)),.u 21 (.build [.x 1 (.t 16),.x 1 (.t 20)]),.n (.st none 2 (.t 2) (.t 21))])
 (.fg [1,2,3] (.seq (.ops true [.u 22 (.ld none 2 true (.t 2)),.m 23 (.c (.one .emp)),.u 24 (.fa 2 (.t 1)),.u 25 (.ld none 1 false (.t 24)),.u 26 (.app0 1 (.t 23) (.t 25)),.u 27 (.build [.z [(.lit (.bool false))],.x 1 (.t 26)]),.n (.st none 2 (.t 2) (.t 22)),.n (.st none 2 (.t 3) (.t 27))])
 .ret)))))))
def ac_fraction_form (f0 f1 f2 f3:Nat):AC:=(.seq (.ops false [.u 2 (.box 2 (.t 0)),.u 3 (.box 2 (.t 1)),.u 4 (.alloc [(.lit (.bool false)),.emp,.emp])])
 (.fg [2,3,4] (.seq (.seq (.ops false [.u 7 (.ld none 2 true (.t 2)),.u 8 (.call f0 [(.t 7)]),.u 9 (.bin .eql (.t 8) (.i 0))])
 (.fg [2,3,4,9] (.cond (.t 9) (.seq (.ops false [.u 10 (.build [.z [(.lit (.bool false)),.emp,.emp]]),.n (.st none 3 (.t 4) (.t 10))])
 .ret) .skip)))
 (.fg [2,3,4] (.seq (.seq (.ops false [.u 11 (.ld none 2 true (.t 3)),.u 12 (.call f0 [(.t 11)]),.u 13 (.bin .lss (.t 12) (.i 0))])
 (.fg [2,3,4,13] (.cond (.t 13) (.ops true [.u 14 (.ld none 2 true (.t 2)),.u 15 (.call f1 [(.t 14)]),.u 16 (.ld none 2 true (.t 3)),.u 17 (.call f1 [(.t 16)]),.n (.st none 2 (.t 2) (.t 15)),.n (.st none 2 (.t 3) (.t 17))]) .skip)))
 (.fg [2,3,4] (.seq (.ops false [.u 18 (.ld none 2 true (.t 2)),.u 19 (.ld none 2 true (.t 3)),.u 20 (.call f2 [(.t 18),(.t 19)]),.u 5 (.alloc [(.lit (.bool false)),.emp]),.n (.st none 2 (.t 5) (.t 20))])
 (.fg [2,3,4,5] (.seq (.ops false [.u 21 (.ld none 2 true (.t 2)),.u 22 (.call f0 [(.t 21)]),.u 23 (.bin .lss (.t 22) (.i 0)),.m 6 (.t 23)])
 (.fg [2,3,4,5,6] (.seq (.seq (.ops false [.m 24 (.t 6)])
 (.fg [2,3,4,5,6,24] (.cond (.t 24) (.ops false [.u 25 (.ld none 2 true (.t 2)),.u 26 (.call f1 [(.t 25)]),.n (.st none 2 (.t 2) (.t 26))]) .skip)))
 (.fg [2,3,4,5,6] (.seq (.ops false [.u 28 (.ld none 2 true (.t 2)),.u 29 (.ld none 2 true (.t 5)),.u 30 (.call f3 [(.t 28),(.t 29)]),.m 27 (.t 30),.u 31 (.ext 0 (.t 27)),.u 32 (.ext 1 (.t 27)),.u 33 (.ext 2 (.t 27)),.n (.st none 2 (.t 2) (.t 31))])
 (.fg [2,3,4,5,6] (.seq (.ops false [.u 35 (.ld none 2 true (.t 3)),.u 36 (.ld none 2 true (.t 5)),.u 37 (.call f3 [(.t 35),(.t 36)]),.m 34 (.t 37),.u 38 (.ext 0 (.t 34)),.u 39 (.ext 1 (.t 34)),.u 40 (.ext 2 (.t 34)),.n (.st none 2 (.t 3) (.t 38))])
 (.fg [2,3,4,6] (.seq (.ops false [.m 41 (.t 6),.u 42 (.fa 1 (.t 2)),.u 43 (.ld none 1 false (.t 42)),.u 44 (.fa 1 (.t 3)),.u 45 (.ld none 1 false (.t 44)),.u 46 (.build [.x 1 (.t 41),.x 1 (.t 43),.x 1 (.t 45)]),.n (.st none 3 (.t 4) (.t 46))])
 .ret)))))))))))))))))
def ac_fraction_one (f0:Nat):AC:=(.seq (.ops false [.u 0 (.alloc [(.lit (.bool false)),.emp])])
 (.fg [0] (.seq (.ops false [.u 1 (.call f0 [(.i 1)]),.n (.st none 2 (.t 0) (.t 1))])
 .ret)))
def ac_fraction_Of (f0 f1 f2:Nat):AC:=(.seq (.ops false [.u 2 (.alloc [(.lit (.bool false)),.emp,.emp])])
 (.fg [0,2] (.seq (.ops false [.m 3 (.t 0),.u 4 (.call f0 [(.t 3)]),.u 5 (.call f1 []),.u 6 (.call f2 [(.t 4),(.t 5)]),.n (.st none 3 (.t 2) (.t 6))])
 .ret)))
def ac_fraction_Neg (f0 f1 f2:Nat):AC:=(.seq (.ops false [.u 1 (.box 3 (.t 0)),.u 2 (.alloc [(.lit (.bool false)),.emp,.emp])])
 (.fg [1,2] (.seq (.ops false [.u 6 (.ld none 3 true (.t 1)),.u 7 (.call f0 [(.t 6)]),.m 5 (.t 7),.u 8 (.ext 0 (.t 5)),.u 9 (.ext 1 (.t 5)),.u 3 (.alloc [(.lit (.bool false)),.emp]),.u 4 (.alloc [(.lit (.bool false)),.emp]),.n (.st none 2 (.t 3) (.t 8)),.n (.st none 2 (.t 4) (.t 9))])
 (.fg [2,3,4] (.seq (.ops true [.u 10 (.ld none 2 true (.t 3)),.u 11 (.call f1 [(.t 10)]),.u 12 (.ld none 2 true (.t 4)),.u 13 (.call f2 [(.t 11),(.t 12)]),.n (.st none 3 (.t 2) (.t 13))])
 .ret)))))
def ac_fraction_Sign (f0 f1:Nat):AC:=(.seq (.ops false [.u 1 (.box 3 (.t 0)),.m 2 (.i 0)])
 (.fg [1] (.seq (.ops false [.u 6 (.ld none 3 true (.t 1)),.u 7 (.call f0 [(.t 6)]),.m 5 (.t 7),.u 8 (.ext 0 (.t 5)),.u 9 (.ext 1 (.t 5)),.u 3 (.alloc [(.lit (.bool false)),.emp]),.u 4 (.alloc [(.lit (.bool false)),.emp]),.n (.st none 2 (.t 3) (.t 8)),.n (.st none 2 (.t 4) (.t 9))])
 (.fg [3] (.seq (.ops false [.u 10 (.ld none 2 true (.t 3)),.u 11 (.call f1 [(.t 10)]),.m 2 (.t 11)])
 .ret)))))
def ac_fraction_Cmp (f0 f1 f2:Nat):AC:=(.seq (.ops false [.u 2 (.box 3 (.t 0)),.u 3 (.box 3 (.t 1)),.m 4 (.i 0)])
 (.fg [2,3] (.seq (.ops false [.u 10 (.ld none 3 true (.t 2)),.u 11 (.call f0 [(.t 10)]),.m 9 (.t 11),.u 12 (.ext 0 (.t 9)),.u 13 (.ext 1 (.t 9)),.u 5 (.alloc [(.lit (.bool false)),.emp]),.u 6 (.alloc [(.lit (.bool false)),.emp]),.n (.st none 2 (.t 5) (.t 12)),.n (.st none 2 (.t 6) (.t 13))])
 (.fg [3,5,6] (.seq (.ops false [.u 15 (.ld none 3 true (.t 3)),.u 16 (.call f0 [(.t 15)]),.m 14 (.t 16),.u 17 (.ext 0 (.t 14)),.u 18 (.ext 1 (.t 14)),.u 7 (.alloc [(.lit (.bool false)),.emp]),.u 8 (.alloc [(.lit (.bool false)),.emp]),.n (.st none 2 (.t 7) (.t 17)),.n (.st none 2 (.t 8) (.t 18))])
 (.fg [5,6,7,8] (.seq (.ops true [.u 19 (.ld none 2 true (.t 5)),.u 20 (.ld none 2 true (.t 8)),.u 21 (.call f1 [(.t 19),(.t 20)]),.u 22 (.ld none 2 true (.t 7)),.u 23 (.ld none 2 true (.t 6)),.u 24 (.call f1 [(.t 22),(.t 23)]),.u 25 (.call f2 [(.t 21),(.t 24)]),.m 4 (.t 25)])
 .ret)))))))
def ac_fraction_Add (f0 f1 f2 f3:Nat):AC:=(.seq (.ops false [.u 2 (.box 3 (.t 0)),.u 3 (.box 3 (.t 1)),.u 4 (.alloc [(.lit (.bool false)),.emp,.emp])])
 (.fg [2,3,4] (.seq (.ops false [.u 10 (.ld none 3 true (.t 2)),.u 11 (.call f0 [(.t 10)]),.m 9 (.t 11),.u 12 (.ext 0 (.t 9)),.u 13 (.ext 1 (.t 9)),.u 5 (.alloc [(.lit (.bool false)),.emp]),.u 6 (.alloc [(.lit (.bool false)),.emp]),.n (.st none 2 (.t 5) (.t 12)),.n (.st none 2 (.t 6) (.t 13))])
 (.fg [3,4,5,6] (.seq (.ops false [.u 15 (.ld none 3 true (.t 3)),.u 16 (.call f0 [(.t 15)]),.m 14 (.t 16),.u 17 (.ext 0 (.t 14)),.u 18 (.ext 1 (.t 14)),.u 7 (.alloc [(.lit (.bool false)),.emp]),.u 8 (.alloc [(.lit (.bool false)),.emp]),.n (.st none 2 (.t 7) (.t 17)),.n (.st none 2 (.t 8) (.t 18))])
 (.fg [4,5,6,7,8] (.seq (.ops true [.u 19 (.ld none 2 true (.t 5)),.u 20 (.ld none 2 true (.t 8)),.u 21 (.call f1 [(.t 19),(.t 20)]),.u 22 (.ld none 2 true (.t 7)),.u 23 (.ld none 2 true (.t 6)),.u 24 (.call f1 [(.t 22),(.t 23)]),.u 25 (.call f2 [(.t 21),(.t 24)]),.u 26 (.ld none 2 true (.t 6)),.u 27 (.ld none 2 true (.t 8)),.u 28 (.call f1 [(.t 26),(.t 27)]),.u 29 (.call f3 [(.t 25),(.t 28)]),.n (.st none 3 (.t 4) (.t 29))])
 .ret)))))))
def ac_fraction_Sub (f0 f1:Nat):AC:=(.seq (.ops false [.u 2 (.box 3 (.t 0)),.u 3 (.box 3 (.t 1)),.u 4 (.alloc [(.lit (.bool false)),.emp,.emp])])
 (.fg [2,3,4] (.seq (.ops true [.u 5 (.ld none 3 true (.t 2)),.u 6 (.ld none 3 true (.t 3)),.u 7 (.call f0 [(.t 6)]),.u 8 (.call f1 [(.t 5),(.t 7)]),.n (.st none 3 (.t 4) (.t 8))])
 .ret)))
def ac_fraction_From (f0 f1 tE:Nat):AC:=(.seq (.ops false [.u 2 (.box 2 (.t 0)),.u 3 (.box 2 (.t 1)),.u 4 (.alloc [(.lit (.bool false)),.emp,.emp]),.m 5 (.c (.one (.lit .nilIface)))])
 (.fg [2,3,4] (.seq (.seq (.ops false [.u 6 (.ld none 2 true (.t 3)),.u 7 (.call f0 [(.t 6)]),.u 8 (.bin .eql (.t 7) (.i 0))])
 (.fg [2,3,4,8] (.cond (.t 8) (.seq (.ops false [.u 9 (.build [.z [(.lit (.bool false)),.emp,.emp]]),.u 10 (.iface tE (.i 8)),.n (.st none 3 (.t 4) (.t 9)),.m 5 (.t 10)])
 .ret) .skip)))
 (.fg [2,3,4] (.seq (.ops false [.u 11 (.ld none 2 true (.t 2)),.u 12 (.ld none 2 true (.t 3)),.u 13 (.call f1 [(.t 11),(.t 12)]),.n (.st none 3 (.t 4) (.t 13)),.m 5 (.c (.one (.lit .nilIface)))])
 .ret)))))
theorem sign_lt {n:Int}:n.sign<0↔n<0:=by
 rcases Int.lt_trichotomy n 0 with h | h | h
 ·rw [Int.sign_eq_neg_one_of_neg h];omega
 ·subst h;simp
 ·rw [Int.sign_eq_one_of_pos h];omega
theorem form_cells {n d N D:Int} {g:Nat} {m:Bool} (hd:d≠0) (hn:n≠0) (hN:0≤N) (hD:0≤D) (e1:N.natAbs=n.natAbs) (e2:D.natAbs=d.natAbs) (eg:g=Int.gcd n d) (em:m=decide (d.sign*n<0)) :
  AV.agg [.lit (.bool m),zm (zcan (N / (g:Int))),zm (zcan (D / (g:Int)))]=.agg [cb (rcan (Rat.divInt n d)),cn (rcan (Rat.divInt n d)),cd (rcan (Rat.divInt n d))]:=by
 obtain ⟨N',rfl⟩:=Int.eq_ofNat_of_zero_le hN
 obtain ⟨D',rfl⟩:=Int.eq_ofNat_of_zero_le hD
 simp only [Int.natAbs_natCast]at e1 e2
 subst e1 e2 eg em
 rw [cb_eq,cn_eq,cd_eq,rcan_divInt hd hn,zm_eq,zm_eq]
 simp only [zcan]
 rw [←Int.natCast_ediv,←Int.natCast_ediv]
 simp only [Int.natAbs_natCast]
theorem zs_gcd {v w:Int} {s:Nat} (h:w≠0) (hw:zs w≤s):zs ((Int.gcd v w:Nat):Int)≤s:=by
 refine Nat.le_trans (zs_mono ?_) hw
 simp only [Int.natAbs_natCast]
 exact Nat.le_of_dvd (by omega) (Int.gcd_dvd_natAbs_right _ _)
theorem ordI_zero {a b:Int}:ordI a b=0↔a=b:=by unfold ordI;split <;> (try split) <;> omega
theorem vldW_f {l:List Nat} (h:l≠[]):vldW (false,l)=decide (NZ l):=by unfold vldW;rw [if_neg h]
theorem zv_f {l:List Nat} (h:NZ l):zv (false,l)=(val l:Int):=by
 unfold zv
 by_cases e:l=[]
 ·subst e;simp [vldW]
 ·rw [vldW_f e];simp [h]
theorem rone_sound (hΓ:Holds P Γ) {f fo:Nat} (ho:Γ fo=.dat false zof_G) (hc:check P f=some (2,(ac_fraction_one fo).strip,[.cell 0 2 true])):Sound P f (.dat false rone_G):=by
 refine sound_dat hc rone_good hΓ (fun args K hcl hfi hG=>?_)
 match args,hG with
 | [],hG=>
  have hK:=hG
  simp only [rone_G]at hK
  refine ⟨by simp,?_⟩
  simp only [go_sem,ac_fraction_one,ho]
  refine ⟨by omega,by omega,hK⟩
theorem rvalid_sound (hΓ:Holds P Γ) {f fv fg fo fc:Nat} (hv:Γ fv=.dat true zvalid_G) (hg:Γ fg=.dat false zgcd_G) (ho:Γ fo=.dat false rone_G) (hc' : Γ fc=.dat true zcmp_G) (hc:check P f=some (50,(ac_fraction_Valid fv fg fo fc).strip,[.tmp 2])):Sound P f (.dat true rvalid_G):=by
 refine sound_dat hc rvalid_good hΓ (fun args K hcl hfi hG=>?_)
 match args,hG with
 | [a],hG=>
  obtain ⟨x,rfl,hx,hl,hK⟩:=hG
  refine ⟨by simp,?_⟩
  simp only [go_sem,ac_fraction_Valid,hv,hg,ho,hc',cb_eq,cn_eq,cd_eq]
  have hl1:x.2.1.length≤4294967296:=Nat.le_trans (Nat.le_max_left _ _) hl
  have hl2:x.2.2.length≤4294967296:=Nat.le_trans (Nat.le_max_right _ _) hl
  have key:x.2.1≠[]→x.2.2≠[]→WL x.2.1∧(vldW (false,x.2.1)=true→WL x.2.2∧(vldW (false,x.2.2)=true→WL x.2.1∧WL x.2.2∧zs (zv (false,x.2.1))≤17179869184∧zs (zv (false,x.2.2))≤17179869184∧
    K (AV.one (C.lit (Value.bool (decide (ordI (((zv (false,x.2.1)).gcd (zv (false,x.2.2)):Nat):Int) 1=0))))))∧(vldW (false,x.2.2)=false→K (AV.one (C.lit (Value.bool false)))))∧(vldW (false,x.2.1)=false→K (AV.one (C.lit (Value.bool false)))):=by
   intro hn hd
   unfold vldR at hK
   rw [if_neg (fun e=>hn e.1)]at hK
   rw [vldW_f hn,vldW_f hd]
   refine ⟨hx.1,fun h1=>⟨hx.2,fun h2=>⟨hx.1,hx.2,?_,?_,?_⟩,fun h2=>?_⟩,fun h1=>?_⟩
   ·rw [zv_f (of_decide_eq_true h1),zs_nat,digs_val hx.1 (of_decide_eq_true h1)];omega
   ·rw [zv_f (of_decide_eq_true h2),zs_nat,digs_val hx.2 (of_decide_eq_true h2)];omega
   ·rw [zv_f (of_decide_eq_true h1),zv_f (of_decide_eq_true h2)]
    have e:decide (ordI (((((val x.2.1:Nat):Int)).gcd ((val x.2.2:Nat):Int):Nat):Int) 1=0)=decide (x.2.1≠[]∧x.2.2≠[]∧NZ x.2.1∧NZ x.2.2∧Nat.gcd (val x.2.1) (val x.2.2)=1):=by
     rw [decide_eq_decide,ordI_zero,Int.gcd_natCast_natCast]
     have h1':=of_decide_eq_true h1
     have h2':=of_decide_eq_true h2
     constructor
     ·intro h;exact ⟨hn,hd,h1',h2',by omega⟩
     ·rintro ⟨_,_,_,_,h⟩;omega
    rw [e];exact hK
   ·rw [decide_eq_false (fun h=>of_decide_eq_false h2 h.2.2.2.1)]at hK;exact hK
   ·rw [decide_eq_false (fun h=>of_decide_eq_false h1 h.2.2.1)]at hK;exact hK
  have e0:∀{l:List Nat},¬l.length=0→l≠[]:=fun h e=>h (by rw [e];rfl)
  have key0:¬(x.2.1=[]∧x.2.2=[])→(x.2.1=[]∨x.2.2=[])→K (AV.one (C.lit (Value.bool false))):=by
   intro h1 h2
   unfold vldR at hK
   rw [if_neg h1,decide_eq_false (fun h=>h2.elim h.1 h.2.1)]at hK
   exact hK
  refine fun _=>⟨fun hn _=>⟨fun hd=>?_,fun hd _=>⟨fun h=>?_,fun h=>absurd hn h⟩⟩,fun hn _=>⟨fun h=>absurd h hn,fun _ _=>⟨fun hd=>?_,fun hd=>key (e0 hn) (e0 hd)⟩⟩⟩
  ·unfold vldR at hK
   rw [if_pos ⟨List.eq_nil_of_length_eq_zero hn,List.eq_nil_of_length_eq_zero hd⟩]at hK;exact hK
  ·exact key0 (fun h=>e0 hd h.2) (.inl (List.eq_nil_of_length_eq_zero hn))
  ·exact key0 (fun h=>e0 hn h.1) (.inr (List.eq_nil_of_length_eq_zero hd))
theorem rparts_sound (hΓ:Holds P Γ) {f fv fo:Nat} (hv:Γ fv=.dat true rvalid_G) (ho:Γ fo=.dat false rone_G) (hc:check P f=some (28,(ac_fraction_Parts fv fo).strip,[.cell 2 2 true,.cell 3 2 true])):Sound P f (.dat false rparts_G):=by
 refine sound_dat hc rparts_good hΓ (fun args K hcl hfi hG=>?_)
 match args,hG with
 | [a],hG=>
  obtain ⟨x,rfl,hx,hl,hK⟩:=hG
  refine ⟨by simp,?_⟩
  simp only [go_sem,ac_fraction_Parts,hv,ho,cb_eq,cn_eq,cd_eq]
  have hl1:x.2.1.length≤4294967296:=Nat.le_trans (Nat.le_max_left _ _) hl
  have hl2:x.2.2.length≤4294967296:=Nat.le_trans (Nat.le_max_right _ _) hl
  have e0:(zcan 0)=(false,[]):=by simp [zcan,digs_zero]
  have h0:rv x=0→K (AV.tup [AV.agg [C.lit (Value.bool false),C.slice []],AV.agg [zb (zcan 1),zm (zcan 1)]]):=by
   intro h
   rw [h]at hK
   have e1:((0:Rat).num)=0:=rfl
   have e2:((0:Rat).den:Int)=1:=rfl
   rw [e1,e2,e0]at hK;exact hK
  refine ⟨hx,hl,fun hv _=>⟨fun hn=>h0 ?_,fun hn=>⟨by omega,by omega,?_⟩⟩,fun hv=>h0 (rv_nvld hv)⟩
  ·unfold rv;rw [if_pos hv,List.eq_nil_of_length_eq_zero hn];simp [val,sg]
  ·obtain ⟨p1,p2,p3,p4,p5,p6⟩:=rv_parts hx hv (fun e=>hn (by rw [e];rfl))
   have hn0:=val_pos_of_NZ p4 (fun e=>hn (by rw [e];rfl))
   rw [p1,p2]at hK
   have e1:zcan (sg x.1 (val x.2.1))=(x.1,x.2.1):=by
    rw [←can_sg,digs_val hx.1 p4]
    have:decide (0<x.2.1.length)=true:=by simp only [decide_eq_true_eq];omega
    rw [this,Bool.and_true]
   have e2:zcan ((val x.2.2:Nat):Int)=(false,x.2.2):=by
    have:=can_sg false (val x.2.2)
    rw [digs_val hx.2 p5,Bool.false_and]at this
    exact this.symm
   rw [e1,e2]at hK;exact hK
theorem rform_sound (hΓ:Holds P Γ) {f fs fn fg fd:Nat} (hs:Γ fs=.dat true zsign_G) (hn:Γ fn=.dat false zneg_G) (hg:Γ fg=.dat false zgcd_G) (hd:Γ fd=.dat false zdiv_G) (hc:check P f=some (47,(ac_fraction_form fs fn fg fd).strip,[.cell 4 3 true])):Sound P f (.dat false rform_G):=by
 refine sound_dat hc rform_good hΓ (fun args K hcl hfi hG=>?_)
 match args,hG with
 | [a,b],hG=>
  obtain ⟨v,rfl,hv,w,rfl,hw,hz,hz',h0,hK⟩:=hG
  refine ⟨by simp,?_⟩
  simp only [go_sem,ac_fraction_form,hs,hn,hg,hd,hv,hw]
  generalize zv v=n at *
  generalize zv w=d at *
  have hd0:=h0
  refine ⟨fun h=>?_,fun h=>?_⟩
  ·rw [Int.sign_eq_zero_iff_zero.1 h,Rat.zero_divInt,rcan_zero]at hK;exact hK
  have hn0:n≠0:=fun e=>h (by rw [e];rfl)
  have hg0:((Int.gcd n d:Nat):Int)≠0:=by
   have:=Int.gcd_pos_of_ne_zero_left d hn0;omega
  have hgz:zs ((Int.gcd n d:Nat):Int)≤17179869184:=zs_gcd hd0 hz'
  simp only [Int.gcd_neg,Int.neg_gcd,zs_neg,sign_lt]
  refine ⟨fun hdn=>⟨by omega,by omega,hz,hz',fun hnn=>⟨by omega,hz,hgz,hg0,hz',hgz,hg0,?_⟩,fun hnn=>⟨hz,hgz,hg0,hz',hgz,hg0,?_⟩⟩,fun hdn=>⟨hz,hz',fun hnn=>⟨by omega,hz,hgz,hg0,hz',hgz,hg0,?_⟩,fun hnn=>⟨hz,hgz,hg0,hz',hgz,hg0,?_⟩⟩⟩
  ·rw [form_cells hd0 hn0 (by omega) (by omega) (by omega) (by omega) rfl (by rw [decide_eq_decide,Int.sign_eq_neg_one_of_neg hdn];omega)];exact hK
  ·rw [form_cells hd0 hn0 (by omega) (by omega) (by omega) (by omega) rfl (by rw [decide_eq_decide,Int.sign_eq_neg_one_of_neg hdn];omega)];exact hK
  ·rw [form_cells hd0 hn0 (by omega) (by omega) (by omega) (by omega) rfl (by rw [decide_eq_decide,Int.sign_eq_one_of_pos (by omega)];omega)];exact hK
  ·rw [form_cells hd0 hn0 (by omega) (by omega) (by omega) (by omega) rfl (by rw [decide_eq_decide,Int.sign_eq_one_of_pos (by omega)];omega)];exact hK
theorem rof_sound (hΓ:Holds P Γ) {f fo fn ff:Nat} (ho:Γ fo=.dat false zof_G) (hn:Γ fn=.dat false rone_G) (hf:Γ ff=.dat false rform_G) (hc:check P f=some (7,(ac_fraction_Of fo fn ff).strip,[.cell 2 3 true])):Sound P f (.dat false rof_G):=by
 refine sound_dat hc rof_good hΓ (fun args K hcl hfi hG=>?_)
 match args,hG with
 | [a],hG=>
  obtain ⟨k,n,rfl,rfl,hn1,hn2,hK⟩:=asInt_inv hG
  refine ⟨by simp,?_⟩
  simp only [go_sem,ac_fraction_Of,ho,hn,hf]
  have e:Rat.divInt n 1=(n:Rat):=Rat.num_divInt_den (n:Rat)
  rw [e]
  have h1:zs 1≤2:=zs_of (by decide)
  have h2:zs n≤2:=zs_of (by omega)
  exact ⟨hn1,hn2,by omega,by omega,by decide,hK⟩
theorem rneg_sound (hΓ:Holds P Γ) {f fp fn ff:Nat} (hp:Γ fp=.dat false rparts_G) (hn:Γ fn=.dat false zneg_G) (hf:Γ ff=.dat false rform_G) (hc:check P f=some (14,(ac_fraction_Neg fp fn ff).strip,[.cell 2 3 true])):Sound P f (.dat false rneg_G):=by
 refine sound_dat hc rneg_good hΓ (fun args K hcl hfi hG=>?_)
 match args,hG with
 | [a],hG=>
  obtain ⟨x,rfl,hx,hl,hK⟩:=hG
  refine ⟨by simp,?_⟩
  simp only [go_sem,ac_fraction_Neg,hp,hn,hf,hx]
  have n1:=num_le hx
  have d1:=den_le hx
  rw [neg_parts,zs_neg]
  exact ⟨hl,by omega,by omega,by omega,den_ne _,hK⟩
theorem rsign_sound (hΓ:Holds P Γ) {f fp fs:Nat} (hp:Γ fp=.dat false rparts_G) (hs:Γ fs=.dat true zsign_G) (hc:check P f=some (12,(ac_fraction_Sign fp fs).strip,[.tmp 2])):Sound P f (.dat true rsign_G):=by
 refine sound_dat hc rsign_good hΓ (fun args K hcl hfi hG=>?_)
 match args,hG with
 | [a],hG=>
  obtain ⟨x,rfl,hx,hl,hK⟩:=hG
  refine ⟨by simp,?_⟩
  simp only [go_sem,ac_fraction_Sign,hp,hs,hx]
  rw [←ordQ_zero]
  exact ⟨hl,hK⟩
theorem radd_sound (hΓ:Holds P Γ) {f fp fm fa ff:Nat} (hp:Γ fp=.dat false rparts_G) (hm:Γ fm=.dat false zmul_G) (ha:Γ fa=.dat false zadd_G) (hf:Γ ff=.dat false rform_G) (hc:check P f=some (30,(ac_fraction_Add fp fm fa ff).strip,[.cell 4 3 true])):Sound P f (.dat false radd_G):=by
 refine sound_dat hc radd_good hΓ (fun args K hcl hfi hG=>?_)
 match args,hG with
 | [a,b],hG=>
  obtain ⟨x,rfl,hx,y,rfl,hy,hl,hl',hK⟩:=hG
  refine ⟨by simp,?_⟩
  simp only [go_sem,ac_fraction_Add,hp,hm,ha,hf,hx,hy]
  have n1:=num_le hx
  have d1:=den_le hx
  have n2:=num_le hy
  have d2:=den_le hy
  rw [Int.natCast_mul,add_parts]
  have m1:=zs_mul (rv x).num (rv y).den
  have m2:=zs_mul (rv y).num (rv x).den
  have m3:=zs_mul ((rv x).den:Int) (rv y).den
  have a1:=zs_add ((rv x).num*(rv y).den) ((rv y).num*(rv x).den)
  exact ⟨hl,hl',by omega,by omega,by omega,by omega,by omega,by omega,by omega,by omega,by omega,by omega,Int.mul_ne_zero (den_ne _) (den_ne _),hK⟩
theorem rsub_sound (hΓ:Holds P Γ) {f fn fa:Nat} (hn:Γ fn=.dat false rneg_G) (ha:Γ fa=.dat false radd_G) (hc:check P f=some (9,(ac_fraction_Sub fn fa).strip,[.cell 4 3 true])):Sound P f (.dat false rsub_G):=by
 refine sound_dat hc rsub_good hΓ (fun args K hcl hfi hG=>?_)
 match args,hG with
 | [a,b],hG=>
  obtain ⟨x,rfl,hx,y,rfl,hy,hl,hl',hK⟩:=hG
  refine ⟨by simp,?_⟩
  simp only [go_sem,ac_fraction_Sub,hn,ha,hx,hy]
  rw [←Rat.sub_eq_add_neg,rz_neg]
  exact ⟨hl',hl,Nat.le_trans (rz_rv hy) hl',hK⟩
end Go.Abs
end
section
set_option linter.unusedVariables false
set_option linter.unusedSimpArgs false
namespace Go.Num
def bln (n:Nat):Nat:=if n=0 then 0 else bln (n / 2)+1
termination_by n
decreasing_by omega
theorem bln_zero:bln 0=0:=by rw [bln];rfl
theorem bln_pos {n:Nat} (h:n≠0):bln n=bln (n / 2)+1:=by rw [bln,if_neg h]
theorem lt_bln (n:Nat):n<2 ^ bln n:=by
 induction n using Nat.strongRecOn with
 | _ n ih=>
  by_cases h:n=0
  ·subst h;rw [bln_zero];decide
  ·rw [bln_pos h,Nat.pow_succ]
   have:=ih (n / 2) (by omega)
   omega
theorem bln_le {n k:Nat} (h:n<2 ^ k):bln n≤k:=by
  induction k generalizing n with
  | zero => have : n = 0 := by omega
            subst this;rw [bln_zero];exact Nat.le_refl _
  | succ k ih=>
    by_cases h0:n=0
    · subst h0;rw [bln_zero];omega
    · rw [bln_pos h0]
      have:=ih (n:=n / 2) (by rw [Nat.pow_succ]at h;omega)
      omega
theorem val_cut (l:List Nat) (m:Nat):val l=val (l.take m)+4294967296 ^ m*val (l.drop m):=by
 by_cases h:m≤l.length
 ·conv=>lhs;rw [←List.take_append_drop m l,val_append,List.length_take,Nat.min_eq_left h]
 ·rw [List.take_of_length_le (by omega),List.drop_of_length_le (by omega)];simp [val]
theorem val_drop (l:List Nat) (m:Nat):val (l.drop m)=l.getD m 0+4294967296*val (l.drop (m+1)):=by
 by_cases h:m<l.length
 ·have:=drop_cons l (n:=m+1) (by omega) (by omega)
  exact this
 ·rw [List.drop_of_length_le (by omega),List.drop_of_length_le (by omega),List.getD_eq_getElem?_getD,List.getElem?_eq_none (by omega)];simp [val]
theorem take_lt {l:List Nat} (h:WL l) (m:Nat):val (l.take m)<4294967296 ^ m:=
 Nat.lt_of_lt_of_le (val_lt (WL_take h m)) (Nat.pow_le_pow_right (by omega) (by rw [List.length_take];omega))
theorem cmp_at {x y:List Nat} {m:Nat} (hx:WL x) (hd:val (x.drop (m+1))=val (y.drop (m+1))) (h:x.getD m 0<y.getD m 0):val x<val y:=by
 have h1:=val_cut x m
 have h2:=val_cut y m
 have h3:=take_lt hx m
 rw [val_drop,hd]at h1
 rw [val_drop]at h2
 generalize 4294967296 ^ m=p at *
 have:p*(x.getD m 0+4294967296*val (y.drop (m+1))+1)≤p*(y.getD m 0+4294967296*val (y.drop (m+1))):=Nat.mul_le_mul_left _ (by omega)
 rw [Nat.mul_add p _ 1]at this
 omega
theorem minus_e {x y c:Nat} (hx:x<4294967296) (hy:y<4294967296) (hc:c≤1):∃s:Nat,((((4294967296+(x:Int)) % 18446744073709551616-(y:Int)) % 18446744073709551616-(c:Int)) % 18446744073709551616)=(s:Int)∧
  (1-(s:Int) / 4294967296) % 18446744073709551616=((1-s / 4294967296:Nat):Int)∧s % 4294967296+y+c=x+4294967296*(1-s / 4294967296)∧1-s / 4294967296≤1:=by
 exact ⟨4294967296+x-y-c,by omega,by omega,by omega,by omega⟩
theorem plus_aux {V Q c xa ya a b u w B:Nat} (h:V+Q*c=xa+ya) (hs:u+B*w=a+b+c):V+Q*u+Q*B*w=xa+Q*a+(ya+Q*b):=by
 have:=congrArg (Q * ·) hs
 simp only [Nat.mul_add]at this
 rw [Nat.mul_assoc Q B w]
 omega
theorem len_od {o l post:List Nat} (h:o.length≤l.length):(o++(l.drop o.length++post)).length=l.length+post.length:=by simp;omega
theorem take_od {o l post:List Nat} (h:o.length≤l.length):(o++(l.drop o.length++post)).take l.length=o++l.drop o.length:=by
 rw [←List.append_assoc,List.take_append_of_le_length (by simp;omega),List.take_of_length_le (by simp;omega)]
theorem get_od (o l:List Nat) (k:Nat):(o++l.drop o.length).getD (o.length+k) 0=l.getD (o.length+k) 0:=by
 simp only [List.getD_eq_getElem?_getD]
 rw [List.getElem?_append_right (by omega),List.getElem?_drop,show o.length+(o.length+k-o.length)=o.length+k by omega]
theorem get_od0 (o l:List Nat):(o++l.drop o.length).getD o.length 0=l.getD o.length 0:=get_od o l 0
theorem set_od {o l post:List Nat} (v:Nat) (h:o.length<l.length):(o++(l.drop o.length++post)).set o.length v=(o++[v])++(l.drop (o++[v]).length++post):=by
 have:=set_mid [] o l post v h
 simpa using this
theorem len_od0 {o l:List Nat} (h:o.length≤l.length):(o++l.drop o.length).length=l.length:=by simp;omega
theorem set_od0 {o l:List Nat} (v:Nat) (h:o.length<l.length):(o++l.drop o.length).set o.length v=(o++[v])++l.drop (o++[v]).length:=by
 have:=set_od (post:=[]) v h
 simpa using this
theorem WL_od {o l:List Nat} (ho:WL o) (hl:WL l):WL (o++l.drop o.length):=WL_append.2 ⟨ho,WL_drop hl _⟩
theorem halve_or {a b:Nat} (ha:a<4294967296) (hb:b<4294967296):(a / 2 ||| b*2147483648 % 18446744073709551616) % 4294967296=(a+4294967296*b) / 2 ^ 1 % 4294967296:=by
 have:=Nat.two_pow_add_eq_or_of_lt (i:=31) (b:=a / 2) (by omega) b
 rw [Nat.mod_eq_of_lt (show b*2147483648<18446744073709551616 by omega),Nat.or_comm,show b*2147483648=2 ^ 31*b by omega,←this]
 omega
theorem get_app {l post:List Nat} {i:Nat} (h:i<l.length):(l++post).getD i 0=l.getD i 0:=by
 simp only [List.getD_eq_getElem?_getD];rw [List.getElem?_append_left h]
theorem digs_pos_len {a:Nat} (h:a≠0):0<(digs a).length:=by rw [digs_pos h];simp
theorem digs_head {a:Nat} (h:a≠0) (p:List Nat):(digs a++p).getD 0 0=a % 4294967296:=by rw [digs_pos h];rfl
theorem digs_len0 {a:Nat}:(digs a).length=0↔a=0:=by rw [List.length_eq_zero_iff,digs_eq_nil]
theorem gcd_ee {a b k g:Nat} (ha:a % 2=0) (hb:b % 2=0) (h:Nat.gcd a b*2 ^ k=g):Nat.gcd (a / 2) (b / 2)*2 ^ (k+1)=g:=by
 obtain ⟨a',rfl⟩:∃a',a=2*a':=⟨a / 2,by omega⟩
 obtain ⟨b',rfl⟩:∃b',b=2*b':=⟨b / 2,by omega⟩
 rw [Nat.gcd_mul_left]at h
 rw [Nat.mul_div_cancel_left _ (by omega),Nat.mul_div_cancel_left _ (by omega),Nat.pow_succ,←h]
 rw [Nat.mul_comm (2 ^ k) 2,←Nat.mul_assoc,Nat.mul_comm _ 2]
theorem gcd_eo {a b:Nat} (ha:a % 2=0) (hb:b % 2≠0):Nat.gcd (a / 2) b=Nat.gcd a b:=by
 obtain ⟨a',rfl⟩:∃a',a=2*a':=⟨a / 2,by omega⟩
 rw [Nat.mul_div_cancel_left _ (by omega)]
 have:Nat.Coprime 2 b:=by
  rw [Nat.coprime_iff_gcd_eq_one,Nat.gcd_rec,show b % 2=1 by omega];rfl
 exact (Nat.Coprime.gcd_mul_left_cancel a' this).symm
theorem gcd_oe {a b:Nat} (ha:a % 2≠0) (hb:b % 2=0):Nat.gcd a (b / 2)=Nat.gcd a b:=by
 rw [Nat.gcd_comm a,Nat.gcd_comm a];exact gcd_eo hb ha
theorem gcd_sub {a b:Nat} (h:b≤a):Nat.gcd (a-b) b=Nat.gcd a b:=Nat.gcd_sub_self_left h
theorem pow_lim {k n:Nat} (h:2 ^ k≤n) {s:Nat} (hn:n<4294967296 ^ s):k<32*s:=by
 have e:(4294967296:Nat) ^ s=2 ^ (32*s):=by rw [Nat.pow_mul]
 rw [e]at hn
 exact (Nat.pow_lt_pow_iff_right (by omega)).1 (Nat.lt_of_le_of_lt h hn)
theorem ordN_neg {a b:Nat}:ordN a b<0↔a<b:=by unfold ordN;split <;> (try split) <;> omega
theorem bits_lt {x:List Nat} (hx:WL x) (h:x.length≠0):val x<2 ^ (32*(x.length-1)+bln (x.getD (x.length-1) 0)):=by
 have h1:=val_cut x (x.length-1)
 have h2:=val_drop x (x.length-1)
 rw [show x.length-1+1=x.length by omega,List.drop_length]at h2
 have h3:=take_lt hx (x.length-1)
 have h4:=lt_bln (x.getD (x.length-1) 0)
 have e:(4294967296:Nat) ^ (x.length-1)=2 ^ (32*(x.length-1)):=by rw [Nat.pow_mul]
 rw [h2,show val []=0 from rfl,Nat.mul_zero,Nat.add_zero]at h1
 rw [Nat.pow_add,←e]
 generalize 4294967296 ^ (x.length-1)=p at *
 generalize 2 ^ bln (x.getD (x.length-1) 0)=q at *
 have:p*(x.getD (x.length-1) 0+1)≤p*q:=Nat.mul_le_mul_left _ h4
 rw [Nat.mul_add,Nat.mul_one]at this
 omega
theorem digit (x:List Nat) {m:Nat} (hx:WL x):val x / 4294967296 ^ m=x.getD m 0+4294967296*val (x.drop (m+1)):=by
 rw [val_cut x m,val_drop,Nat.add_mul_div_left _ _ (Nat.pow_pos (by omega)),Nat.div_eq_of_lt (take_lt hx m),Nat.zero_add]
theorem pow_parts (i:Nat):(2:Nat) ^ i=4294967296 ^ (i / 32)*2 ^ (i % 32):=by
 have e:(4294967296:Nat) ^ (i / 32)=2 ^ (32*(i / 32)):=by rw [Nat.pow_mul]
 rw [e,←Nat.pow_add,Nat.div_add_mod]
theorem bit_at {x:List Nat} (hx:WL x) (i:Nat):x.getD (i / 32) 0 / 2 ^ (i % 32) % 2=val x / 2 ^ i % 2:=by
 rw [pow_parts i,←Nat.div_div_eq_div_mul,digit x hx]
 have hs:i % 32<32:=Nat.mod_lt _ (by omega)
 generalize i % 32=s at *
 generalize val (x.drop (i / 32+1))=r
 have e:(4294967296:Nat)=2 ^ s*(2*2 ^ (31-s)):=by
  rw [Nat.mul_left_comm,←Nat.pow_add,show s+(31-s)=31 by omega]
 rw [e,Nat.mul_assoc,Nat.add_mul_div_left _ _ (Nat.pow_pos (by omega)),Nat.mul_assoc,Nat.add_mul_mod_self_left]
theorem bit_next (v i:Nat):v / 2 ^ i=2*(v / 2 ^ (i+1))+v / 2 ^ i % 2:=by
 rw [Nat.pow_succ,←Nat.div_div_eq_div_mul];omega
theorem shl_or {a c:Nat} (hc:c≤1):a*2 % 4294967296 ||| c=a*2 % 4294967296+c:=by
 have:=Nat.two_pow_add_eq_or_of_lt (i:=1) (b:=c) (by omega) (a*2 % 4294967296 / 2)
 rw [show 2 ^ 1*(a*2 % 4294967296 / 2)=a*2 % 4294967296 by omega]at this
 exact this.symm
theorem set_bit {a s:Nat} (hs:s<32) (h:a % 2 ^ (s+1)=0):a ||| 2 ^ s=a+2 ^ s:=by
 have:=Nat.two_pow_add_eq_or_of_lt (i:=s+1) (b:=2 ^ s) (Nat.pow_lt_pow_right (by omega) (by omega)) (a / 2 ^ (s+1))
 rw [Nat.mul_div_cancel' (Nat.dvd_of_mod_eq_zero h)]at this
 exact this.symm
theorem low_bits {q:List Nat} (hq:WL q) {i Q:Nat} (h:val q=Q*2 ^ (i+1)):q.getD (i / 32) 0 % 2 ^ (i % 32+1)=0:=by
 have hs:i % 32<32:=Nat.mod_lt _ (by omega)
 have h1:=digit q hq (m:=i / 32)
 have e1:(2:Nat) ^ (i+1)=4294967296 ^ (i / 32)*2 ^ (i % 32+1):=by rw [Nat.pow_succ,pow_parts,Nat.pow_succ,Nat.mul_assoc]
 rw [h,e1,Nat.mul_left_comm,Nat.mul_div_cancel_left _ (Nat.pow_pos (by omega))]at h1
 generalize i % 32=s at *
 generalize val (q.drop (i / 32+1))=r at *
 have e2:(4294967296:Nat)=2 ^ (s+1)*2 ^ (31-s):=by
  rw [←Nat.pow_add,show s+1+(31-s)=32 by omega]
 have:(q.getD (i / 32) 0+4294967296*r) % 2 ^ (s+1)=0:=by rw [←h1];exact Nat.mul_mod_left _ _
 rw [e2,Nat.mul_assoc,Nat.add_mul_mod_self_left]at this
 exact this
theorem shl_step {vo p c tr bit x:Nat} (h:vo+p*c=2*tr+bit) (hx:x<4294967296):vo+p*(x*2 % 4294967296+c)+p*4294967296*(x / 2147483648)=2*(tr+p*x)+bit:=by
 have e:x*2 % 4294967296+4294967296*(x / 2147483648)=2*x:=by omega
 have:=congrArg (p * ·) e
 simp only [Nat.mul_add]at this ⊢
 rw [Nat.mul_assoc p 4294967296]
 have e2:p*(2*x)=2*(p*x):=by rw [Nat.mul_left_comm]
 omega
theorem div_step1 {v y i q r bit:Nat} (hy:0<y) (hb:v / 2 ^ i % 2=bit) (hq:q=v / 2 ^ (i+1) / y*2 ^ (i+1)) (hr:r=v / 2 ^ (i+1) % y) (h:y≤2*r+bit):q+2 ^ i=v / 2 ^ i / y*2 ^ i∧2*r+bit-y=v / 2 ^ i % y:=by
 have e:=bit_next v i
 rw [hb]at e
 have d:=Nat.div_add_mod (v / 2 ^ (i+1)) y
 have hm:=Nat.mod_lt (v / 2 ^ (i+1)) hy
 rw [←hr]at d hm
 generalize hQ:v / 2 ^ (i+1) / y=Q at *
 generalize v / 2 ^ (i+1)=X at *
 have hb1:bit≤1:=by omega
 have key:v / 2 ^ i=y*(2*Q+1)+(2*r+bit-y):=by
  have e2:y*(2*Q+1)=2*(y*Q)+y:=by rw [Nat.mul_add,Nat.mul_one,Nat.mul_left_comm y 2 Q]
  rw [e,←d,e2];omega
 have hlt:2*r+bit-y<y:=by omega
 constructor
 ·rw [key,Nat.mul_add_div hy,Nat.div_eq_of_lt hlt,Nat.add_zero,hq,Nat.pow_succ,Nat.add_mul,Nat.one_mul,Nat.mul_comm 2 Q,Nat.mul_assoc,Nat.mul_comm 2]
 ·rw [key,Nat.mul_add_mod,Nat.mod_eq_of_lt hlt]
theorem div_step0 {v y i q r bit:Nat} (hy:0<y) (hb:v / 2 ^ i % 2=bit) (hq:q=v / 2 ^ (i+1) / y*2 ^ (i+1)) (hr:r=v / 2 ^ (i+1) % y) (h:2*r+bit<y):q=v / 2 ^ i / y*2 ^ i∧2*r+bit=v / 2 ^ i % y:=by
 have e:=bit_next v i
 rw [hb]at e
 have d:=Nat.div_add_mod (v / 2 ^ (i+1)) y
 rw [←hr]at d
 generalize hQ:v / 2 ^ (i+1) / y=Q at *
 generalize v / 2 ^ (i+1)=X at *
 have key:v / 2 ^ i=y*(2*Q)+(2*r+bit):=by
  have e2:y*(2*Q)=2*(y*Q):=by rw [Nat.mul_left_comm y 2 Q]
  rw [e,←d,e2];omega
 constructor
 ·rw [key,Nat.mul_add_div hy,Nat.div_eq_of_lt h,Nat.add_zero,hq,Nat.pow_succ,Nat.mul_comm 2 Q,Nat.mul_assoc,Nat.mul_comm 2]
 ·rw [key,Nat.mul_add_mod,Nat.mod_eq_of_lt h]
end Go.Num
namespace Go.Abs
open Go.Num
theorem share4 {c1 c2 c3 p d1 d2 d3 q X L:Prop} (h1:c1) (h2:c2) (h3:c3) (k1:d1) (k2:d2) (k3:d3) (hx:p→q→X) (hl:¬p∨¬q→L):c1∧c2∧c3∧(p→d1∧d2∧d3∧(q→X)∧(¬q→L))∧(¬p→L):=
 ⟨h1,h2,h3,fun hp=>⟨k1,k2,k3,hx hp,fun hq=>hl (.inr hq)⟩,fun hp=>hl (.inl hp)⟩
theorem and32_1 (K:AV→Prop) (a:Nat):arith K .and .u32 (a:Int) 1=(a<2 ^ IntKind.u32.bits∧intR K .u32 ((a % 2:Nat):Int)):=arith_and1 K .u32 a rfl (by decide)
theorem okH_1' {h' : Nat→HB} {k v v' z:Nat} {b:Bool} {es:List (List C)} {l' : List Nat} {r:List (Nat×HB)} (e:es=l'.map wc):okH (mkH ((k,⟨v,some ⟨es,z,b⟩⟩)::r)) h' [(k,⟨v',some ⟨l'.map wc,z,b⟩⟩)]:=by
 subst e;exact okH_1 rfl
theorem okB_wc' {h h' : Nat→HB} {z:Nat} {b:Bool} {es:List (List C)} {l' : List Nat} (e:es=l'.map wc):okB h h' (some ⟨es,z,b⟩) (some ⟨l'.map wc,z,b⟩):=by
 subst e;exact okB_wc rfl
theorem set_wc' (L:List Nat) (i s:Nat):(L.map wc).set i [C.lit (.int .u32 ((s:Int) % 4294967296))]=(L.set i (s % 4294967296)).map wc:=by
 rw [List.map_set];simp [wc]
def onWx (k:List Nat→Prop) (a:AV):Prop:=∃l,(a=.one (ws l)∨a=.one (.full (l.map wc))∨(a=.one .emp∧l=[]))∧WL l∧k l
@[congr] theorem onWx_cg {k:List Nat→Prop} {a a' : AV} (h:a=a'):onWx k a=onWx k a':=by subst h;rfl
theorem onWx_e (k:List Nat→Prop) (l:List Nat):onWx k (.one (.slice (l.map wc)))=(WL l∧k l):=by
 refine propext ⟨fun ⟨x,h,h1,h2⟩=>?_,fun h=>⟨l,.inl rfl,h⟩⟩
 rcases h with h | h | h
 ·have:=wsA_inj l x h;subst this;exact ⟨h1,h2⟩
 ·simp at h
 ·simp at h
theorem onWx_f (k:List Nat→Prop) (l:List Nat):onWx k (.one (.full (l.map wc)))=(WL l∧k l):=by
 refine propext ⟨fun ⟨x,h,h1,h2⟩=>?_,fun h=>⟨l,.inr (.inl rfl),h⟩⟩
 rcases h with h | h | h
 ·simp [ws]at h
 ·have:=map_wc_inj (x:=l) (y:=x) (by simpa using h);subst this;exact ⟨h1,h2⟩
 ·simp at h
theorem onWx_0 (k:List Nat→Prop):onWx k (.one .emp)=k []:=by
 refine propext ⟨fun ⟨x,h,h1,h2⟩=>?_,fun h=>⟨[],.inr (.inr ⟨rfl,rfl⟩),WL_nil,h⟩⟩
 rcases h with h | h | h
 ·simp [ws]at h
 ·simp at h
 ·obtain ⟨_,rfl⟩:=h;exact h2
attribute [go_sem] onWx_e onWx_f onWx_0
attribute [go_sem ↓] onWx_e onWx_f onWx_0
theorem g_onWx {β:Type} {T:List Nat→(β→Prop)→Prop} (h:∀l,GoodT (T l)) {a:AV}:GoodT fun K=>onWx (fun l=>T l K) a:=
 .of fun K hx=>by
  obtain ⟨l,ha,hw,hk⟩:=hx
  rcases ha with ha | ha | ⟨ha,rfl⟩
  ·have:(fun K=>onWx (fun l=>T l K) a)=fun K=>WL l∧T l K:=funext fun K=>by rw [ha];exact onWx_e _ l
   rw [this];exact .and fun _=>h l
  ·have:(fun K=>onWx (fun l=>T l K) a)=fun K=>WL l∧T l K:=funext fun K=>by rw [ha];exact onWx_f _ l
   rw [this];exact .and fun _=>h l
  ·have:(fun K=>onWx (fun l=>T l K) a)=T []:=funext fun K=>by rw [ha];exact onWx_0 _
   rw [this];exact h []
def tr01_G (l:List AV) (K:List (List C)→Prop):Prop:=
 match l with
 | [a]=>onWx (fun l=>l.length≤68719476736∧K ((digs (val l)).map wc)) a
 | _=>False
theorem tr01_Ge (a:AV) (K:List (List C)→Prop):tr01_G [a] K=(onWx (fun l=>l.length≤68719476736∧K ((digs (val l)).map wc)) a):=propext Iff.rfl
@[congr] theorem tr01_Gc {K:List (List C)→Prop} {l l' : List AV} (h:l=l'):tr01_G l K=tr01_G l' K:=by subst h;rfl
attribute [go_sem] tr01_Ge
attribute [go_sem ↓] tr01_Ge
theorem tr01_good:Good tr01_G:=good_of fun as=>by
 unfold tr01_G
 split
 ·exact (g_onWx fun _=>(.and fun _=>(.ret _)))
 ·exact .of fun K hk=>hk.elim
def cmp01_G (l:List AV) (K:AV→Prop):Prop:=
 match l with
 | [a,b]=>onWs (fun x=>onWs (fun y=>K (.one (.lit (.int .i64 (ordN (val x) (val y)))))) b) a
 | _=>False
theorem cmp01_Ge (a b:AV) (K:AV→Prop):cmp01_G [a,b] K=(onWs (fun x=>onWs (fun y=>K (.one (.lit (.int .i64 (ordN (val x) (val y)))))) b) a):=propext Iff.rfl
@[congr] theorem cmp01_Gc {K:AV→Prop} {l l' : List AV} (h:l=l'):cmp01_G l K=cmp01_G l' K:=by subst h;rfl
attribute [go_sem] cmp01_Ge
attribute [go_sem ↓] cmp01_Ge
theorem cmp01_good:Good cmp01_G:=good_of fun as=>by
 unfold cmp01_G
 split
 ·exact (g_onWs fun _=>(g_onWs fun _=>(.ret _)))
 ·exact .of fun K hk=>hk.elim
def gcd01_G (l:List AV) (K:AV→Prop):Prop:=
 match l with
 | [a,b]=>onWs (fun x=>onWs (fun y=>x.length≤17179869184∧y.length≤17179869184∧K (.one (.slice ((digs (Nat.gcd (val x) (val y))).map wc)))) b) a
 | _=>False
theorem gcd01_Ge (a b:AV) (K:AV→Prop):gcd01_G [a,b] K=(onWs (fun x=>onWs (fun y=>x.length≤17179869184∧y.length≤17179869184∧K (.one (.slice ((digs (Nat.gcd (val x) (val y))).map wc)))) b) a):=propext Iff.rfl
@[congr] theorem gcd01_Gc {K:AV→Prop} {l l' : List AV} (h:l=l'):gcd01_G l K=gcd01_G l' K:=by subst h;rfl
attribute [go_sem] gcd01_Ge
attribute [go_sem ↓] gcd01_Ge
theorem gcd01_good:Good gcd01_G:=good_of fun as=>by
 unfold gcd01_G
 split
 ·exact (g_onWs fun _=>(g_onWs fun _=>(.and fun _=>(.and fun _=>(.ret _)))))
 ·exact .of fun K hk=>hk.elim
def bits01_G (l:List AV) (K:AV→Prop):Prop:=
 match l with
 | [a]=>onWs (fun x=>x.length≤68719476736∧K (.one (.lit (.int .i64 ((if x.length=0 then 0 else 32*(x.length-1)+bln (x.getD (x.length-1) 0):Nat):Int))))) a
 | _=>False
theorem bits01_Ge (a:AV) (K:AV→Prop):bits01_G [a] K=(onWs (fun x=>x.length≤68719476736∧K (.one (.lit (.int .i64 ((if x.length=0 then 0 else 32*(x.length-1)+bln (x.getD (x.length-1) 0):Nat):Int))))) a):=propext Iff.rfl
@[congr] theorem bits01_Gc {K:AV→Prop} {l l' : List AV} (h:l=l'):bits01_G l K=bits01_G l' K:=by subst h;rfl
attribute [go_sem] bits01_Ge
attribute [go_sem ↓] bits01_Ge
theorem bits01_good:Good bits01_G:=good_of fun as=>by
 unfold bits01_G
 split
 ·exact (g_onWs fun _=>(.and fun _=>(.ret _)))
 ·exact .of fun K hk=>hk.elim
def zsub_G (l:List AV) (K:AV→Prop):Prop:=
 match l with
 | [a,b]=>onW (fun v=>onW (fun w=>zs (zv v)≤17179869184∧zs (zv w)≤17179869184∧K (.agg [zb (zcan (zv v-zv w)),zm (zcan (zv v-zv w))])) b) a
 | _=>False
theorem zsub_Ge (a b:AV) (K:AV→Prop):zsub_G [a,b] K=(onW (fun v=>onW (fun w=>zs (zv v)≤17179869184∧zs (zv w)≤17179869184∧K (.agg [zb (zcan (zv v-zv w)),zm (zcan (zv v-zv w))])) b) a):=propext Iff.rfl
@[congr] theorem zsub_Gc {K:AV→Prop} {l l' : List AV} (h:l=l'):zsub_G l K=zsub_G l' K:=by subst h;rfl
attribute [go_sem] zsub_Ge
attribute [go_sem ↓] zsub_Ge
def zcmp01_G (l:List AV) (K:AV→Prop):Prop:=
 match l with
 | [a,b]=>onW (fun v=>onW (fun w=>zs (zv v)≤17179869184∧zs (zv w)≤17179869184∧zs (zv v-zv w)≤17179869184∧K (.one (.lit (.int .i64 (ordI (zv v) (zv w)))))) b) a
 | _=>False
theorem zcmp01_Ge (a b:AV) (K:AV→Prop):zcmp01_G [a,b] K=(onW (fun v=>onW (fun w=>zs (zv v)≤17179869184∧zs (zv w)≤17179869184∧zs (zv v-zv w)≤17179869184∧K (.one (.lit (.int .i64 (ordI (zv v) (zv w)))))) b) a):=propext Iff.rfl
@[congr] theorem zcmp01_Gc {K:AV→Prop} {l l' : List AV} (h:l=l'):zcmp01_G l K=zcmp01_G l' K:=by subst h;rfl
attribute [go_sem] zcmp01_Ge
attribute [go_sem ↓] zcmp01_Ge
def zdiv01_G (l:List AV) (K:AV→Prop):Prop:=
 match l with
 | [a,b]=>onW (fun v=>onW (fun w=>zs (zv v)≤17179869184∧zs (zv w)≤17179869184∧zv w≠0∧K (.tup [.agg [zb (zcan (zv v / zv w)),zm (zcan (zv v / zv w))],.agg [zb (zcan (zv v % zv w)),zm (zcan (zv v % zv w))],.one (.lit (.int .i64 0))])) b) a
 | _=>False
theorem zdiv01_Ge (a b:AV) (K:AV→Prop):zdiv01_G [a,b] K=(onW (fun v=>onW (fun w=>zs (zv v)≤17179869184∧zs (zv w)≤17179869184∧zv w≠0∧K (.tup [.agg [zb (zcan (zv v / zv w)),zm (zcan (zv v / zv w))],.agg [zb (zcan (zv v % zv w)),zm (zcan (zv v % zv w))],.one (.lit (.int .i64 0))])) b) a):=propext Iff.rfl
@[congr] theorem zdiv01_Gc {K:AV→Prop} {l l' : List AV} (h:l=l'):zdiv01_G l K=zdiv01_G l' K:=by subst h;rfl
attribute [go_sem] zdiv01_Ge
attribute [go_sem ↓] zdiv01_Ge
theorem zdiv01_good:Good zdiv01_G:=good_of fun as=>by
 unfold zdiv01_G
 split
 ·exact (g_onW fun _=>(g_onW fun _=>(.and fun _=>(.and fun _=>(.and fun _=>(.ret _))))))
 ·exact .of fun K hk=>hk.elim
def cut_G (d:Option Nat) (args:List AV) (h:Nat→HB) (K:AV→(Nat→HB)→Prop):Prop:=
 match args with
 | [.one (.own r ver 1 0 len)]=>∃l post,len=l.length∧h r=⟨ver,some ⟨(l++post).map wc,1,true⟩⟩∧WL l∧len≤68719476736∧
   ∀post',K (.one (.own r ver 1 0 (digs (val l)).length)) (upd h r ⟨ver,some ⟨(digs (val l)++post').map wc,1,true⟩⟩)
 | _=>False
@[congr] theorem cut_Gc {d:Option Nat} {l l' : List AV} {h h' : Nat→HB} {K:AV→(Nat→HB)→Prop} (e1:l=l') (e2:h=h'):cut_G d l h K=cut_G d l' h' K:=by subst e1;subst e2;rfl
def halve_G (d:Option Nat) (args:List AV) (h:Nat→HB) (K:AV→(Nat→HB)→Prop):Prop:=
 match args with
 | [.one (.own r ver 1 0 len)]=>∃l post,len=l.length∧h r=⟨ver,some ⟨(l++post).map wc,1,true⟩⟩∧WL l∧len≤68719476736∧
   ∀post',K (.one (.own r ver 1 0 (digs (val l / 2)).length)) (upd h r ⟨ver,some ⟨(digs (val l / 2)++post').map wc,1,true⟩⟩)
 | _=>False
@[congr] theorem halve_Gc {d:Option Nat} {l l' : List AV} {h h' : Nat→HB} {K:AV→(Nat→HB)→Prop} (e1:l=l') (e2:h=h'):halve_G d l h K=halve_G d l' h' K:=by subst e1;subst e2;rfl
def take_G (d:Option Nat) (args:List AV) (h:Nat→HB) (K:AV→(Nat→HB)→Prop):Prop:=
 match args with
 | [.one (.own r ver 1 0 len),.one (.own r2 ver2 1 0 len2)]=>∃l post y posty,r≠r2∧len=l.length∧h r=⟨ver,some ⟨(l++post).map wc,1,true⟩⟩∧WL l∧len≤68719476736∧
   len2=y.length∧h r2=⟨ver2,some ⟨(y++posty).map wc,1,true⟩⟩∧WL y∧val y≤val l∧
   K (.tup []) (upd (upd h r2 ⟨ver2,some ⟨(y++posty).map wc,1,true⟩⟩) r ⟨ver,some ⟨(dig l.length (val l-val y)++post).map wc,1,true⟩⟩)
 | [.one (.own r ver 1 0 len),b]=>onWs (fun y=>∃l post,len=l.length∧h r=⟨ver,some ⟨(l++post).map wc,1,true⟩⟩∧WL l∧len≤68719476736∧val y≤val l∧
   K (.tup []) (upd h r ⟨ver,some ⟨(dig l.length (val l-val y)++post).map wc,1,true⟩⟩)) b
 | _=>False
@[congr] theorem take_Gc {d:Option Nat} {l l' : List AV} {h h' : Nat→HB} {K:AV→(Nat→HB)→Prop} (e1:l=l') (e2:h=h'):take_G d l h K=take_G d l' h' K:=by subst e1;subst e2;rfl
end Go.Abs
end
section
set_option linter.unusedVariables false
set_option linter.unusedSimpArgs false
set_option maxRecDepth 100000
namespace Go.Abs
open Go.Num
variable {P:Program} {Γ:Nat→Spec}
def ac_linkworkref02_form (f0 f1 f2 f3:Nat):AC:=(.seq (.ops false [.u 2 (.box 2 (.t 0)),.u 3 (.box 2 (.t 1)),.u 4 (.alloc [(.lit (.bool false)),.emp,.emp])])
 (.fg [2,3,4] (.seq (.seq (.ops false [.u 12 (.ld none 2 true (.t 2)),.u 13 (.call f0 [(.t 12)]),.u 14 (.bin .eql (.t 13) (.i 0))])
 (.fg [2,3,4,14] (.cond (.t 14) (.seq (.ops false [.u 15 (.build [.z [(.lit (.bool false)),.emp,.emp]]),.n (.st none 3 (.t 4) (.t 15))])
 .ret) .skip)))
 (.fg [2,3,4] (.seq (.seq (.ops false [.u 16 (.ld none 2 true (.t 3)),.u 17 (.call f0 [(.t 16)]),.u 18 (.bin .lss (.t 17) (.i 0))])
 (.fg [2,3,4,18] (.cond (.t 18) (.ops true [.u 19 (.ld none 2 true (.t 2)),.u 20 (.call f1 [(.t 19)]),.u 21 (.ld none 2 true (.t 3)),.u 22 (.call f1 [(.t 21)]),.n (.st none 2 (.t 2) (.t 20)),.n (.st none 2 (.t 3) (.t 22))]) .skip)))
 (.fg [2,3,4] (.seq (.ops false [.u 23 (.ld none 2 true (.t 2)),.u 24 (.ld none 2 true (.t 3)),.u 25 (.call f2 [(.t 23),(.t 24)]),.u 5 (.alloc [(.lit (.bool false)),.emp]),.n (.st none 2 (.t 5) (.t 25))])
 (.fg [2,3,4,5] (.seq (.ops false [.u 27 (.ld none 2 true (.t 2)),.u 28 (.ld none 2 true (.t 5)),.u 29 (.call f3 [(.t 27),(.t 28)]),.m 26 (.t 29),.u 30 (.ext 0 (.t 26)),.u 31 (.ext 1 (.t 26)),.u 32 (.ext 2 (.t 26)),.u 6 (.alloc [(.lit (.bool false)),.emp]),.u 7 (.alloc [(.lit (.bool false)),.emp]),.n (.st none 2 (.t 6) (.t 30)),.n (.st none 2 (.t 7) (.t 31)),.m 8 (.t 32)])
 (.fg [3,4,5,6] (.seq (.ops false [.u 34 (.ld none 2 true (.t 3)),.u 35 (.ld none 2 true (.t 5)),.u 36 (.call f3 [(.t 34),(.t 35)]),.m 33 (.t 36),.u 37 (.ext 0 (.t 33)),.u 38 (.ext 1 (.t 33)),.u 39 (.ext 2 (.t 33)),.u 9 (.alloc [(.lit (.bool false)),.emp]),.u 10 (.alloc [(.lit (.bool false)),.emp]),.n (.st none 2 (.t 9) (.t 37)),.n (.st none 2 (.t 10) (.t 38)),.m 11 (.t 39)])
 (.fg [4,6,9] (.seq (.ops false [.u 40 (.fa 0 (.t 6)),.u 41 (.ld none 1 false (.t 40)),.u 42 (.fa 1 (.t 6)),.u 43 (.ld none 1 false (.t 42)),.u 44 (.fa 1 (.t 9)),.u 45 (.ld none 1 false (.t 44)),.u 46 (.build [.x 1 (.t 41),.x 1 (.t 43),.x 1 (.t 45)]),.n (.st none 3 (.t 4) (.t 46))])
 .ret)))))))))))))
def ac_linkworkref02_From (f0 f1:Nat):AC:=(.seq (.ops false [.u 2 (.box 2 (.t 0)),.u 3 (.box 2 (.t 1)),.u 4 (.alloc [(.lit (.bool false)),.emp,.emp]),.m 5 (.i 0)])
 (.fg [2,3,4] (.seq (.seq (.ops false [.u 6 (.ld none 2 true (.t 3)),.u 7 (.call f0 [(.t 6)]),.u 8 (.bin .eql (.t 7) (.i 0))])
 (.fg [2,3,4,8] (.cond (.t 8) (.seq (.ops false [.u 9 (.build [.z [(.lit (.bool false)),.emp,.emp]]),.n (.st none 3 (.t 4) (.t 9)),.m 5 (.i 8)])
 .ret) .skip)))
 (.fg [2,3,4] (.seq (.ops false [.u 10 (.ld none 2 true (.t 2)),.u 11 (.ld none 2 true (.t 3)),.u 12 (.call f1 [(.t 10),(.t 11)]),.n (.st none 3 (.t 4) (.t 12)),.m 5 (.i 0)])
 .ret)))))
def ac_linkworkref02_Make (f0 f1:Nat):AC:=(.seq (.ops false [.u 4 (.alloc [(.lit (.bool false)),.emp,.emp]),.m 5 (.i 0)])
 (.fg [0,1,4] (.seq (.ops false [.m 6 (.t 0),.u 7 (.call f0 [(.t 6)]),.m 8 (.t 1),.u 9 (.call f0 [(.t 8)]),.u 10 (.call f1 [(.t 7),(.t 9)]),.u 11 (.ext 0 (.t 10)),.u 12 (.ext 1 (.t 10)),.n (.st none 3 (.t 4) (.t 11)),.m 5 (.t 12)])
 .ret)))
theorem form_cells2 {n d N D:Int} {g:Nat} (hd:d≠0) (hn:n≠0) (hN:N=d.sign*n) (hD:0≤D) (e2:D.natAbs=d.natAbs) (eg:g=Int.gcd n d) :
  AV.agg [zb (zcan (N / (g:Int))),zm (zcan (N / (g:Int))),zm (zcan (D / (g:Int)))]=.agg [cb (rcan (Rat.divInt n d)),cn (rcan (Rat.divInt n d)),cd (rcan (Rat.divInt n d))]:=by
 obtain ⟨D',rfl⟩:=Int.eq_ofNat_of_zero_le hD
 simp only [Int.natAbs_natCast]at e2
 subst e2 eg hN
 have hg:0<Int.gcd n d:=Int.gcd_pos_of_ne_zero_left _ hn
 rw [cb_eq,cn_eq,cd_eq,rcan_divInt hd hn,zm_eq,zm_eq,zb_eq]
 have hdv:((Int.gcd n d:Nat):Int) ∣ d.sign*n:=Int.dvd_mul_of_dvd_right (Int.gcd_dvd_left _ _)
 obtain ⟨k,hk⟩:=hdv
 have hs:(d.sign*n).natAbs=n.natAbs:=by
  rw [Int.natAbs_mul,Int.natAbs_sign_of_ne_zero hd,Nat.one_mul]
 have e:(d.sign*n / ((Int.gcd n d:Nat):Int))=k:=by rw [hk,Int.mul_ediv_cancel_left _ (by omega)]
 rw [e,←Int.natCast_ediv]
 simp only [zcan,Int.natAbs_natCast]
 have hk2:k.natAbs=n.natAbs / Int.gcd n d:=by
  rw [←hs,hk,Int.natAbs_mul]
  simp only [Int.natAbs_natCast]
  rw [Nat.mul_div_cancel_left _ hg]
 have:decide (k<0)=decide (d.sign*n<0):=by
  rw [decide_eq_decide,hk]
  constructor
  ·intro h;exact Int.mul_neg_of_pos_of_neg (by omega) h
  ·intro h
   rcases Int.lt_or_le k 0 with h' | h'
   ·exact h'
   ·have:=Int.mul_nonneg (show (0:Int)≤((Int.gcd n d:Nat):Int) by omega) h';omega
 rw [hk2,this]
theorem rform02_sound (hΓ:Holds P Γ) {f fs fn fg fd:Nat} (hs:Γ fs=.dat true zsign_G) (hn:Γ fn=.dat false zneg_G) (hg:Γ fg=.dat false zgcd_G) (hd:Γ fd=.dat false zdiv01_G) (hc:check P f=some (47,(ac_linkworkref02_form fs fn fg fd).strip,[.cell 4 3 true])):Sound P f (.dat false rform_G):=by
 refine sound_dat hc rform_good hΓ (fun args K hcl hfi hG=>?_)
 match args,hG with
 | [a,b],hG=>
  obtain ⟨v,rfl,hv,w,rfl,hw,hz,hz',h0,hK⟩:=hG
  refine ⟨by simp,?_⟩
  simp only [go_sem,ac_linkworkref02_form,hs,hn,hg,hd,hv,hw]
  generalize zv v=n at *
  generalize zv w=d at *
  have hd0:=h0
  refine ⟨fun h=>?_,fun h=>?_⟩
  ·rw [Int.sign_eq_zero_iff_zero.1 h,Rat.zero_divInt,rcan_zero]at hK;exact hK
  have hn0:n≠0:=fun e=>h (by rw [e];rfl)
  have hg0:((Int.gcd n d:Nat):Int)≠0:=by
   have:=Int.gcd_pos_of_ne_zero_left d hn0;omega
  have hgz:zs ((Int.gcd n d:Nat):Int)≤17179869184:=zs_gcd hd0 hz'
  simp only [Int.gcd_neg,Int.neg_gcd,zs_neg,sign_lt]
  refine ⟨fun hdn=>⟨by omega,by omega,hz,hz',hz,hgz,hg0,hz',hgz,hg0,?_⟩,fun hdn=>⟨hz,hz',hz,hgz,hg0,hz',hgz,hg0,?_⟩⟩
  ·rw [form_cells2 hd0 hn0 (by rw [Int.sign_eq_neg_one_of_neg hdn];omega) (by omega) (by omega) rfl];exact hK
  ·rw [form_cells2 hd0 hn0 (by rw [Int.sign_eq_one_of_pos (by omega)];omega) (by omega) (by omega) rfl];exact hK
end Go.Abs
end
section
set_option linter.unusedVariables false
set_option linter.unusedSimpArgs false
set_option maxRecDepth 100000
namespace Go.Num
open Go.Abs
theorem rz_0:rz 0=0:=by unfold rz;rw [rcan_zero];rfl
theorem rz_1:rz 1≤2:=by
 have:=rz_int 1
 have h1:zs 1≤2:=zs_of (by decide)
 have e:((1:Int):Rat)=1:=rfl
 rw [e]at this
 omega
theorem rz_mul (p q:Rat):rz (p*q)≤rz p+rz q+2:=by
 rw [←mul_parts]
 have n1:=rz_num p
 have n2:=rz_num q
 have d1:=rz_den p
 have d2:=rz_den q
 have m1:=zs_mul p.num q.num
 have m2:=zs_mul (p.den:Int) (q.den:Int)
 refine rz_divInt (by exact Int.mul_ne_zero (den_ne _) (den_ne _)) (by omega) (by omega)
theorem div_parts {p q:Rat} (hq:q≠0):Rat.divInt (p.num*q.den) (p.den*q.num)=p / q:=by
 have hn:q.num≠0:=num_ne hq
 have e1:(p.num:Rat) / (p.den:Rat)=p:=by have:=Rat.num_divInt_den p;rw [Rat.divInt_eq_div]at this;exact this
 have e2:(q.num:Rat) / (q.den:Rat)=q:=by have:=Rat.num_divInt_den q;rw [Rat.divInt_eq_div]at this;exact this
 have d1:(p.den:Rat)≠0:=by exact_mod_cast p.den_nz
 have d2:(q.den:Rat)≠0:=by exact_mod_cast q.den_nz
 have d3:(q.num:Rat)≠0:=by exact_mod_cast hn
 rw [Rat.divInt_eq_div]
 simp only [Rat.intCast_mul,Rat.intCast_natCast]
 have f1:(p.num:Rat)=p*(p.den:Rat):=by grind
 have f2:(q.num:Rat)=q*(q.den:Rat):=by grind
 rw [f1,f2]
 grind
theorem rz_div (p q:Rat):rz (p / q)≤rz p+rz q+2:=by
 by_cases hq:q=0
 ·subst hq
  rw [Rat.div_def,Rat.inv_zero,Rat.mul_zero,rz_0];omega
 ·rw [←div_parts hq]
  have n1:=rz_num p
  have n2:=rz_num q
  have d1:=rz_den p
  have d2:=rz_den q
  have m1:=zs_mul p.num (q.den:Int)
  have m2:=zs_mul (p.den:Int) q.num
  refine rz_divInt (by exact Int.mul_ne_zero (den_ne _) (num_ne hq)) (by omega) (by omega)
theorem div_eq (p q:Rat):Rat.divInt (p.num*q.den) (p.den*q.num)=p / q:=by
 by_cases hq:q=0
 ·subst hq
  rw [show (0:Rat).num=0 from rfl,Int.mul_zero,Rat.divInt_zero,Rat.div_def,Rat.inv_zero,Rat.mul_zero]
 ·exact div_parts hq
end Go.Num
namespace Go.Abs
open Go.Num
variable {P:Program} {Γ:Nat→Spec}
def rQ (q:Rat):AV:=.agg [cb (rcan q),cn (rcan q),cd (rcan q)]
theorem rQ_eq (q:Rat):rQ q=.agg [cb (rcan q),cn (rcan q),cd (rcan q)]:=eq_of_heq (HEq.refl _)
attribute [go_sem] rQ_eq
attribute [go_sem ↓] rQ_eq
def rmul_G (l:List AV) (K:AV→Prop):Prop:=
 match l with
 | [a,b]=>onR (fun x=>onR (fun y=>rl x≤4294967296∧rl y≤4294967296∧K (rQ (rv x*rv y))) b) a
 | _=>False
theorem rmul_Ge (a b:AV) (K:AV→Prop):rmul_G [a,b] K=(onR (fun x=>onR (fun y=>rl x≤4294967296∧rl y≤4294967296∧K (rQ (rv x*rv y))) b) a):=propext Iff.rfl
@[congr] theorem rmul_Gc {K:AV→Prop} {l l' : List AV} (h:l=l'):rmul_G l K=rmul_G l' K:=by subst h;rfl
attribute [go_sem] rmul_Ge
attribute [go_sem ↓] rmul_Ge
theorem rmul_good:Good rmul_G:=good_of fun as=>by
 unfold rmul_G
 split
 ·exact (g_onR fun _=>(g_onR fun _=>(.and fun _=>(.and fun _=>(.ret _)))))
 ·exact .of fun K hk=>hk.elim
def rfromE_G (tE:Nat) (l:List AV) (K:AV→Prop):Prop:=
 match l with
 | [a,b]=>onW (fun v=>onW (fun w=>zs (zv v)≤17179869184∧zs (zv w)≤17179869184∧K (.tup [rQ (Rat.divInt (zv v) (zv w)),errV tE (if zv w=0 then 8 else 0)])) b) a
 | _=>False
theorem rfromE_Ge (tE:Nat) (a b:AV) (K:AV→Prop):rfromE_G tE [a,b] K=(onW (fun v=>onW (fun w=>zs (zv v)≤17179869184∧zs (zv w)≤17179869184∧K (.tup [rQ (Rat.divInt (zv v) (zv w)),errV tE (if zv w=0 then 8 else 0)])) b) a):=propext Iff.rfl
@[congr] theorem rfromE_Gc (tE:Nat) {K:AV→Prop} {l l' : List AV} (h:l=l'):rfromE_G tE l K=rfromE_G tE l' K:=by subst h;rfl
attribute [go_sem] rfromE_Ge
attribute [go_sem ↓] rfromE_Ge
theorem rfromE_good (tE:Nat):Good (rfromE_G tE):=good_of fun as=>by
 unfold rfromE_G
 split
 ·exact (g_onW fun _=>(g_onW fun _=>(.and fun _=>(.and fun _=>(.ret _)))))
 ·exact .of fun K hk=>hk.elim
def rdivE_G (tE:Nat) (l:List AV) (K:AV→Prop):Prop:=
 match l with
 | [a,b]=>onR (fun x=>onR (fun y=>rl x≤4294967296∧rl y≤4294967296∧K (.tup [rQ (rv x / rv y),errV tE (if rv y=0 then 8 else 0)])) b) a
 | _=>False
theorem rdivE_Ge (tE:Nat) (a b:AV) (K:AV→Prop):rdivE_G tE [a,b] K=(onR (fun x=>onR (fun y=>rl x≤4294967296∧rl y≤4294967296∧K (.tup [rQ (rv x / rv y),errV tE (if rv y=0 then 8 else 0)])) b) a):=propext Iff.rfl
@[congr] theorem rdivE_Gc (tE:Nat) {K:AV→Prop} {l l' : List AV} (h:l=l'):rdivE_G tE l K=rdivE_G tE l' K:=by subst h;rfl
attribute [go_sem] rdivE_Ge
attribute [go_sem ↓] rdivE_Ge
theorem rdivE_good (tE:Nat):Good (rdivE_G tE):=good_of fun as=>by
 unfold rdivE_G
 split
 ·exact (g_onR fun _=>(g_onR fun _=>(.and fun _=>(.and fun _=>(.ret _)))))
 ·exact .of fun K hk=>hk.elim
def rfromN_G (l:List AV) (K:AV→Prop):Prop:=
 match l with
 | [a,b]=>onW (fun v=>onW (fun w=>zs (zv v)≤17179869184∧zs (zv w)≤17179869184∧K (.tup [rQ (Rat.divInt (zv v) (zv w)),.one (.lit (.int .i64 (if zv w=0 then 8 else 0)))])) b) a
 | _=>False
theorem rfromN_Ge (a b:AV) (K:AV→Prop):rfromN_G [a,b] K=(onW (fun v=>onW (fun w=>zs (zv v)≤17179869184∧zs (zv w)≤17179869184∧K (.tup [rQ (Rat.divInt (zv v) (zv w)),.one (.lit (.int .i64 (if zv w=0 then 8 else 0)))])) b) a):=propext Iff.rfl
@[congr] theorem rfromN_Gc {K:AV→Prop} {l l' : List AV} (h:l=l'):rfromN_G l K=rfromN_G l' K:=by subst h;rfl
attribute [go_sem] rfromN_Ge
attribute [go_sem ↓] rfromN_Ge
theorem rfromN_good:Good rfromN_G:=good_of fun as=>by
 unfold rfromN_G
 split
 ·exact (g_onW fun _=>(g_onW fun _=>(.and fun _=>(.and fun _=>(.ret _)))))
 ·exact .of fun K hk=>hk.elim
def rdivN_G (l:List AV) (K:AV→Prop):Prop:=
 match l with
 | [a,b]=>onR (fun x=>onR (fun y=>rl x≤1073741824∧rl y≤1073741824∧K (.tup [rQ (rv x / rv y),.one (.lit (.int .i64 (if rv y=0 then 8 else 0)))])) b) a
 | _=>False
theorem rdivN_Ge (a b:AV) (K:AV→Prop):rdivN_G [a,b] K=(onR (fun x=>onR (fun y=>rl x≤1073741824∧rl y≤1073741824∧K (.tup [rQ (rv x / rv y),.one (.lit (.int .i64 (if rv y=0 then 8 else 0)))])) b) a):=propext Iff.rfl
@[congr] theorem rdivN_Gc {K:AV→Prop} {l l' : List AV} (h:l=l'):rdivN_G l K=rdivN_G l' K:=by subst h;rfl
attribute [go_sem] rdivN_Ge
attribute [go_sem ↓] rdivN_Ge
def ac_fraction_Mul (f0 f1 f2:Nat):AC:=(.seq (.ops false [.u 2 (.box 3 (.t 0)),.u 3 (.box 3 (.t 1)),.u 4 (.alloc [(.lit (.bool false)),.emp,.emp])])
 (.fg [2,3,4] (.seq (.ops false [.u 10 (.ld none 3 true (.t 2)),.u 11 (.call f0 [(.t 10)]),.m 9 (.t 11),.u 12 (.ext 0 (.t 9)),.u 13 (.ext 1 (.t 9)),.u 5 (.alloc [(.lit (.bool false)),.emp]),.u 6 (.alloc [(.lit (.bool false)),.emp]),.n (.st none 2 (.t 5) (.t 12)),.n (.st none 2 (.t 6) (.t 13))])
 (.fg [3,4,5,6] (.seq (.ops false [.u 15 (.ld none 3 true (.t 3)),.u 16 (.call f0 [(.t 15)]),.m 14 (.t 16),.u 17 (.ext 0 (.t 14)),.u 18 (.ext 1 (.t 14)),.u 7 (.alloc [(.lit (.bool false)),.emp]),.u 8 (.alloc [(.lit (.bool false)),.emp]),.n (.st none 2 (.t 7) (.t 17)),.n (.st none 2 (.t 8) (.t 18))])
 (.fg [4,5,6,7,8] (.seq (.ops true [.u 19 (.ld none 2 true (.t 5)),.u 20 (.ld none 2 true (.t 7)),.u 21 (.call f1 [(.t 19),(.t 20)]),.u 22 (.ld none 2 true (.t 6)),.u 23 (.ld none 2 true (.t 8)),.u 24 (.call f1 [(.t 22),(.t 23)]),.u 25 (.call f2 [(.t 21),(.t 24)]),.n (.st none 3 (.t 4) (.t 25))])
 .ret)))))))
def ac_fraction_Div (f0 f1 f2:Nat):AC:=(.seq (.ops false [.u 2 (.box 3 (.t 0)),.u 3 (.box 3 (.t 1)),.u 4 (.alloc [(.lit (.bool false)),.emp,.emp]),.m 5 (.c (.one (.lit .nilIface)))])
 (.fg [2,3,4] (.seq (.ops false [.u 11 (.ld none 3 true (.t 2)),.u 12 (.call f0 [(.t 11)]),.m 10 (.t 12),.u 13 (.ext 0 (.t 10)),.u 14 (.ext 1 (.t 10)),.u 6 (.alloc [(.lit (.bool false)),.emp]),.u 7 (.alloc [(.lit (.bool false)),.emp]),.n (.st none 2 (.t 6) (.t 13)),.n (.st none 2 (.t 7) (.t 14))])
 (.fg [3,4,6,7] (.seq (.ops false [.u 16 (.ld none 3 true (.t 3)),.u 17 (.call f0 [(.t 16)]),.m 15 (.t 17),.u 18 (.ext 0 (.t 15)),.u 19 (.ext 1 (.t 15)),.u 8 (.alloc [(.lit (.bool false)),.emp]),.u 9 (.alloc [(.lit (.bool false)),.emp]),.n (.st none 2 (.t 8) (.t 18)),.n (.st none 2 (.t 9) (.t 19))])
 (.fg [4,6,7,8,9] (.seq (.ops true [.u 20 (.ld none 2 true (.t 6)),.u 21 (.ld none 2 true (.t 9)),.u 22 (.call f1 [(.t 20),(.t 21)]),.u 23 (.ld none 2 true (.t 7)),.u 24 (.ld none 2 true (.t 8)),.u 25 (.call f1 [(.t 23),(.t 24)]),.u 26 (.call f2 [(.t 22),(.t 25)]),.u 27 (.ext 0 (.t 26)),.u 28 (.ext 1 (.t 26)),.n (.st none 3 (.t 4) (.t 27)),.m 5 (.t 28)])
 .ret)))))))
theorem rmul_sound (hΓ:Holds P Γ) {f fp fm ff:Nat} (hp:Γ fp=.dat false rparts_G) (hm:Γ fm=.dat false zmul_G) (hf:Γ ff=.dat false rform_G) (hc:check P f=some (26,(ac_fraction_Mul fp fm ff).strip,[.cell 4 3 true])):Sound P f (.dat false rmul_G):=by
 refine sound_dat hc rmul_good hΓ (fun args K hcl hfi hG=>?_)
 match args,hG with
 | [a,b],hG=>
  obtain ⟨x,rfl,hx,y,rfl,hy,hl,hl',hK⟩:=hG
  refine ⟨by simp,?_⟩
  simp only [go_sem,ac_fraction_Mul,hp,hm,hf,hx,hy]
  have n1:=num_le hx
  have d1:=den_le hx
  have n2:=num_le hy
  have d2:=den_le hy
  have m1:=zs_mul (rv x).num (rv y).num
  have m3:=zs_mul ((rv x).den:Int) (rv y).den
  rw [Int.natCast_mul,mul_parts]
  exact ⟨hl,hl',by omega,by omega,by omega,by omega,by omega,by omega,Int.mul_ne_zero (den_ne _) (den_ne _),hK⟩
theorem rfromE_sound (hΓ:Holds P Γ) {f fs ff tE:Nat} (hs:Γ fs=.dat true zsign_G) (hf:Γ ff=.dat false rform_G) (hc:check P f=some (14,(ac_fraction_From fs ff tE).strip,[.cell 4 3 true,.tmp 5])):Sound P f (.dat false (rfromE_G tE)):=by
 refine sound_dat hc (rfromE_good tE) hΓ (fun args K hcl hfi hG=>?_)
 match args,hG with
 | [a,b],hG=>
  obtain ⟨v,rfl,hv,w,rfl,hw,hz,hz',hK⟩:=hG
  refine ⟨by simp,?_⟩
  simp only [go_sem,ac_fraction_From,hs,hf,hv,hw]
  refine ⟨fun e=>?_,fun e=>?_⟩
  ·have h0:=Int.sign_eq_zero_iff_zero.1 e
   rw [if_pos h0,h0,Rat.divInt_zero,errV_s tE (by decide),rQ_eq,rcan_zero]at hK
   exact hK
  ·have h0:zv w≠0:=fun h=>e (by rw [h];rfl)
   rw [if_neg h0,errV_0]at hK
   exact ⟨hz,hz',h0,hK⟩
theorem rdivE_sound (hΓ:Holds P Γ) {f fp fm ff tE:Nat} (hp:Γ fp=.dat false rparts_G) (hm:Γ fm=.dat false zmul_G) (hf:Γ ff=.dat false (rfromE_G tE)) (hc:check P f=some (29,(ac_fraction_Div fp fm ff).strip,[.cell 4 3 true,.tmp 5])):Sound P f (.dat false (rdivE_G tE)):=by
 refine sound_dat hc (rdivE_good tE) hΓ (fun args K hcl hfi hG=>?_)
 match args,hG with
 | [a,b],hG=>
  obtain ⟨x,rfl,hx,y,rfl,hy,hl,hl',hK⟩:=hG
  refine ⟨by simp,?_⟩
  simp only [go_sem,ac_fraction_Div,hp,hm,hf,hx,hy]
  have n1:=num_le hx
  have d1:=den_le hx
  have n2:=num_le hy
  have d2:=den_le hy
  have m1:=zs_mul (rv x).num ((rv y).den:Int)
  have m3:=zs_mul ((rv x).den:Int) (rv y).num
  have e:((((rv x).den:Int)*(rv y).num=0))=(rv y=0):=propext ⟨fun h=>by
   rcases Int.mul_eq_zero.1 h with h | h
   ·exact absurd h (den_ne _)
   ·exact Rat.num_eq_zero.1 h,fun h=>by rw [h];exact Int.mul_zero _⟩
  simp only [e]
  rw [div_eq]
  exact ⟨hl,hl',by omega,by omega,by omega,by omega,by omega,by omega,hK⟩
theorem rfromN_sound (hΓ:Holds P Γ) {f fs ff:Nat} (hs:Γ fs=.dat true zsign_G) (hf:Γ ff=.dat false rform_G) (hc:check P f=some (13,(ac_linkworkref02_From fs ff).strip,[.cell 4 3 true,.tmp 5])):Sound P f (.dat false rfromN_G):=by
 refine sound_dat hc rfromN_good hΓ (fun args K hcl hfi hG=>?_)
 match args,hG with
 | [a,b],hG=>
  obtain ⟨v,rfl,hv,w,rfl,hw,hz,hz',hK⟩:=hG
  refine ⟨by simp,?_⟩
  simp only [go_sem,ac_linkworkref02_From,hs,hf,hv,hw]
  refine ⟨fun e=>?_,fun e=>?_⟩
  ·have h0:=Int.sign_eq_zero_iff_zero.1 e
   rw [if_pos h0,h0,Rat.divInt_zero,rQ_eq,rcan_zero]at hK
   exact hK
  ·have h0:zv w≠0:=fun h=>e (by rw [h];rfl)
   rw [if_neg h0]at hK
   exact ⟨hz,hz',h0,hK⟩
end Go.Abs
end
section
set_option linter.unusedVariables false
namespace Go.Num
open Go.Abs
abbrev V2:=Rat×Rat
abbrev TnQ:=Rat×Bool
abbrev PsQ:=TnQ×V2
def tv (t:Tn):TnQ:=(rv t.1,t.2)
def pv (p:Ps):PsQ:=(tv p.1,av p.2)
def subQ (a b:V2):V2:=(a.1-b.1,a.2-b.2)
def addQ (a b:V2):V2:=(a.1+b.1,a.2+b.2)
def negQ (a:V2):V2:=(-a.1,-a.2)
def crossQ (a b:V2):Rat:=a.1*b.2-a.2*b.1
def sqQ (a:V2):Rat:=a.1*a.1+a.2*a.2
def cosQ (t:TnQ):Rat:=if t.2=true then -1 else (1-t.1*t.1) / (1+t.1*t.1)
def sinQ (t:TnQ):Rat:=if t.2=true then 0 else (t.1+t.1) / (1+t.1*t.1)
def rotQ (t:TnQ) (q:V2):V2:=(cosQ t*q.1-sinQ t*q.2,sinQ t*q.1+cosQ t*q.2)
def appQ (p:PsQ) (q:V2):V2:=addQ (rotQ p.1 q) p.2
def backQ (t:TnQ):TnQ:=(-t.1,t.2)
def invQ (p:PsQ):PsQ:=(backQ p.1,rotQ (backQ p.1) (negQ p.2))
def tchk (t:Tn):Nat:=if vldR t.1=true∧¬(t.2=true∧rv t.1≠0) then 0 else 2
def avld (a:Arc):Bool:=vldR a.1 && vldR a.2
def pvld (p:Ps):Bool:=decide (tchk p.1=0) && avld p.2
def zq (a:V2):Nat:=max (rz a.1) (rz a.2)
theorem zq_sub (a b:V2):zq (subQ a b)≤zq a+zq b+2:=by
 have h1:=rz_sub a.1 b.1
 have h2:=rz_sub a.2 b.2
 unfold zq subQ;simp only;omega
theorem rz_cross (a b:V2):rz (crossQ a b)≤2*zq a+2*zq b+6:=by
 have h1:=rz_mul a.1 b.2
 have h2:=rz_mul a.2 b.1
 have h3:=rz_sub (a.1*b.2) (a.2*b.1)
 unfold zq crossQ;omega
theorem rz_sq (a:V2):rz (sqQ a)≤4*zq a+6:=by
 have h1:=rz_mul a.1 a.1
 have h2:=rz_mul a.2 a.2
 have h3:=rz_add (a.1*a.1) (a.2*a.2)
 unfold zq sqQ;omega
theorem rz_neg1:rz (-1)≤2:=by rw [show (-1:Rat) = -(1:Rat) from rfl,rz_neg];exact rz_1
theorem av_le {a:Arc} (h:WLA a):zq (av a)≤al a:=by
 have h1:=rz_rv h.1
 have h2:=rz_rv h.2
 unfold zq av al;simp only;omega
end Go.Num
end
section
set_option linter.unusedVariables false
set_option linter.unusedSimpArgs false
set_option maxRecDepth 100000
namespace Go.Abs
open Go.Num
variable {P:Program} {Γ:Nat→Spec}
def pQ (x:V2):AV:=.agg [cb (rcan x.1),cn (rcan x.1),cd (rcan x.1),cb (rcan x.2),cn (rcan x.2),cd (rcan x.2)]
theorem pQ_eq (x:V2):pQ x=.agg [cb (rcan x.1),cn (rcan x.1),cd (rcan x.1),cb (rcan x.2),cn (rcan x.2),cd (rcan x.2)]:=eq_of_heq (HEq.refl _)
def tQ (t:TnQ):AV:=.agg [cb (rcan t.1),cn (rcan t.1),cd (rcan t.1),.lit (.bool t.2)]
theorem tQ_eq (t:TnQ):tQ t=.agg [cb (rcan t.1),cn (rcan t.1),cd (rcan t.1),.lit (.bool t.2)]:=eq_of_heq (HEq.refl _)
theorem al_can (a b:Rat):al (rcan a,rcan b)=max (rz a) (rz b):=rfl
theorem WLA_mk (a b:Rat):WLA (rcan a,rcan b)=True:=eq_true ⟨WLR_rcan _,WLR_rcan _⟩
attribute [go_sem] pQ_eq tQ_eq WLA_mk
attribute [go_sem ↓] pQ_eq tQ_eq WLA_mk
def pvalid_G (l:List AV) (K:AV→Prop):Prop:=
 match l with
 | [a]=>onA (fun p=>al p≤100000000∧K (.one (.lit (.bool (avld p))))) a
 | _=>False
theorem pvalid_Ge (a:AV) (K:AV→Prop):pvalid_G [a] K=(onA (fun p=>al p≤100000000∧K (.one (.lit (.bool (avld p))))) a):=propext Iff.rfl
@[congr] theorem pvalid_Gc {K:AV→Prop} {l l' : List AV} (h:l=l'):pvalid_G l K=pvalid_G l' K:=by subst h;rfl
attribute [go_sem] pvalid_Ge
attribute [go_sem ↓] pvalid_Ge
theorem pvalid_good:Good pvalid_G:=good_of fun as=>by
 unfold pvalid_G
 split
 ·exact (g_onA fun _=>(.and fun _=>(.ret _)))
 ·exact .of fun K hk=>hk.elim
def pless_G (l:List AV) (K:AV→Prop):Prop:=
 match l with
 | [a,b]=>onA (fun p=>onA (fun q=>al p≤100000000∧al q≤100000000∧K (pQ (subQ (av p) (av q)))) b) a
 | _=>False
theorem pless_Ge (a b:AV) (K:AV→Prop):pless_G [a,b] K=(onA (fun p=>onA (fun q=>al p≤100000000∧al q≤100000000∧K (pQ (subQ (av p) (av q)))) b) a):=propext Iff.rfl
@[congr] theorem pless_Gc {K:AV→Prop} {l l' : List AV} (h:l=l'):pless_G l K=pless_G l' K:=by subst h;rfl
attribute [go_sem] pless_Ge
attribute [go_sem ↓] pless_Ge
theorem pless_good:Good pless_G:=good_of fun as=>by
 unfold pless_G
 split
 ·exact (g_onA fun _=>(g_onA fun _=>(.and fun _=>(.and fun _=>(.ret _)))))
 ·exact .of fun K hk=>hk.elim
def pplus_G (l:List AV) (K:AV→Prop):Prop:=
 match l with
 | [a,b]=>onA (fun p=>onA (fun q=>al p≤100000000∧al q≤100000000∧K (pQ (addQ (av p) (av q)))) b) a
 | _=>False
theorem pplus_Ge (a b:AV) (K:AV→Prop):pplus_G [a,b] K=(onA (fun p=>onA (fun q=>al p≤100000000∧al q≤100000000∧K (pQ (addQ (av p) (av q)))) b) a):=propext Iff.rfl
@[congr] theorem pplus_Gc {K:AV→Prop} {l l' : List AV} (h:l=l'):pplus_G l K=pplus_G l' K:=by subst h;rfl
attribute [go_sem] pplus_Ge
attribute [go_sem ↓] pplus_Ge
theorem pplus_good:Good pplus_G:=good_of fun as=>by
 unfold pplus_G
 split
 ·exact (g_onA fun _=>(g_onA fun _=>(.and fun _=>(.and fun _=>(.ret _)))))
 ·exact .of fun K hk=>hk.elim
def pcross_G (l:List AV) (K:AV→Prop):Prop:=
 match l with
 | [a,b]=>onA (fun p=>onA (fun q=>al p≤100000000∧al q≤100000000∧K (rQ (crossQ (av p) (av q)))) b) a
 | _=>False
theorem pcross_Ge (a b:AV) (K:AV→Prop):pcross_G [a,b] K=(onA (fun p=>onA (fun q=>al p≤100000000∧al q≤100000000∧K (rQ (crossQ (av p) (av q)))) b) a):=propext Iff.rfl
@[congr] theorem pcross_Gc {K:AV→Prop} {l l' : List AV} (h:l=l'):pcross_G l K=pcross_G l' K:=by subst h;rfl
attribute [go_sem] pcross_Ge
attribute [go_sem ↓] pcross_Ge
def psq_G (l:List AV) (K:AV→Prop):Prop:=
 match l with
 | [a]=>onA (fun p=>al p≤100000000∧K (rQ (sqQ (av p)))) a
 | _=>False
theorem psq_Ge (a:AV) (K:AV→Prop):psq_G [a] K=(onA (fun p=>al p≤100000000∧K (rQ (sqQ (av p)))) a):=propext Iff.rfl
@[congr] theorem psq_Gc {K:AV→Prop} {l l' : List AV} (h:l=l'):psq_G l K=psq_G l' K:=by subst h;rfl
attribute [go_sem] psq_Ge
attribute [go_sem ↓] psq_Ge
def psame_G (l:List AV) (K:AV→Prop):Prop:=
 match l with
 | [a,b]=>onA (fun p=>onA (fun q=>al p≤100000000∧al q≤100000000∧K (.one (.lit (.bool (decide (av p=av q)))))) b) a
 | _=>False
theorem psame_Ge (a b:AV) (K:AV→Prop):psame_G [a,b] K=(onA (fun p=>onA (fun q=>al p≤100000000∧al q≤100000000∧K (.one (.lit (.bool (decide (av p=av q)))))) b) a):=propext Iff.rfl
@[congr] theorem psame_Gc {K:AV→Prop} {l l' : List AV} (h:l=l'):psame_G l K=psame_G l' K:=by subst h;rfl
attribute [go_sem] psame_Ge
attribute [go_sem ↓] psame_Ge
def pneg_G (l:List AV) (K:AV→Prop):Prop:=
 match l with
 | [a]=>onA (fun p=>al p≤100000000∧K (pQ (negQ (av p)))) a
 | _=>False
theorem pneg_Ge (a:AV) (K:AV→Prop):pneg_G [a] K=(onA (fun p=>al p≤100000000∧K (pQ (negQ (av p)))) a):=propext Iff.rfl
@[congr] theorem pneg_Gc {K:AV→Prop} {l l' : List AV} (h:l=l'):pneg_G l K=pneg_G l' K:=by subst h;rfl
attribute [go_sem] pneg_Ge
attribute [go_sem ↓] pneg_Ge
def pclone_G (l:List AV) (K:AV→Prop):Prop:=
 match l with
 | [a]=>onA (fun p=>al p≤100000000∧K (pQ (av p))) a
 | _=>False
theorem pclone_Ge (a:AV) (K:AV→Prop):pclone_G [a] K=(onA (fun p=>al p≤100000000∧K (pQ (av p))) a):=propext Iff.rfl
@[congr] theorem pclone_Gc {K:AV→Prop} {l l' : List AV} (h:l=l'):pclone_G l K=pclone_G l' K:=by subst h;rfl
attribute [go_sem] pclone_Ge
attribute [go_sem ↓] pclone_Ge
def rzero_G (l:List AV) (K:AV→Prop):Prop:=
 match l with
 | [a]=>onR (fun x=>rl x≤4294967296∧K (.one (.lit (.bool (decide (rv x=0)))))) a
 | _=>False
theorem rzero_Ge (a:AV) (K:AV→Prop):rzero_G [a] K=(onR (fun x=>rl x≤4294967296∧K (.one (.lit (.bool (decide (rv x=0)))))) a):=propext Iff.rfl
@[congr] theorem rzero_Gc {K:AV→Prop} {l l' : List AV} (h:l=l'):rzero_G l K=rzero_G l' K:=by subst h;rfl
attribute [go_sem] rzero_Ge
attribute [go_sem ↓] rzero_Ge
def rover_G (l:List AV) (K:AV→Prop):Prop:=
 match l with
 | [a,b]=>onR (fun x=>onR (fun y=>rl x≤1073741824∧rl y≤1073741824∧K (rQ (rv x / rv y))) b) a
 | _=>False
theorem rover_Ge (a b:AV) (K:AV→Prop):rover_G [a,b] K=(onR (fun x=>onR (fun y=>rl x≤1073741824∧rl y≤1073741824∧K (rQ (rv x / rv y))) b) a):=propext Iff.rfl
@[congr] theorem rover_Gc {K:AV→Prop} {l l' : List AV} (h:l=l'):rover_G l K=rover_G l' K:=by subst h;rfl
attribute [go_sem] rover_Ge
attribute [go_sem ↓] rover_Ge
def tcheck_G (tE:Nat) (l:List AV) (K:AV→Prop):Prop:=
 match l with
 | [a]=>onT (fun t=>rl t.1≤100000000∧K (errV tE (tchk t))) a
 | _=>False
theorem tcheck_Ge (tE:Nat) (a:AV) (K:AV→Prop):tcheck_G tE [a] K=(onT (fun t=>rl t.1≤100000000∧K (errV tE (tchk t))) a):=propext Iff.rfl
@[congr] theorem tcheck_Gc (tE:Nat) {K:AV→Prop} {l l' : List AV} (h:l=l'):tcheck_G tE l K=tcheck_G tE l' K:=by subst h;rfl
attribute [go_sem] tcheck_Ge
attribute [go_sem ↓] tcheck_Ge
def tvalid_G (l:List AV) (K:AV→Prop):Prop:=
 match l with
 | [a]=>onT (fun t=>rl t.1≤100000000∧K (.one (.lit (.bool (decide (tchk t=0)))))) a
 | _=>False
theorem tvalid_Ge (a:AV) (K:AV→Prop):tvalid_G [a] K=(onT (fun t=>rl t.1≤100000000∧K (.one (.lit (.bool (decide (tchk t=0)))))) a):=propext Iff.rfl
@[congr] theorem tvalid_Gc {K:AV→Prop} {l l' : List AV} (h:l=l'):tvalid_G l K=tvalid_G l' K:=by subst h;rfl
attribute [go_sem] tvalid_Ge
attribute [go_sem ↓] tvalid_Ge
def pvld_G (l:List AV) (K:AV→Prop):Prop:=
 match l with
 | [a]=>onPo (fun p=>pl p≤100000000∧K (.one (.lit (.bool (pvld p))))) a
 | _=>False
theorem pvld_Ge (a:AV) (K:AV→Prop):pvld_G [a] K=(onPo (fun p=>pl p≤100000000∧K (.one (.lit (.bool (pvld p))))) a):=propext Iff.rfl
@[congr] theorem pvld_Gc {K:AV→Prop} {l l' : List AV} (h:l=l'):pvld_G l K=pvld_G l' K:=by subst h;rfl
attribute [go_sem] pvld_Ge
attribute [go_sem ↓] pvld_Ge
def tneg_G (l:List AV) (K:AV→Prop):Prop:=
 match l with
 | [a]=>onT (fun t=>rl t.1≤100000000∧K (tQ (backQ (tv t)))) a
 | _=>False
theorem tneg_Ge (a:AV) (K:AV→Prop):tneg_G [a] K=(onT (fun t=>rl t.1≤100000000∧K (tQ (backQ (tv t)))) a):=propext Iff.rfl
@[congr] theorem tneg_Gc {K:AV→Prop} {l l' : List AV} (h:l=l'):tneg_G l K=tneg_G l' K:=by subst h;rfl
attribute [go_sem] tneg_Ge
attribute [go_sem ↓] tneg_Ge
def tdir_G (l:List AV) (K:AV→Prop):Prop:=
 match l with
 | [a]=>onT (fun t=>rl t.1≤10000000∧K (.tup [rQ (cosQ (tv t)),rQ (sinQ (tv t))])) a
 | _=>False
theorem tdir_Ge (a:AV) (K:AV→Prop):tdir_G [a] K=(onT (fun t=>rl t.1≤10000000∧K (.tup [rQ (cosQ (tv t)),rQ (sinQ (tv t))])) a):=propext Iff.rfl
@[congr] theorem tdir_Gc {K:AV→Prop} {l l' : List AV} (h:l=l'):tdir_G l K=tdir_G l' K:=by subst h;rfl
attribute [go_sem] tdir_Ge
attribute [go_sem ↓] tdir_Ge
def lsame_G (l:List AV) (K:AV→Prop):Prop:=
 match l with
 | [a,b]=>onA (fun p=>onA (fun q=>al p≤4294967296∧K (.one (.lit (.bool (decide (p=q)))))) b) a
 | _=>False
theorem lsame_Ge (a b:AV) (K:AV→Prop):lsame_G [a,b] K=(onA (fun p=>onA (fun q=>al p≤4294967296∧K (.one (.lit (.bool (decide (p=q)))))) b) a):=propext Iff.rfl
@[congr] theorem lsame_Gc {K:AV→Prop} {l l' : List AV} (h:l=l'):lsame_G l K=lsame_G l' K:=by subst h;rfl
attribute [go_sem] lsame_Ge
attribute [go_sem ↓] lsame_Ge
theorem lsame_good:Good lsame_G:=good_of fun as=>by
 unfold lsame_G
 split
 ·exact (g_onA fun _=>(g_onA fun _=>(.and fun _=>(.ret _))))
 ·exact .of fun K hk=>hk.elim
def ac_linkworklaw38_Same (f0:Nat):AC:=(.seq (.ops false [.u 2 (.box 6 (.t 0)),.u 3 (.box 6 (.t 1)),.m 4 .fa])
 (.fg [2,3] (.seq (.ops false [.u 5 (.fa 0 (.t 2)),.u 6 (.ld none 3 true (.t 5)),.u 7 (.fa 0 (.t 3)),.u 8 (.ld none 3 true (.t 7)),.u 9 (.call f0 [(.t 6),(.t 8)]),.m 10 (.t 9),.w 11 10 true (.fa 3 (.t 2)),.w 12 10 true (.ld none 3 true (.t 11)),.w 13 10 true (.fa 3 (.t 3)),.w 14 10 true (.ld none 3 true (.t 13)),.w 15 10 true (.call f0 [(.t 12),(.t 14)]),.u 16 (.pick (.t 10) (.t 15) .fa),.m 4 (.t 16)])
 .ret)))
theorem mk_eta {α β:Type} (p:α×β):(p.1,p.2)=p:=rfl
theorem al1 {p:Arc} {b:Nat} (h:al p≤b):rl p.1≤b∧rl p.2≤b:=⟨Nat.le_trans (Nat.le_max_left _ _) h,Nat.le_trans (Nat.le_max_right _ _) h⟩
theorem lsame_sound (hΓ:Holds P Γ) {f fb:Nat} (hb:Γ fb=.dat true brat_G) (hc:check P f=some (17,(ac_linkworklaw38_Same fb).strip,[.tmp 4])):Sound P f (.dat true lsame_G):=by
 refine sound_dat hc lsame_good hΓ (fun args K hcl hfi hG=>?_)
 match args,hG with
 | [a,b],hG=>
  obtain ⟨p,rfl,hp,q,rfl,hq,hl,hK⟩:=hG
  refine ⟨by simp,?_⟩
  obtain ⟨l1,l2⟩:=al1 hl
  have e:decide (p=q)=(decide (p.1=q.1) && decide (p.2=q.2)):=by
   rw [←Bool.decide_and,decide_eq_decide]
   exact Prod.ext_iff
  rw [e]at hK
  by_cases h1:p.1=q.1
  ·rw [decide_eq_true h1,Bool.true_and]at hK
   simp only [go_sem,ac_linkworklaw38_Same,hb,aC_eq,hp.1,hp.2,hq.1,hq.2,h1,decide_true]
   exact ⟨by rw [←h1];exact l1,l2,hK⟩
  ·rw [decide_eq_false h1,Bool.false_and]at hK
   simp only [go_sem,ac_linkworklaw38_Same,hb,aC_eq,hp.1,hp.2,hq.1,hq.2,h1,decide_false]
   exact ⟨l1,hK⟩
end Go.Abs
end
section
set_option linter.unusedVariables false
set_option linter.unusedSimpArgs false
set_option maxRecDepth 100000
namespace Go.Num
open Go.Abs
def aok (p:Ps) (q:Arc):Bool:=pvld p && avld q
def plchk (l:List Ps):Nat:=if l.length<2 then 10 else if 5<l.length then 4 else if l.all pvld then 0 else 2
def threeC (l:List Ps):Nat:=if plchk l≠0 then plchk l else if l.length=3 then 0 else 10
def imgs (l:List Ps) (q:Arc):List V2:=l.map fun p=>appQ (pv p) (av q)
def imgC (l:List Ps) (q:Arc):Nat:=if l.all (fun p=>aok p q) then 0 else 2
end Go.Num
namespace Go.Abs
open Go.Num
variable {P:Program} {Γ:Nat→Spec}
def psQ (p:PsQ):AV:=.agg [cb (rcan p.1.1),cn (rcan p.1.1),cd (rcan p.1.1),.lit (.bool p.1.2),cb (rcan p.2.1),cn (rcan p.2.1),cd (rcan p.2.1),cb (rcan p.2.2),cn (rcan p.2.2),cd (rcan p.2.2)]
theorem psQ_eq (p:PsQ):psQ p=.agg [cb (rcan p.1.1),cn (rcan p.1.1),cd (rcan p.1.1),.lit (.bool p.1.2),cb (rcan p.2.1),cn (rcan p.2.1),cd (rcan p.2.1),cb (rcan p.2.2),cn (rcan p.2.2),cd (rcan p.2.2)]:=eq_of_heq (HEq.refl _)
attribute [go_sem] psQ_eq
attribute [go_sem ↓] psQ_eq
def tcos_G (tE:Nat) (l:List AV) (K:AV→Prop):Prop:=
 match l with
 | [a]=>onT (fun t=>rl t.1≤10000000∧K (.tup [rQ (if tchk t=0 then cosQ (tv t) else 0),errV tE (tchk t)])) a
 | _=>False
theorem tcos_Ge (tE:Nat) (a:AV) (K:AV→Prop):tcos_G tE [a] K=(onT (fun t=>rl t.1≤10000000∧K (.tup [rQ (if tchk t=0 then cosQ (tv t) else 0),errV tE (tchk t)])) a):=propext Iff.rfl
@[congr] theorem tcos_Gc (tE:Nat) {K:AV→Prop} {l l' : List AV} (h:l=l'):tcos_G tE l K=tcos_G tE l' K:=by subst h;rfl
attribute [go_sem] tcos_Ge
attribute [go_sem ↓] tcos_Ge
def tsin_G (tE:Nat) (l:List AV) (K:AV→Prop):Prop:=
 match l with
 | [a]=>onT (fun t=>rl t.1≤10000000∧K (.tup [rQ (if tchk t=0 then sinQ (tv t) else 0),errV tE (tchk t)])) a
 | _=>False
theorem tsin_Ge (tE:Nat) (a:AV) (K:AV→Prop):tsin_G tE [a] K=(onT (fun t=>rl t.1≤10000000∧K (.tup [rQ (if tchk t=0 then sinQ (tv t) else 0),errV tE (tchk t)])) a):=propext Iff.rfl
@[congr] theorem tsin_Gc (tE:Nat) {K:AV→Prop} {l l' : List AV} (h:l=l'):tsin_G tE l K=tsin_G tE l' K:=by subst h;rfl
attribute [go_sem] tsin_Ge
attribute [go_sem ↓] tsin_Ge
def pdir_G (tE:Nat) (l:List AV) (K:AV→Prop):Prop:=
 match l with
 | [a]=>onT (fun t=>rl t.1≤10000000∧K (.tup [rQ (if tchk t=0 then cosQ (tv t) else 0),rQ (if tchk t=0 then sinQ (tv t) else 0),errV tE (tchk t)])) a
 | _=>False
theorem pdir_Ge (tE:Nat) (a:AV) (K:AV→Prop):pdir_G tE [a] K=(onT (fun t=>rl t.1≤10000000∧K (.tup [rQ (if tchk t=0 then cosQ (tv t) else 0),rQ (if tchk t=0 then sinQ (tv t) else 0),errV tE (tchk t)])) a):=propext Iff.rfl
@[congr] theorem pdir_Gc (tE:Nat) {K:AV→Prop} {l l' : List AV} (h:l=l'):pdir_G tE l K=pdir_G tE l' K:=by subst h;rfl
attribute [go_sem] pdir_Ge
attribute [go_sem ↓] pdir_Ge
def prot_G (tE:Nat) (l:List AV) (K:AV→Prop):Prop:=
 match l with
 | [a,b]=>onT (fun t=>onA (fun q=>rl t.1≤10000000∧al q≤10000000∧K (.tup [pQ (if tchk t=0 then rotQ (tv t) (av q) else (0,0)),errV tE (tchk t)])) b) a
 | _=>False
theorem prot_Ge (tE:Nat) (a b:AV) (K:AV→Prop):prot_G tE [a,b] K=(onT (fun t=>onA (fun q=>rl t.1≤10000000∧al q≤10000000∧K (.tup [pQ (if tchk t=0 then rotQ (tv t) (av q) else (0,0)),errV tE (tchk t)])) b) a):=propext Iff.rfl
@[congr] theorem prot_Gc (tE:Nat) {K:AV→Prop} {l l' : List AV} (h:l=l'):prot_G tE l K=prot_G tE l' K:=by subst h;rfl
attribute [go_sem] prot_Ge
attribute [go_sem ↓] prot_Ge
def rrot_G (l:List AV) (K:AV→Prop):Prop:=
 match l with
 | [a,b]=>onT (fun t=>onA (fun q=>rl t.1≤10000000∧al q≤10000000∧K (pQ (rotQ (tv t) (av q)))) b) a
 | _=>False
theorem rrot_Ge (a b:AV) (K:AV→Prop):rrot_G [a,b] K=(onT (fun t=>onA (fun q=>rl t.1≤10000000∧al q≤10000000∧K (pQ (rotQ (tv t) (av q)))) b) a):=propext Iff.rfl
@[congr] theorem rrot_Gc {K:AV→Prop} {l l' : List AV} (h:l=l'):rrot_G l K=rrot_G l' K:=by subst h;rfl
attribute [go_sem] rrot_Ge
attribute [go_sem ↓] rrot_Ge
def papp_G (tE:Nat) (l:List AV) (K:AV→Prop):Prop:=
 match l with
 | [a,b]=>onPo (fun p=>onA (fun q=>pl p≤1000000∧al q≤1000000∧K (.tup [pQ (if aok p q=true then appQ (pv p) (av q) else (0,0)),errV tE (if aok p q=true then 0 else 2)])) b) a
 | _=>False
theorem papp_Ge (tE:Nat) (a b:AV) (K:AV→Prop):papp_G tE [a,b] K=(onPo (fun p=>onA (fun q=>pl p≤1000000∧al q≤1000000∧K (.tup [pQ (if aok p q=true then appQ (pv p) (av q) else (0,0)),errV tE (if aok p q=true then 0 else 2)])) b) a):=propext Iff.rfl
@[congr] theorem papp_Gc (tE:Nat) {K:AV→Prop} {l l' : List AV} (h:l=l'):papp_G tE l K=papp_G tE l' K:=by subst h;rfl
attribute [go_sem] papp_Ge
attribute [go_sem ↓] papp_Ge
def rapp_G (l:List AV) (K:AV→Prop):Prop:=
 match l with
 | [a,b]=>onPo (fun p=>onA (fun q=>pl p≤1000000∧al q≤1000000∧K (pQ (appQ (pv p) (av q)))) b) a
 | _=>False
theorem rapp_Ge (a b:AV) (K:AV→Prop):rapp_G [a,b] K=(onPo (fun p=>onA (fun q=>pl p≤1000000∧al q≤1000000∧K (pQ (appQ (pv p) (av q)))) b) a):=propext Iff.rfl
@[congr] theorem rapp_Gc {K:AV→Prop} {l l' : List AV} (h:l=l'):rapp_G l K=rapp_G l' K:=by subst h;rfl
attribute [go_sem] rapp_Ge
attribute [go_sem ↓] rapp_Ge
def ptneg_G (tE:Nat) (l:List AV) (K:AV→Prop):Prop:=
 match l with
 | [a]=>onT (fun t=>rl t.1≤10000000∧K (.tup [tQ (if tchk t=0 then backQ (tv t) else (0,false)),errV tE (tchk t)])) a
 | _=>False
theorem ptneg_Ge (tE:Nat) (a:AV) (K:AV→Prop):ptneg_G tE [a] K=(onT (fun t=>rl t.1≤10000000∧K (.tup [tQ (if tchk t=0 then backQ (tv t) else (0,false)),errV tE (tchk t)])) a):=propext Iff.rfl
@[congr] theorem ptneg_Gc (tE:Nat) {K:AV→Prop} {l l' : List AV} (h:l=l'):ptneg_G tE l K=ptneg_G tE l' K:=by subst h;rfl
attribute [go_sem] ptneg_Ge
attribute [go_sem ↓] ptneg_Ge
def pinv_G (tE:Nat) (l:List AV) (K:AV→Prop):Prop:=
 match l with
 | [a]=>onPo (fun p=>pl p≤1000000∧K (.tup [psQ (if pvld p=true then invQ (pv p) else ((0,false),(0,0))),errV tE (if pvld p=true then 0 else 2)])) a
 | _=>False
theorem pinv_Ge (tE:Nat) (a:AV) (K:AV→Prop):pinv_G tE [a] K=(onPo (fun p=>pl p≤1000000∧K (.tup [psQ (if pvld p=true then invQ (pv p) else ((0,false),(0,0))),errV tE (if pvld p=true then 0 else 2)])) a):=propext Iff.rfl
@[congr] theorem pinv_Gc (tE:Nat) {K:AV→Prop} {l l' : List AV} (h:l=l'):pinv_G tE l K=pinv_G tE l' K:=by subst h;rfl
attribute [go_sem] pinv_Ge
attribute [go_sem ↓] pinv_Ge
def rinv_G (l:List AV) (K:AV→Prop):Prop:=
 match l with
 | [a]=>onPo (fun p=>pl p≤1000000∧K (psQ (invQ (pv p)))) a
 | _=>False
theorem rinv_Ge (a:AV) (K:AV→Prop):rinv_G [a] K=(onPo (fun p=>pl p≤1000000∧K (psQ (invQ (pv p)))) a):=propext Iff.rfl
@[congr] theorem rinv_Gc {K:AV→Prop} {l l' : List AV} (h:l=l'):rinv_G l K=rinv_G l' K:=by subst h;rfl
attribute [go_sem] rinv_Ge
attribute [go_sem ↓] rinv_Ge
end Go.Abs
end
section
set_option linter.unusedVariables false
set_option linter.unusedSimpArgs false
set_option maxRecDepth 100000
namespace Go.Num
def inA (y:Rat) (x:Arc):Bool:=decide (rv x.1≤y) && decide (y<rv x.2)
def idxOf (y:Rat) (l:List Arc):Int:=match l.findIdx? (inA y) with | some i=>i | none=>-1
end Go.Num
namespace Go.Abs
open Go.Num
variable {P:Program} {Γ:Nat→Spec}
def pA (y:R):AV:=.one (.ref [cb y,cn y,cd y])
def kA (f:Nat) (y:R):AV:=.one (.clo f [.ref [cb y,cn y,cd y]])
theorem pA_inj (x y:R) (h:pA x=pA y):x=y:=rA_inj x y (by simpa [pA,rA] using h)
theorem kA_inj (f:Nat) (x y:R) (h:kA f x=kA f y):x=y:=rA_inj x y (by simpa [kA,rA] using h)
def onP (k:R→Prop) (a:AV):Prop:=onE pA (fun x=>WLR x∧k x) a
@[congr] theorem onP_cg {k:R→Prop} {a a' : AV} (h:a=a'):onP k a=onP k a':=by subst h;rfl
theorem onP_e (k:R→Prop) (x:R):onP k (.one (.ref [cb x,cn x,cd x]))=(WLR x∧k x):=onE_e pA_inj (fun x=>WLR x∧k x) x
def onKl (f:Nat) (k:R→Prop) (a:AV):Prop:=onE (kA f) (fun x=>WLR x∧k x) a
@[congr] theorem onKl_cg {f:Nat} {k:R→Prop} {a a' : AV} (h:a=a'):onKl f k a=onKl f k a':=by subst h;rfl
theorem onKl_e (f:Nat) (k:R→Prop) (x:R):onKl f k (.one (.clo f [.ref [cb x,cn x,cd x]]))=(WLR x∧k x):=onE_e (kA_inj f) (fun x=>WLR x∧k x) x
attribute [go_sem] onP_e onKl_e
attribute [go_sem ↓] onP_e onKl_e
theorem clean_ref3 (y:R):CleanL [cb y,cn y,cd y]:=by
 intro c hc
 simp only [List.mem_cons,List.not_mem_nil,or_false]at hc
 rcases hc with rfl | rfl | rfl
 ·exact of_eq_true (clean_cb _)
 ·exact of_eq_true (clean_cn _)
 ·exact of_eq_true (clean_cd _)
def chas1_G (l:List AV) (K:AV→Prop):Prop:=
 match l with
 | [a,b]=>onA (fun x=>onP (fun y=>al x≤4294967296∧rl y≤4294967296∧K (.one (.lit (.bool (inA (rv y) x))))) b) a
 | _=>False
theorem chas1_Ge (a b:AV) (K:AV→Prop):chas1_G [a,b] K=(onA (fun x=>onP (fun y=>al x≤4294967296∧rl y≤4294967296∧K (.one (.lit (.bool (inA (rv y) x))))) b) a):=propext Iff.rfl
@[congr] theorem chas1_Gc {K:AV→Prop} {l l' : List AV} (h:l=l'):chas1_G l K=chas1_G l' K:=by subst h;rfl
attribute [go_sem] chas1_Ge
attribute [go_sem ↓] chas1_Ge
def cidx_G (fc:Nat) (l:List AV) (K:AV→Prop):Prop:=
 match l with
 | [a,c]=>onAs (fun l=>onKl fc (fun y=>okAs 4294967296 l∧rl y≤4294967296∧K (.one (.lit (.int .i64 (idxOf (rv y) l))))) c) a
 | _=>False
theorem cidx_Ge (fc:Nat) (a c:AV) (K:AV→Prop):cidx_G fc [a,c] K=(onAs (fun l=>onKl fc (fun y=>okAs 4294967296 l∧rl y≤4294967296∧K (.one (.lit (.int .i64 (idxOf (rv y) l))))) c) a):=propext Iff.rfl
@[congr] theorem cidx_Gc (fc:Nat) {K:AV→Prop} {l l' : List AV} (h:l=l'):cidx_G fc l K=cidx_G fc l' K:=by subst h;rfl
attribute [go_sem] cidx_Ge
attribute [go_sem ↓] cidx_Ge
def ccont_G (fc:Nat) (l:List AV) (K:AV→Prop):Prop:=
 match l with
 | [a,c]=>onAs (fun l=>onKl fc (fun y=>okAs 4294967296 l∧rl y≤4294967296∧K (.one (.lit (.bool (l.any (inA (rv y))))))) c) a
 | _=>False
theorem ccont_Ge (fc:Nat) (a c:AV) (K:AV→Prop):ccont_G fc [a,c] K=(onAs (fun l=>onKl fc (fun y=>okAs 4294967296 l∧rl y≤4294967296∧K (.one (.lit (.bool (l.any (inA (rv y))))))) c) a):=propext Iff.rfl
@[congr] theorem ccont_Gc (fc:Nat) {K:AV→Prop} {l l' : List AV} (h:l=l'):ccont_G fc l K=ccont_G fc l' K:=by subst h;rfl
attribute [go_sem] ccont_Ge
attribute [go_sem ↓] ccont_Ge
def cHas_G (tE:Nat) (l:List AV) (K:AV→Prop):Prop:=
 match l with
 | [a,b]=>onAs (fun l=>onR (fun y=>okAs 4294967296 l∧rl y≤1000000000∧K (.tup [.one (.lit (.bool (decide (chk [l]=0) && (vldR y && l.any (inA (frac (rv y))))))),errV tE (if chk [l]=0 then (if vldR y then 0 else 3) else chk [l])])) b) a
 | _=>False
theorem cHas_Ge (tE:Nat) (a b:AV) (K:AV→Prop):cHas_G tE [a,b] K=(onAs (fun l=>onR (fun y=>okAs 4294967296 l∧rl y≤1000000000∧K (.tup [.one (.lit (.bool (decide (chk [l]=0) && (vldR y && l.any (inA (frac (rv y))))))),errV tE (if chk [l]=0 then (if vldR y then 0 else 3) else chk [l])])) b) a):=propext Iff.rfl
@[congr] theorem cHas_Gc (tE:Nat) {K:AV→Prop} {l l' : List AV} (h:l=l'):cHas_G tE l K=cHas_G tE l' K:=by subst h;rfl
attribute [go_sem] cHas_Ge
attribute [go_sem ↓] cHas_Ge
end Go.Abs
end
section
set_option linter.unusedVariables false
set_option linter.unusedSimpArgs false
set_option maxRecDepth 100000
namespace Go.Num
def longR (x:R):Bool:=decide (4<x.2.1.length+x.2.2.length)
def largeL (l:List Arc):Bool:=if 20<l.length then (decide (l.length≤64) || decide (200<l.length)) else l.any fun x=>longR x.1 || longR x.2
def validL (l:List Arc):Bool:=!largeL l && decide (chk1 l=0)
end Go.Num
namespace Go.Abs
open Go.Num
variable {P:Program} {Γ:Nat→Spec}
def rcheck_G (l:List AV) (K:AV→Prop):Prop:=
 match l with
 | [a]=>onAs (fun l=>okAs 1073741824 l∧K (.one (.lit (.int .i64 (chk1 l:Nat))))) a
 | _=>False
theorem rcheck_Ge (a:AV) (K:AV→Prop):rcheck_G [a] K=(onAs (fun l=>okAs 1073741824 l∧K (.one (.lit (.int .i64 (chk1 l:Nat))))) a):=propext Iff.rfl
@[congr] theorem rcheck_Gc {K:AV→Prop} {l l' : List AV} (h:l=l'):rcheck_G l K=rcheck_G l' K:=by subst h;rfl
attribute [go_sem] rcheck_Ge
attribute [go_sem ↓] rcheck_Ge
def rsame_G (l:List AV) (K:AV→Prop):Prop:=
 match l with
 | [a,b]=>onAs (fun l=>onAs (fun m=>okAs 1073741824 l∧okAs 1073741824 m∧K (.one (.lit (.bool (decide (vals l=vals m)))))) b) a
 | _=>False
theorem rsame_Ge (a b:AV) (K:AV→Prop):rsame_G [a,b] K=(onAs (fun l=>onAs (fun m=>okAs 1073741824 l∧okAs 1073741824 m∧K (.one (.lit (.bool (decide (vals l=vals m)))))) b) a):=propext Iff.rfl
@[congr] theorem rsame_Gc {K:AV→Prop} {l l' : List AV} (h:l=l'):rsame_G l K=rsame_G l' K:=by subst h;rfl
attribute [go_sem] rsame_Ge
attribute [go_sem ↓] rsame_Ge
def rfrac_G (l:List AV) (K:AV→Prop):Prop:=
 match l with
 | [a]=>onR (fun x=>rl x≤1000000000∧K (.agg [cb (rcan (frac (rv x))),cn (rcan (frac (rv x))),cd (rcan (frac (rv x)))])) a
 | _=>False
theorem rfrac_Ge (a:AV) (K:AV→Prop):rfrac_G [a] K=(onR (fun x=>rl x≤1000000000∧K (.agg [cb (rcan (frac (rv x))),cn (rcan (frac (rv x))),cd (rcan (frac (rv x)))])) a):=propext Iff.rfl
@[congr] theorem rfrac_Gc {K:AV→Prop} {l l' : List AV} (h:l=l'):rfrac_G l K=rfrac_G l' K:=by subst h;rfl
attribute [go_sem] rfrac_Ge
attribute [go_sem ↓] rfrac_Ge
def rpart_G (l:List AV) (K:AV→Prop):Prop:=
 match l with
 | [a,b]=>asInt (fun k n=>asInt (fun k' d=>k=.i64∧k' = .i64∧(-9223372036854775808≤n∧n≤9223372036854775807)∧(-9223372036854775808≤d∧d≤9223372036854775807)∧d≠0∧K (.agg [cb (rcan (Rat.divInt n d)),cn (rcan (Rat.divInt n d)),cd (rcan (Rat.divInt n d))])) b) a
 | _=>False
theorem rpart_Ge (a b:AV) (K:AV→Prop):rpart_G [a,b] K=(asInt (fun k n=>asInt (fun k' d=>k=.i64∧k' = .i64∧(-9223372036854775808≤n∧n≤9223372036854775807)∧(-9223372036854775808≤d∧d≤9223372036854775807)∧d≠0∧K (.agg [cb (rcan (Rat.divInt n d)),cn (rcan (Rat.divInt n d)),cd (rcan (Rat.divInt n d))])) b) a):=propext Iff.rfl
@[congr] theorem rpart_Gc {K:AV→Prop} {l l' : List AV} (h:l=l'):rpart_G l K=rpart_G l' K:=by subst h;rfl
attribute [go_sem] rpart_Ge
attribute [go_sem ↓] rpart_Ge
def rlong_G (l:List AV) (K:AV→Prop):Prop:=
 match l with
 | [a]=>onR (fun x=>rl x≤4294967296∧K (.one (.lit (.bool (longR x))))) a
 | _=>False
theorem rlong_Ge (a:AV) (K:AV→Prop):rlong_G [a] K=(onR (fun x=>rl x≤4294967296∧K (.one (.lit (.bool (longR x))))) a):=propext Iff.rfl
@[congr] theorem rlong_Gc {K:AV→Prop} {l l' : List AV} (h:l=l'):rlong_G l K=rlong_G l' K:=by subst h;rfl
attribute [go_sem] rlong_Ge
attribute [go_sem ↓] rlong_Ge
def rlarge_G (l:List AV) (K:AV→Prop):Prop:=
 match l with
 | [a]=>onAs (fun l=>okAs 1073741824 l∧K (.one (.lit (.bool (largeL l))))) a
 | _=>False
theorem rlarge_Ge (a:AV) (K:AV→Prop):rlarge_G [a] K=(onAs (fun l=>okAs 1073741824 l∧K (.one (.lit (.bool (largeL l))))) a):=propext Iff.rfl
@[congr] theorem rlarge_Gc {K:AV→Prop} {l l' : List AV} (h:l=l'):rlarge_G l K=rlarge_G l' K:=by subst h;rfl
attribute [go_sem] rlarge_Ge
attribute [go_sem ↓] rlarge_Ge
def rvalidL_G (l:List AV) (K:AV→Prop):Prop:=
 match l with
 | [a]=>onAs (fun l=>okAs 1073741824 l∧K (.one (.lit (.bool (validL l))))) a
 | _=>False
theorem rvalidL_Ge (a:AV) (K:AV→Prop):rvalidL_G [a] K=(onAs (fun l=>okAs 1073741824 l∧K (.one (.lit (.bool (validL l))))) a):=propext Iff.rfl
@[congr] theorem rvalidL_Gc {K:AV→Prop} {l l' : List AV} (h:l=l'):rvalidL_G l K=rvalidL_G l' K:=by subst h;rfl
attribute [go_sem] rvalidL_Ge
attribute [go_sem ↓] rvalidL_Ge
def climit_G (tE:Nat) (l:List AV) (K:AV→Prop):Prop:=
 match l with
 | [a]=>onAs (fun l=>K (.tup [.one (.slice ((if 64<l.length then [] else l).map aC)),errV tE (if 64<l.length then 4 else 0)])) a
 | _=>False
theorem climit_Ge (tE:Nat) (a:AV) (K:AV→Prop):climit_G tE [a] K=(onAs (fun l=>K (.tup [.one (.slice ((if 64<l.length then [] else l).map aC)),errV tE (if 64<l.length then 4 else 0)])) a):=propext Iff.rfl
@[congr] theorem climit_Gc (tE:Nat) {K:AV→Prop} {l l' : List AV} (h:l=l'):climit_G tE l K=climit_G tE l' K:=by subst h;rfl
attribute [go_sem] climit_Ge
attribute [go_sem ↓] climit_Ge
end Go.Abs
end
