/-
  Parts of the proof, merged: ArgD, RatC, RefA, RatD, RatE, PoseP, PoseB, PoseC, ChartE, ChartF.
-/
import Derived.Test.YtkcleifemnineaaGreatM5
set_option linter.unusedVariables false
set_option linter.unusedSimpArgs false
set_option maxRecDepth 100000
section
namespace Go.Abs
open Go.Num
variable {H:Type} {enc:TypeId×Value→H} {bulk:DataW H→Nat} {P:Program} {w:World} {α:Type}
structure TnT (P:Program) (t:TypeId):Prop where
 ex:∃f0 f1:Field,P.underlying t=some (.struct #[f0,f1])∧f0.offset=0∧f1.offset=3∧P.cellsOf t=4∧P.cellsOf f0.type=3∧P.cellsOf f1.type=1∧RatT P f0.type∧P.underlying f1.type=some .bool
structure PsT (P:Program) (t:TypeId):Prop where
 ex:∃f0 f1:Field,P.underlying t=some (.struct #[f0,f1])∧f0.offset=0∧f1.offset=4∧P.cellsOf t=10∧P.cellsOf f0.type=4∧P.cellsOf f1.type=6∧TnT P f0.type∧ArcT P f1.type
structure PosesT (P:Program) (t:TypeId):Prop where
 ex:∃u,P.underlying t=some (.slice u)∧P.cellsOf u=10∧PsT P u
structure DyT (P:Program) (t:TypeId):Prop where
 ex:∃f0 f1 f2:Field,P.underlying t=some (.struct #[f0,f1,f2])∧f0.offset=0∧f1.offset=6∧f2.offset=12∧P.cellsOf t=15∧P.cellsOf f0.type=6∧P.cellsOf f1.type=6∧P.cellsOf f2.type=3∧ArcT P f0.type∧ArcT P f1.type∧RatT P f2.type
theorem UI (x:Arc):CleanL (aC x):=fun c hc=>war x c hc
end Go.Abs
end
section
namespace Go.Abs
open Go.Num
variable {P:Program} {Γ:Nat→Spec}
def wn (f0 f1 f2 f3:Nat):AC:=(.seq (.ops false [.u 1 (.box 3 (.t 0)),.m 2 .fa])
 (.fg [1] (.seq (.seq (.ops false [.u 5 (.fa 1 (.t 1)),.u 6 (.ld none 1 false (.t 5)),.u 7 (.len (.t 6)),.u 8 (.bin .eql (.t 7) (.i 0)),.m 9 (.t 8),.w 10 9 true (.fa 2 (.t 1)),.w 11 9 true (.ld none 1 false (.t 10)),.w 12 9 true (.len (.t 11)),.w 13 9 true (.bin .eql (.t 12) (.i 0)),.u 14 (.pick (.t 9) (.t 13) .fa)])
 (.fg [1,14] (.cond (.t 14) (.seq (.ops false [.u 15 (.fa 0 (.t 1)),.u 16 (.ld none 1 false (.t 15)),.u 17 (.un .not (.t 16)),.m 2 (.t 17)])
 .ret) .skip)))
 (.fg [1] (.seq (.ops true [.u 18 (.fa 1 (.t 1)),.u 19 (.ld (some 1) 1 false (.t 18)),.u 20 (.build [.z [(.lit (.bool false))],.x 1 (.t 19)]),.u 21 (.fa 2 (.t 1)),.u 22 (.ld (some 1) 1 false (.t 21)),.u 23 (.build [.z [(.lit (.bool false))],.x 1 (.t 22)]),.u 3 (.alloc [(.lit (.bool false)),.emp]),.u 4 (.alloc [(.lit (.bool false)),.emp]),.n (.st (some 3) 2 (.t 3) (.t 20)),.n (.st (some 4) 2 (.t 4) (.t 23))])
 (.fg [1,3,4] (.seq (.seq (.ops false [.u 24 (.fa 1 (.t 1)),.u 25 (.ld none 1 false (.t 24)),.u 26 (.len (.t 25)),.u 27 (.bin .eql (.t 26) (.i 0)),.m 28 (.t 27),.w 29 28 false (.fa 2 (.t 1)),.w 30 28 false (.ld none 1 false (.t 29)),.w 31 28 false (.len (.t 30)),.w 32 28 false (.bin .eql (.t 31) (.i 0)),.u 33 (.pick (.t 28) .tr (.t 32)),.m 34 (.t 33),.w 35 34 false (.ld none 2 true (.t 3)),.w 36 34 false (.call f0 [(.t 35)]),.w 37 34 false (.un .not (.t 36)),.u 38 (.pick (.t 34) .tr (.t 37)),.m 39 (.t 38),.w 40 39 false (.ld none 2 true (.t 4)),.w 41 39 false (.call f0 [(.t 40)]),.w 42 39 false (.un .not (.t 41)),.u 43 (.pick (.t 39) .tr (.t 42))])
 (.fg [3,4,43] (.cond (.t 43) (.seq (.ops false [.m 2 .fa])
 .ret) .skip)))
 (.fg [3,4] (.seq (.ops false [.u 44 (.ld none 2 true (.t 3)),.u 45 (.ld none 2 true (.t 4)),.u 46 (.call f1 [(.t 44),(.t 45)]),.u 47 (.call f2 []),.u 48 (.call f3 [(.t 46),(.t 47)]),.u 49 (.bin .eql (.t 48) (.i 0)),.m 2 (.t 49)])
 .ret)))))))))
def kn (f0 f1:Nat):AC:=(.seq (.ops false [.u 1 (.box 3 (.t 0)),.u 2 (.alloc [(.lit (.bool false)),.emp]),.u 3 (.alloc [(.lit (.bool false)),.emp])])
 (.fg [1,2,3] (.seq (.seq (.ops false [.u 4 (.ld none 3 true (.t 1)),.u 5 (.call f0 [(.t 4)]),.u 6 (.un .not (.t 5)),.m 7 (.t 6),.w 8 7 false (.fa 1 (.t 1)),.w 9 7 false (.ld none 1 false (.t 8)),.w 10 7 false (.len (.t 9)),.w 11 7 false (.bin .eql (.t 10) (.i 0)),.u 12 (.pick (.t 7) .tr (.t 11))])
 (.fg [1,2,3,12] (.cond (.t 12) (.seq (.ops false [.u 13 (.build [.z [(.lit (.bool false)),.emp]]),.u 14 (.call f1 []),.n (.st none 2 (.t 2) (.t 13)),.n (.st none 2 (.t 3) (.t 14))])
 .ret) .skip)))
 (.fg [1,2,3] (.seq (.ops true [.u 15 (.fa 0 (.t 1)),.u 16 (.ld none 1 false (.t 15)),.m 17 (.c (.one .emp)),.u 18 (.fa 1 (.t 1)),.u 19 (.ld none 1 false (.t 18)),.u 20 (.app0 1 (.t 17) (.t 19)),.u 21 (.build [.x 1 (.t 16),.x 1 (.t 20)]),.n (.st none 2 (.t 2) (.t 21))])
 (.fg [1,2,3] (.seq (.ops true [.u 22 (.ld none 2 true (.t 2)),.m 23 (.c (.one .emp)),.u 24 (.fa 2 (.t 1)),.u 25 (.ld none 1 false (.t 24)),.u 26 (.app0 1 (.t 23) (.t 25)),.u 27 (.build [.z [(.lit (.bool false))],.x 1 (.t 26)]),.n (.st none 2 (.t 2) (.t 22)),.n (.st none 2 (.t 3) (.t 27))])
 .ret)))))))
def yp (f0 f1 f2 f3:Nat):AC:=(.seq (.ops false [.u 2 (.box 2 (.t 0)),.u 3 (.box 2 (.t 1)),.u 4 (.alloc [(.lit (.bool false)),.emp,.emp])])
 (.fg [2,3,4] (.seq (.seq (.ops false [.u 7 (.ld none 2 true (.t 2)),.u 8 (.call f0 [(.t 7)]),.u 9 (.bin .eql (.t 8) (.i 0))])
 (.fg [2,3,4,9] (.cond (.t 9) (.seq (.ops false [.u 10 (.build [.z [(.lit (.bool false)),.emp,.emp]]),.n (.st none 3 (.t 4) (.t 10))])
 .ret) .skip)))
 (.fg [2,3,4] (.seq (.seq (.ops false [.u 11 (.ld none 2 true (.t 3)),.u 12 (.call f0 [(.t 11)]),.u 13 (.bin .lss (.t 12) (.i 0))])
 (.fg [2,3,4,13] (.cond (.t 13) (.ops true [.u 14 (.ld none 2 true (.t 2)),.u 15 (.call f1 [(.t 14)]),.u 16 (.ld none 2 true (.t 3)),.u 17 (.call f1 [(.t 16)]),.n (.st none 2 (.t 2) (.t 15)),.n (.st none 2 (.t 3) (.t 17))]) .skip)))
 (.fg [2,3,4] (.seq (.ops false [.u 18 (.ld none 2 true (.t 2)),.u 19 (.ld none 2 true (.t 3)),.u 20 (.call f2 [(.t 18),(.t 19)]),.u 5 (.alloc [(.lit (.bool false)),.emp]),.n (.st none 2 (.t 5) (.t 20))])
 (.fg [2,3,4,5] (.seq (.ops false [.u 21 (.ld none 2 true (.t 2)),.u 22 (.call f0 [(.t 21)]),.u 23 (.bin .lss (.t 22) (.i 0)),.m 6 (.t 23)])
 (.fg [2,3,4,5,6] (.seq (.seq (.ops false [.m 24 (.t 6)])
 (.fg [2,3,4,5,6,24] (.cond (.t 24) (.ops false [.u 25 (.ld none 2 true (.t 2)),.u 26 (.call f1 [(.t 25)]),.n (.st none 2 (.t 2) (.t 26))]) .skip)))
 (.fg [2,3,4,5,6] (.seq (.ops false [.u 28 (.ld none 2 true (.t 2)),.u 29 (.ld none 2 true (.t 5)),.u 30 (.call f3 [(.t 28),(.t 29)]),.m 27 (.t 30),.u 31 (.ext 0 (.t 27)),.u 32 (.ext 1 (.t 27)),.u 33 (.ext 2 (.t 27)),.n (.st none 2 (.t 2) (.t 31))])
 (.fg [2,3,4,5,6] (.seq (.ops false [.u 35 (.ld none 2 true (.t 3)),.u 36 (.ld none 2 true (.t 5)),.u 37 (.call f3 [(.t 35),(.t 36)]),.m 34 (.t 37),.u 38 (.ext 0 (.t 34)),.u 39 (.ext 1 (.t 34)),.u 40 (.ext 2 (.t 34)),.n (.st none 2 (.t 3) (.t 38))])
 (.fg [2,3,4,6] (.seq (.ops false [.m 41 (.t 6),.u 42 (.fa 1 (.t 2)),.u 43 (.ld none 1 false (.t 42)),.u 44 (.fa 1 (.t 3)),.u 45 (.ld none 1 false (.t 44)),.u 46 (.build [.x 1 (.t 41),.x 1 (.t 43),.x 1 (.t 45)]),.n (.st none 3 (.t 4) (.t 46))])
 .ret)))))))))))))))))
def Vm (f0:Nat):AC:=(.seq (.ops false [.u 0 (.alloc [(.lit (.bool false)),.emp])])
 (.fg [0] (.seq (.ops false [.u 1 (.call f0 [(.i 1)]),.n (.st none 2 (.t 0) (.t 1))])
 .ret)))
def jo (f0 f1 f2:Nat):AC:=(.seq (.ops false [.u 2 (.alloc [(.lit (.bool false)),.emp,.emp])])
 (.fg [0,2] (.seq (.ops false [.m 3 (.t 0),.u 4 (.call f0 [(.t 3)]),.u 5 (.call f1 []),.u 6 (.call f2 [(.t 4),(.t 5)]),.n (.st none 3 (.t 2) (.t 6))])
 .ret)))
def km (f0 f1 f2:Nat):AC:=(.seq (.ops false [.u 1 (.box 3 (.t 0)),.u 2 (.alloc [(.lit (.bool false)),.emp,.emp])])
 (.fg [1,2] (.seq (.ops false [.u 6 (.ld none 3 true (.t 1)),.u 7 (.call f0 [(.t 6)]),.m 5 (.t 7),.u 8 (.ext 0 (.t 5)),.u 9 (.ext 1 (.t 5)),.u 3 (.alloc [(.lit (.bool false)),.emp]),.u 4 (.alloc [(.lit (.bool false)),.emp]),.n (.st none 2 (.t 3) (.t 8)),.n (.st none 2 (.t 4) (.t 9))])
 (.fg [2,3,4] (.seq (.ops true [.u 10 (.ld none 2 true (.t 3)),.u 11 (.call f1 [(.t 10)]),.u 12 (.ld none 2 true (.t 4)),.u 13 (.call f2 [(.t 11),(.t 12)]),.n (.st none 3 (.t 2) (.t 13))])
 .ret)))))
def Vk (f0 f1:Nat):AC:=(.seq (.ops false [.u 1 (.box 3 (.t 0)),.m 2 (.i 0)])
 (.fg [1] (.seq (.ops false [.u 6 (.ld none 3 true (.t 1)),.u 7 (.call f0 [(.t 6)]),.m 5 (.t 7),.u 8 (.ext 0 (.t 5)),.u 9 (.ext 1 (.t 5)),.u 3 (.alloc [(.lit (.bool false)),.emp]),.u 4 (.alloc [(.lit (.bool false)),.emp]),.n (.st none 2 (.t 3) (.t 8)),.n (.st none 2 (.t 4) (.t 9))])
 (.fg [3] (.seq (.ops false [.u 10 (.ld none 2 true (.t 3)),.u 11 (.call f1 [(.t 10)]),.m 2 (.t 11)])
 .ret)))))
def jr (f0 f1 f2:Nat):AC:=(.seq (.ops false [.u 2 (.box 3 (.t 0)),.u 3 (.box 3 (.t 1)),.m 4 (.i 0)])
 (.fg [2,3] (.seq (.ops false [.u 10 (.ld none 3 true (.t 2)),.u 11 (.call f0 [(.t 10)]),.m 9 (.t 11),.u 12 (.ext 0 (.t 9)),.u 13 (.ext 1 (.t 9)),.u 5 (.alloc [(.lit (.bool false)),.emp]),.u 6 (.alloc [(.lit (.bool false)),.emp]),.n (.st none 2 (.t 5) (.t 12)),.n (.st none 2 (.t 6) (.t 13))])
 (.fg [3,5,6] (.seq (.ops false [.u 15 (.ld none 3 true (.t 3)),.u 16 (.call f0 [(.t 15)]),.m 14 (.t 16),.u 17 (.ext 0 (.t 14)),.u 18 (.ext 1 (.t 14)),.u 7 (.alloc [(.lit (.bool false)),.emp]),.u 8 (.alloc [(.lit (.bool false)),.emp]),.n (.st none 2 (.t 7) (.t 17)),.n (.st none 2 (.t 8) (.t 18))])
 (.fg [5,6,7,8] (.seq (.ops true [.u 19 (.ld none 2 true (.t 5)),.u 20 (.ld none 2 true (.t 8)),.u 21 (.call f1 [(.t 19),(.t 20)]),.u 22 (.ld none 2 true (.t 7)),.u 23 (.ld none 2 true (.t 6)),.u 24 (.call f1 [(.t 22),(.t 23)]),.u 25 (.call f2 [(.t 21),(.t 24)]),.m 4 (.t 25)])
 .ret)))))))
def qm (f0 f1 f2 f3:Nat):AC:=(.seq (.ops false [.u 2 (.box 3 (.t 0)),.u 3 (.box 3 (.t 1)),.u 4 (.alloc [(.lit (.bool false)),.emp,.emp])])
 (.fg [2,3,4] (.seq (.ops false [.u 10 (.ld none 3 true (.t 2)),.u 11 (.call f0 [(.t 10)]),.m 9 (.t 11),.u 12 (.ext 0 (.t 9)),.u 13 (.ext 1 (.t 9)),.u 5 (.alloc [(.lit (.bool false)),.emp]),.u 6 (.alloc [(.lit (.bool false)),.emp]),.n (.st none 2 (.t 5) (.t 12)),.n (.st none 2 (.t 6) (.t 13))])
 (.fg [3,4,5,6] (.seq (.ops false [.u 15 (.ld none 3 true (.t 3)),.u 16 (.call f0 [(.t 15)]),.m 14 (.t 16),.u 17 (.ext 0 (.t 14)),.u 18 (.ext 1 (.t 14)),.u 7 (.alloc [(.lit (.bool false)),.emp]),.u 8 (.alloc [(.lit (.bool false)),.emp]),.n (.st none 2 (.t 7) (.t 17)),.n (.st none 2 (.t 8) (.t 18))])
 (.fg [4,5,6,7,8] (.seq (.ops true [.u 19 (.ld none 2 true (.t 5)),.u 20 (.ld none 2 true (.t 8)),.u 21 (.call f1 [(.t 19),(.t 20)]),.u 22 (.ld none 2 true (.t 7)),.u 23 (.ld none 2 true (.t 6)),.u 24 (.call f1 [(.t 22),(.t 23)]),.u 25 (.call f2 [(.t 21),(.t 24)]),.u 26 (.ld none 2 true (.t 6)),.u 27 (.ld none 2 true (.t 8)),.u 28 (.call f1 [(.t 26),(.t 27)]),.u 29 (.call f3 [(.t 25),(.t 28)]),.n (.st none 3 (.t 4) (.t 29))])
 .ret)))))))
def yl (f0 f1:Nat):AC:=(.seq (.ops false [.u 2 (.box 3 (.t 0)),.u 3 (.box 3 (.t 1)),.u 4 (.alloc [(.lit (.bool false)),.emp,.emp])])
 (.fg [2,3,4] (.seq (.ops true [.u 5 (.ld none 3 true (.t 2)),.u 6 (.ld none 3 true (.t 3)),.u 7 (.call f0 [(.t 6)]),.u 8 (.call f1 [(.t 5),(.t 7)]),.n (.st none 3 (.t 4) (.t 8))])
 .ret)))
def qp (f0 f1 tE:Nat):AC:=(.seq (.ops false [.u 2 (.box 2 (.t 0)),.u 3 (.box 2 (.t 1)),.u 4 (.alloc [(.lit (.bool false)),.emp,.emp]),.m 5 (.c (.one (.lit .nilIface)))])
 (.fg [2,3,4] (.seq (.seq (.ops false [.u 6 (.ld none 2 true (.t 3)),.u 7 (.call f0 [(.t 6)]),.u 8 (.bin .eql (.t 7) (.i 0))])
 (.fg [2,3,4,8] (.cond (.t 8) (.seq (.ops false [.u 9 (.build [.z [(.lit (.bool false)),.emp,.emp]]),.u 10 (.iface tE (.i 8)),.n (.st none 3 (.t 4) (.t 9)),.m 5 (.t 10)])
 .ret) .skip)))
 (.fg [2,3,4] (.seq (.ops false [.u 11 (.ld none 2 true (.t 2)),.u 12 (.ld none 2 true (.t 3)),.u 13 (.call f1 [(.t 11),(.t 12)]),.n (.st none 3 (.t 4) (.t 13)),.m 5 (.c (.one (.lit .nilIface)))])
 .ret)))))
theorem xaV {n:Int}:n.sign<0↔n<0:=by
 rcases Int.lt_trichotomy n 0 with h | h | h
 ·rw [Int.sign_eq_neg_one_of_neg h];omega
 ·subst h;simp
 ·rw [Int.sign_eq_one_of_pos h];omega
theorem uy {n d N D:Int} {g:Nat} {m:Bool} (hd:d≠0) (hn:n≠0) (hN:0≤N) (hD:0≤D) (e1:N.natAbs=n.natAbs) (e2:D.natAbs=d.natAbs) (eg:g=Int.gcd n d) (em:m=decide (d.sign*n<0)) :
  AV.agg [.lit (.bool m),zm (zcan (N / (g:Int))),zm (zcan (D / (g:Int)))]=.agg [cb (rcan (Rat.divInt n d)),cn (rcan (Rat.divInt n d)),cd (rcan (Rat.divInt n d))]:=by
 obtain ⟨N',rfl⟩:=Int.eq_ofNat_of_zero_le hN
 obtain ⟨D',rfl⟩:=Int.eq_ofNat_of_zero_le hD
 simp only [Int.natAbs_natCast]at e1 e2
 subst e1 e2 eg em
 rw [VaB,Xav,kaB,wG hd hn,vaw,vaw]
 simp only [zcan]
 rw [←Int.natCast_ediv,←Int.natCast_ediv]
 simp only [Int.natAbs_natCast]
theorem UaW {v w:Int} {s:Nat} (h:w≠0) (hw:zs w≤s):zs ((Int.gcd v w:Nat):Int)≤s:=by
 refine Nat.le_trans (wag ?_) hw
 simp only [Int.natAbs_natCast]
 exact Nat.le_of_dvd (by omega) (Int.gcd_dvd_natAbs_right _ _)
theorem yaa {a b:Int}:ordI a b=0↔a=b:=by unfold ordI;split <;> (try split) <;> omega
theorem YaM {l:List Nat} (h:l≠[]):vldW (false,l)=decide (NZ l):=by unfold vldW;rw [if_neg h]
theorem zv_f {l:List Nat} (h:NZ l):zv (false,l)=(val l:Int):=by
 unfold zv
 by_cases e:l=[]
 ·subst e;simp [vldW]
 ·rw [YaM e];simp [h]
theorem UO (hΓ:Holds P Γ) {f fo:Nat} (ho:Γ fo=.dat false jE) (hc:check P f=some (2,(Vm fo).strip,[.cell 0 2 true])):Sound P f (.dat false xp):=by
 refine va hc VaW hΓ (fun args K hcl hfi hG=>?_)
 match args,hG with
 | [],hG=>
  have hK:=hG
  simp only [xp]at hK
  refine ⟨by simp,?_⟩
  simp only [go_sem,Vm,ho]
  refine ⟨by omega,by omega,hK⟩
theorem jaa (hΓ:Holds P Γ) {f fv fg fo fc:Nat} (hv:Γ fv=.dat true Xi) (hg:Γ fg=.dat false ur) (ho:Γ fo=.dat false xp) (hc' : Γ fc=.dat true xz) (hc:check P f=some (50,(wn fv fg fo fc).strip,[.tmp 2])):Sound P f (.dat true Yd):=by
 refine va hc XG hΓ (fun args K hcl hfi hG=>?_)
 match args,hG with
 | [a],hG=>
  obtain ⟨x,rfl,hx,hl,hK⟩:=hG
  refine ⟨by simp,?_⟩
  simp only [go_sem,wn,hv,hg,ho,hc',VaB,Xav,kaB]
  have hl1:x.2.1.length≤4294967296:=Nat.le_trans (Nat.le_max_left _ _) hl
  have hl2:x.2.2.length≤4294967296:=Nat.le_trans (Nat.le_max_right _ _) hl
  have key:x.2.1≠[]→x.2.2≠[]→WL x.2.1∧(vldW (false,x.2.1)=true→WL x.2.2∧(vldW (false,x.2.2)=true→WL x.2.1∧WL x.2.2∧zs (zv (false,x.2.1))≤17179869184∧zs (zv (false,x.2.2))≤17179869184∧
    K (AV.one (C.lit (Value.bool (decide (ordI (((zv (false,x.2.1)).gcd (zv (false,x.2.2)):Nat):Int) 1=0))))))∧(vldW (false,x.2.2)=false→K (AV.one (C.lit (Value.bool false)))))∧(vldW (false,x.2.1)=false→K (AV.one (C.lit (Value.bool false)))):=by
   intro hn hd
   unfold vldR at hK
   rw [if_neg (fun e=>hn e.1)]at hK
   rw [YaM hn,YaM hd]
   refine ⟨hx.1,fun h1=>⟨hx.2,fun h2=>⟨hx.1,hx.2,?_,?_,?_⟩,fun h2=>?_⟩,fun h1=>?_⟩
   ·rw [zv_f (of_decide_eq_true h1),W6,Wd hx.1 (of_decide_eq_true h1)];omega
   ·rw [zv_f (of_decide_eq_true h2),W6,Wd hx.2 (of_decide_eq_true h2)];omega
   ·rw [zv_f (of_decide_eq_true h1),zv_f (of_decide_eq_true h2)]
    have e:decide (ordI (((((val x.2.1:Nat):Int)).gcd ((val x.2.2:Nat):Int):Nat):Int) 1=0)=decide (x.2.1≠[]∧x.2.2≠[]∧NZ x.2.1∧NZ x.2.2∧Nat.gcd (val x.2.1) (val x.2.2)=1):=by
     rw [decide_eq_decide,yaa,Int.gcd_natCast_natCast]
     have h1':=of_decide_eq_true h1
     have h2':=of_decide_eq_true h2
     constructor
     ·intro h;exact ⟨hn,hd,h1',h2',by omega⟩
     ·rintro ⟨_,_,_,_,h⟩;omega
    rw [e];exact hK
   ·rw [decide_eq_false (fun h=>of_decide_eq_false h2 h.2.2.2.1)]at hK;exact hK
   ·rw [decide_eq_false (fun h=>of_decide_eq_false h1 h.2.2.1)]at hK;exact hK
  have e0:∀{l:List Nat},¬l.length=0→l≠[]:=fun h e=>h (by rw [e];rfl)
  have key0:¬(x.2.1=[]∧x.2.2=[])→(x.2.1=[]∨x.2.2=[])→K (AV.one (C.lit (Value.bool false))):=by
   intro h1 h2
   unfold vldR at hK
   rw [if_neg h1,decide_eq_false (fun h=>h2.elim h.1 h.2.1)]at hK
   exact hK
  refine fun _=>⟨fun hn _=>⟨fun hd=>?_,fun hd _=>⟨fun h=>?_,fun h=>absurd hn h⟩⟩,fun hn _=>⟨fun h=>absurd h hn,fun _ _=>⟨fun hd=>?_,fun hd=>key (e0 hn) (e0 hd)⟩⟩⟩
  ·unfold vldR at hK
   rw [if_pos ⟨List.eq_nil_of_length_eq_zero hn,List.eq_nil_of_length_eq_zero hd⟩]at hK;exact hK
  ·exact key0 (fun h=>e0 hd h.2) (.inl (List.eq_nil_of_length_eq_zero hn))
  ·exact key0 (fun h=>e0 hn h.1) (.inr (List.eq_nil_of_length_eq_zero hd))
theorem Q9 (hΓ:Holds P Γ) {f fv fo:Nat} (hv:Γ fv=.dat true Yd) (ho:Γ fo=.dat false xp) (hc:check P f=some (28,(kn fv fo).strip,[.cell 2 2 true,.cell 3 2 true])):Sound P f (.dat false yd):=by
 refine va hc jJ hΓ (fun args K hcl hfi hG=>?_)
 match args,hG with
 | [a],hG=>
  obtain ⟨x,rfl,hx,hl,hK⟩:=hG
  refine ⟨by simp,?_⟩
  simp only [go_sem,kn,hv,ho,VaB,Xav,kaB]
  have hl1:x.2.1.length≤4294967296:=Nat.le_trans (Nat.le_max_left _ _) hl
  have hl2:x.2.2.length≤4294967296:=Nat.le_trans (Nat.le_max_right _ _) hl
  have e0:(zcan 0)=(false,[]):=by simp [zcan,Vb]
  have h0:rv x=0→K (AV.tup [AV.agg [C.lit (Value.bool false),C.slice []],AV.agg [zb (zcan 1),zm (zcan 1)]]):=by
   intro h
   rw [h]at hK
   have e1:((0:Rat).num)=0:=rfl
   have e2:((0:Rat).den:Int)=1:=rfl
   rw [e1,e2,e0]at hK;exact hK
  refine ⟨hx,hl,fun hv _=>⟨fun hn=>h0 ?_,fun hn=>⟨by omega,by omega,?_⟩⟩,fun hv=>h0 (Zab hv)⟩
  ·unfold rv;rw [if_pos hv,List.eq_nil_of_length_eq_zero hn];simp [val,sg]
  ·obtain ⟨p1,p2,p3,p4,p5,p6⟩:=US hx hv (fun e=>hn (by rw [e];rfl))
   have hn0:=Zc p4 (fun e=>hn (by rw [e];rfl))
   rw [p1,p2]at hK
   have e1:zcan (sg x.1 (val x.2.1))=(x.1,x.2.1):=by
    rw [←kL,Wd hx.1 p4]
    have:decide (0<x.2.1.length)=true:=by simp only [decide_eq_true_eq];omega
    rw [this,Bool.and_true]
   have e2:zcan ((val x.2.2:Nat):Int)=(false,x.2.2):=by
    have:=kL false (val x.2.2)
    rw [Wd hx.2 p5,Bool.false_and]at this
    exact this.symm
   rw [e1,e2]at hK;exact hK
theorem xae (hΓ:Holds P Γ) {f fs fn fg fd:Nat} (hs:Γ fs=.dat true kf) (hn:Γ fn=.dat false Us) (hg:Γ fg=.dat false ur) (hd:Γ fd=.dat false XC) (hc:check P f=some (47,(yp fs fn fg fd).strip,[.cell 4 3 true])):Sound P f (.dat false xh):=by
 refine va hc qN hΓ (fun args K hcl hfi hG=>?_)
 match args,hG with
 | [a,b],hG=>
  obtain ⟨v,rfl,hv,w,rfl,hw,hz,hz',h0,hK⟩:=hG
  refine ⟨by simp,?_⟩
  simp only [go_sem,yp,hs,hn,hg,hd,hv,hw]
  generalize zv v=n at *
  generalize zv w=d at *
  have hd0:=h0
  refine ⟨fun h=>?_,fun h=>?_⟩
  ·rw [Int.sign_eq_zero_iff_zero.1 h,Rat.zero_divInt,wb]at hK;exact hK
  have hn0:n≠0:=fun e=>h (by rw [e];rfl)
  have hg0:((Int.gcd n d:Nat):Int)≠0:=by
   have:=Int.gcd_pos_of_ne_zero_left d hn0;omega
  have hgz:zs ((Int.gcd n d:Nat):Int)≤17179869184:=UaW hd0 hz'
  simp only [Int.gcd_neg,Int.neg_gcd,X6,xaV]
  refine ⟨fun hdn=>⟨by omega,by omega,hz,hz',fun hnn=>⟨by omega,hz,hgz,hg0,hz',hgz,hg0,?_⟩,fun hnn=>⟨hz,hgz,hg0,hz',hgz,hg0,?_⟩⟩,fun hdn=>⟨hz,hz',fun hnn=>⟨by omega,hz,hgz,hg0,hz',hgz,hg0,?_⟩,fun hnn=>⟨hz,hgz,hg0,hz',hgz,hg0,?_⟩⟩⟩
  ·rw [uy hd0 hn0 (by omega) (by omega) (by omega) (by omega) rfl (by rw [decide_eq_decide,Int.sign_eq_neg_one_of_neg hdn];omega)];exact hK
  ·rw [uy hd0 hn0 (by omega) (by omega) (by omega) (by omega) rfl (by rw [decide_eq_decide,Int.sign_eq_neg_one_of_neg hdn];omega)];exact hK
  ·rw [uy hd0 hn0 (by omega) (by omega) (by omega) (by omega) rfl (by rw [decide_eq_decide,Int.sign_eq_one_of_pos (by omega)];omega)];exact hK
  ·rw [uy hd0 hn0 (by omega) (by omega) (by omega) (by omega) rfl (by rw [decide_eq_decide,Int.sign_eq_one_of_pos (by omega)];omega)];exact hK
theorem vV (hΓ:Holds P Γ) {f fo fn ff:Nat} (ho:Γ fo=.dat false jE) (hn:Γ fn=.dat false xp) (hf:Γ ff=.dat false xh) (hc:check P f=some (7,(jo fo fn ff).strip,[.cell 2 3 true])):Sound P f (.dat false xt):=by
 refine va hc YaZ hΓ (fun args K hcl hfi hG=>?_)
 match args,hG with
 | [a],hG=>
  obtain ⟨k,n,rfl,rfl,hn1,hn2,hK⟩:=jb hG
  refine ⟨by simp,?_⟩
  simp only [go_sem,jo,ho,hn,hf]
  have e:Rat.divInt n 1=(n:Rat):=Rat.num_divInt_den (n:Rat)
  rw [e]
  have h1:zs 1≤2:=kU (by decide)
  have h2:zs n≤2:=kU (by omega)
  exact ⟨hn1,hn2,by omega,by omega,by decide,hK⟩
theorem xP (hΓ:Holds P Γ) {f fp fn ff:Nat} (hp:Γ fp=.dat false yd) (hn:Γ fn=.dat false Us) (hf:Γ ff=.dat false xh) (hc:check P f=some (14,(km fp fn ff).strip,[.cell 2 3 true])):Sound P f (.dat false Qs):=by
 refine va hc vaI hΓ (fun args K hcl hfi hG=>?_)
 match args,hG with
 | [a],hG=>
  obtain ⟨x,rfl,hx,hl,hK⟩:=hG
  refine ⟨by simp,?_⟩
  simp only [go_sem,km,hp,hn,hf,hx]
  have n1:=zy hx
  have d1:=vx hx
  rw [YaP,X6]
  exact ⟨hl,by omega,by omega,by omega,zx _,hK⟩
theorem zH (hΓ:Holds P Γ) {f fp fs:Nat} (hp:Γ fp=.dat false yd) (hs:Γ fs=.dat true kf) (hc:check P f=some (12,(Vk fp fs).strip,[.tmp 2])):Sound P f (.dat true ug):=by
 refine va hc QaA hΓ (fun args K hcl hfi hG=>?_)
 match args,hG with
 | [a],hG=>
  obtain ⟨x,rfl,hx,hl,hK⟩:=hG
  refine ⟨by simp,?_⟩
  simp only [go_sem,Vk,hp,hs,hx]
  rw [←vaV]
  exact ⟨hl,hK⟩
theorem ZQ (hΓ:Holds P Γ) {f fp fm fa ff:Nat} (hp:Γ fp=.dat false yd) (hm:Γ fm=.dat false Zs) (ha:Γ fa=.dat false Qv) (hf:Γ ff=.dat false xh) (hc:check P f=some (30,(qm fp fm fa ff).strip,[.cell 4 3 true])):Sound P f (.dat false xj):=by
 refine va hc QaL hΓ (fun args K hcl hfi hG=>?_)
 match args,hG with
 | [a,b],hG=>
  obtain ⟨x,rfl,hx,y,rfl,hy,hl,hl',hK⟩:=hG
  refine ⟨by simp,?_⟩
  simp only [go_sem,qm,hp,hm,ha,hf,hx,hy]
  have n1:=zy hx
  have d1:=vx hx
  have n2:=zy hy
  have d2:=vx hy
  rw [Int.natCast_mul,vaa]
  have m1:=Xo (rv x).num (rv y).den
  have m2:=Xo (rv y).num (rv x).den
  have m3:=Xo ((rv x).den:Int) (rv y).den
  have a1:=WG ((rv x).num*(rv y).den) ((rv y).num*(rv x).den)
  exact ⟨hl,hl',by omega,by omega,by omega,by omega,by omega,by omega,by omega,by omega,by omega,by omega,Int.mul_ne_zero (zx _) (zx _),hK⟩
theorem uN (hΓ:Holds P Γ) {f fn fa:Nat} (hn:Γ fn=.dat false Qs) (ha:Γ fa=.dat false xj) (hc:check P f=some (9,(yl fn fa).strip,[.cell 4 3 true])):Sound P f (.dat false um):=by
 refine va hc ZaN hΓ (fun args K hcl hfi hG=>?_)
 match args,hG with
 | [a,b],hG=>
  obtain ⟨x,rfl,hx,y,rfl,hy,hl,hl',hK⟩:=hG
  refine ⟨by simp,?_⟩
  simp only [go_sem,yl,hn,ha,hx,hy]
  rw [←Rat.sub_eq_add_neg,Uw]
  exact ⟨hl',hl,Nat.le_trans (zc hy) hl',hK⟩
end Go.Abs
end
section
namespace Go.Num
def bln (n:Nat):Nat:=if n=0 then 0 else bln (n / 2)+1
termination_by n
decreasing_by omega
theorem uF:bln 0=0:=by rw [bln];rfl
theorem Zaf {n:Nat} (h:n≠0):bln n=bln (n / 2)+1:=by rw [bln,if_neg h]
theorem Ybq (n:Nat):n<2 ^ bln n:=by
 induction n using Nat.strongRecOn with
 | _ n ih=>
  by_cases h:n=0
  ·subst h;rw [uF];decide
  ·rw [Zaf h,Nat.pow_succ]
   have:=ih (n / 2) (by omega)
   omega
theorem Ja4 {n k:Nat} (h:n<2 ^ k):bln n≤k:=by
  induction k generalizing n with
  | zero => have : n = 0 := by omega
            subst this;rw [uF];exact Nat.le_refl _
  | succ k ih=>
    by_cases h0:n=0
    · subst h0;rw [uF];omega
    · rw [Zaf h0]
      have:=ih (n:=n / 2) (by rw [Nat.pow_succ]at h;omega)
      omega
theorem QR (l:List Nat) (m:Nat):val l=val (l.take m)+4294967296 ^ m*val (l.drop m):=by
 by_cases h:m≤l.length
 ·conv=>lhs;rw [←List.take_append_drop m l,Yb,List.length_take,Nat.min_eq_left h]
 ·rw [List.take_of_length_le (by omega),List.drop_of_length_le (by omega)];simp [val]
theorem Xy (l:List Nat) (m:Nat):val (l.drop m)=l.getD m 0+4294967296*val (l.drop (m+1)):=by
 by_cases h:m<l.length
 ·have:=kH l (n:=m+1) (by omega) (by omega)
  exact this
 ·rw [List.drop_of_length_le (by omega),List.drop_of_length_le (by omega),List.getD_eq_getElem?_getD,List.getElem?_eq_none (by omega)];simp [val]
theorem Jaf {l:List Nat} (h:WL l) (m:Nat):val (l.take m)<4294967296 ^ m:=
 Nat.lt_of_lt_of_le (Xm (Ww h m)) (Nat.pow_le_pow_right (by omega) (by rw [List.length_take];omega))
theorem ua3 {x y:List Nat} {m:Nat} (hx:WL x) (hd:val (x.drop (m+1))=val (y.drop (m+1))) (h:x.getD m 0<y.getD m 0):val x<val y:=by
 have h1:=QR x m
 have h2:=QR y m
 have h3:=Jaf hx m
 rw [Xy,hd]at h1
 rw [Xy]at h2
 generalize 4294967296 ^ m=p at *
 have:p*(x.getD m 0+4294967296*val (y.drop (m+1))+1)≤p*(y.getD m 0+4294967296*val (y.drop (m+1))):=Nat.mul_le_mul_left _ (by omega)
 rw [Nat.mul_add p _ 1]at this
 omega
theorem xR {x y c:Nat} (hx:x<4294967296) (hy:y<4294967296) (hc:c≤1):∃s:Nat,((((4294967296+(x:Int)) % 18446744073709551616-(y:Int)) % 18446744073709551616-(c:Int)) % 18446744073709551616)=(s:Int)∧
  (1-(s:Int) / 4294967296) % 18446744073709551616=((1-s / 4294967296:Nat):Int)∧s % 4294967296+y+c=x+4294967296*(1-s / 4294967296)∧1-s / 4294967296≤1:=by
 exact ⟨4294967296+x-y-c,by omega,by omega,by omega,by omega⟩
theorem za1 {V Q c xa ya a b u w B:Nat} (h:V+Q*c=xa+ya) (hs:u+B*w=a+b+c):V+Q*u+Q*B*w=xa+Q*a+(ya+Q*b):=by
 have:=congrArg (Q * ·) hs
 simp only [Nat.mul_add]at this
 rw [Nat.mul_assoc Q B w]
 omega
theorem qaE {o l post:List Nat} (h:o.length≤l.length):(o++(l.drop o.length++post)).length=l.length+post.length:=by simp;omega
theorem jad {o l post:List Nat} (h:o.length≤l.length):(o++(l.drop o.length++post)).take l.length=o++l.drop o.length:=by
 rw [←List.append_assoc,List.take_append_of_le_length (by simp;omega),List.take_of_length_le (by simp;omega)]
theorem zam (o l:List Nat) (k:Nat):(o++l.drop o.length).getD (o.length+k) 0=l.getD (o.length+k) 0:=by
 simp only [List.getD_eq_getElem?_getD]
 rw [List.getElem?_append_right (by omega),List.getElem?_drop,show o.length+(o.length+k-o.length)=o.length+k by omega]
theorem XT (o l:List Nat):(o++l.drop o.length).getD o.length 0=l.getD o.length 0:=zam o l 0
theorem jav {o l post:List Nat} (v:Nat) (h:o.length<l.length):(o++(l.drop o.length++post)).set o.length v=(o++[v])++(l.drop (o++[v]).length++post):=by
 have:=kad [] o l post v h
 simpa using this
theorem Vbf {o l:List Nat} (h:o.length≤l.length):(o++l.drop o.length).length=l.length:=by simp;omega
theorem ubf {o l:List Nat} (v:Nat) (h:o.length<l.length):(o++l.drop o.length).set o.length v=(o++[v])++l.drop (o++[v]).length:=by
 have:=jav (post:=[]) v h
 simpa using this
theorem zbe {o l:List Nat} (ho:WL o) (hl:WL l):WL (o++l.drop o.length):=ze.2 ⟨ho,xbh hl _⟩
theorem Ya2 {a b:Nat} (ha:a<4294967296) (hb:b<4294967296):(a / 2 ||| b*2147483648 % 18446744073709551616) % 4294967296=(a+4294967296*b) / 2 ^ 1 % 4294967296:=by
 have:=Nat.two_pow_add_eq_or_of_lt (i:=31) (b:=a / 2) (by omega) b
 rw [Nat.mod_eq_of_lt (show b*2147483648<18446744073709551616 by omega),Nat.or_comm,show b*2147483648=2 ^ 31*b by omega,←this]
 omega
theorem WaD {l post:List Nat} {i:Nat} (h:i<l.length):(l++post).getD i 0=l.getD i 0:=by
 simp only [List.getD_eq_getElem?_getD];rw [List.getElem?_append_left h]
theorem Wl {a:Nat} (h:a≠0):0<(digs a).length:=by rw [Vt h];simp
theorem Wu {a:Nat} (h:a≠0) (p:List Nat):(digs a++p).getD 0 0=a % 4294967296:=by rw [Vt h];rfl
theorem uu {a:Nat}:(digs a).length=0↔a=0:=by rw [List.length_eq_zero_iff,Vf]
theorem Ubp {a b k g:Nat} (ha:a % 2=0) (hb:b % 2=0) (h:Nat.gcd a b*2 ^ k=g):Nat.gcd (a / 2) (b / 2)*2 ^ (k+1)=g:=by
 obtain ⟨a',rfl⟩:∃a',a=2*a':=⟨a / 2,by omega⟩
 obtain ⟨b',rfl⟩:∃b',b=2*b':=⟨b / 2,by omega⟩
 rw [Nat.gcd_mul_left]at h
 rw [Nat.mul_div_cancel_left _ (by omega),Nat.mul_div_cancel_left _ (by omega),Nat.pow_succ,←h]
 rw [Nat.mul_comm (2 ^ k) 2,←Nat.mul_assoc,Nat.mul_comm _ 2]
theorem UaM {a b:Nat} (ha:a % 2=0) (hb:b % 2≠0):Nat.gcd (a / 2) b=Nat.gcd a b:=by
 obtain ⟨a',rfl⟩:∃a',a=2*a':=⟨a / 2,by omega⟩
 rw [Nat.mul_div_cancel_left _ (by omega)]
 have:Nat.Coprime 2 b:=by
  rw [Nat.coprime_iff_gcd_eq_one,Nat.gcd_rec,show b % 2=1 by omega];rfl
 exact (Nat.Coprime.gcd_mul_left_cancel a' this).symm
theorem wa6 {a b:Nat} (ha:a % 2≠0) (hb:b % 2=0):Nat.gcd a (b / 2)=Nat.gcd a b:=by
 rw [Nat.gcd_comm a,Nat.gcd_comm a];exact UaM hb ha
theorem qT {a b:Nat} (h:b≤a):Nat.gcd (a-b) b=Nat.gcd a b:=Nat.gcd_sub_self_left h
theorem Wbb {k n:Nat} (h:2 ^ k≤n) {s:Nat} (hn:n<4294967296 ^ s):k<32*s:=by
 have e:(4294967296:Nat) ^ s=2 ^ (32*s):=by rw [Nat.pow_mul]
 rw [e]at hn
 exact (Nat.pow_lt_pow_iff_right (by omega)).1 (Nat.lt_of_le_of_lt h hn)
theorem QF {a b:Nat}:ordN a b<0↔a<b:=by unfold ordN;split <;> (try split) <;> omega
theorem Jbh {x:List Nat} (hx:WL x) (h:x.length≠0):val x<2 ^ (32*(x.length-1)+bln (x.getD (x.length-1) 0)):=by
 have h1:=QR x (x.length-1)
 have h2:=Xy x (x.length-1)
 rw [show x.length-1+1=x.length by omega,List.drop_length]at h2
 have h3:=Jaf hx (x.length-1)
 have h4:=Ybq (x.getD (x.length-1) 0)
 have e:(4294967296:Nat) ^ (x.length-1)=2 ^ (32*(x.length-1)):=by rw [Nat.pow_mul]
 rw [h2,show val []=0 from rfl,Nat.mul_zero,Nat.add_zero]at h1
 rw [Nat.pow_add,←e]
 generalize 4294967296 ^ (x.length-1)=p at *
 generalize 2 ^ bln (x.getD (x.length-1) 0)=q at *
 have:p*(x.getD (x.length-1) 0+1)≤p*q:=Nat.mul_le_mul_left _ h4
 rw [Nat.mul_add,Nat.mul_one]at this
 omega
theorem digit (x:List Nat) {m:Nat} (hx:WL x):val x / 4294967296 ^ m=x.getD m 0+4294967296*val (x.drop (m+1)):=by
 rw [QR x m,Xy,Nat.add_mul_div_left _ _ (Nat.pow_pos (by omega)),Nat.div_eq_of_lt (Jaf hx m),Nat.zero_add]
theorem ZK (i:Nat):(2:Nat) ^ i=4294967296 ^ (i / 32)*2 ^ (i % 32):=by
 have e:(4294967296:Nat) ^ (i / 32)=2 ^ (32*(i / 32)):=by rw [Nat.pow_mul]
 rw [e,←Nat.pow_add,Nat.div_add_mod]
theorem xbm {x:List Nat} (hx:WL x) (i:Nat):x.getD (i / 32) 0 / 2 ^ (i % 32) % 2=val x / 2 ^ i % 2:=by
 rw [ZK i,←Nat.div_div_eq_div_mul,digit x hx]
 have hs:i % 32<32:=Nat.mod_lt _ (by omega)
 generalize i % 32=s at *
 generalize val (x.drop (i / 32+1))=r
 have e:(4294967296:Nat)=2 ^ s*(2*2 ^ (31-s)):=by
  rw [Nat.mul_left_comm,←Nat.pow_add,show s+(31-s)=31 by omega]
 rw [e,Nat.mul_assoc,Nat.add_mul_div_left _ _ (Nat.pow_pos (by omega)),Nat.mul_assoc,Nat.add_mul_mod_self_left]
theorem xao (v i:Nat):v / 2 ^ i=2*(v / 2 ^ (i+1))+v / 2 ^ i % 2:=by
 rw [Nat.pow_succ,←Nat.div_div_eq_div_mul];omega
theorem qbo {a c:Nat} (hc:c≤1):a*2 % 4294967296 ||| c=a*2 % 4294967296+c:=by
 have:=Nat.two_pow_add_eq_or_of_lt (i:=1) (b:=c) (by omega) (a*2 % 4294967296 / 2)
 rw [show 2 ^ 1*(a*2 % 4294967296 / 2)=a*2 % 4294967296 by omega]at this
 exact this.symm
theorem ubh {a s:Nat} (hs:s<32) (h:a % 2 ^ (s+1)=0):a ||| 2 ^ s=a+2 ^ s:=by
 have:=Nat.two_pow_add_eq_or_of_lt (i:=s+1) (b:=2 ^ s) (Nat.pow_lt_pow_right (by omega) (by omega)) (a / 2 ^ (s+1))
 rw [Nat.mul_div_cancel' (Nat.dvd_of_mod_eq_zero h)]at this
 exact this.symm
theorem Qa2 {q:List Nat} (hq:WL q) {i Q:Nat} (h:val q=Q*2 ^ (i+1)):q.getD (i / 32) 0 % 2 ^ (i % 32+1)=0:=by
 have hs:i % 32<32:=Nat.mod_lt _ (by omega)
 have h1:=digit q hq (m:=i / 32)
 have e1:(2:Nat) ^ (i+1)=4294967296 ^ (i / 32)*2 ^ (i % 32+1):=by rw [Nat.pow_succ,ZK,Nat.pow_succ,Nat.mul_assoc]
 rw [h,e1,Nat.mul_left_comm,Nat.mul_div_cancel_left _ (Nat.pow_pos (by omega))]at h1
 generalize i % 32=s at *
 generalize val (q.drop (i / 32+1))=r at *
 have e2:(4294967296:Nat)=2 ^ (s+1)*2 ^ (31-s):=by
  rw [←Nat.pow_add,show s+1+(31-s)=32 by omega]
 have:(q.getD (i / 32) 0+4294967296*r) % 2 ^ (s+1)=0:=by rw [←h1];exact Nat.mul_mod_left _ _
 rw [e2,Nat.mul_assoc,Nat.add_mul_mod_self_left]at this
 exact this
theorem qa2 {vo p c tr bit x:Nat} (h:vo+p*c=2*tr+bit) (hx:x<4294967296):vo+p*(x*2 % 4294967296+c)+p*4294967296*(x / 2147483648)=2*(tr+p*x)+bit:=by
 have e:x*2 % 4294967296+4294967296*(x / 2147483648)=2*x:=by omega
 have:=congrArg (p * ·) e
 simp only [Nat.mul_add]at this ⊢
 rw [Nat.mul_assoc p 4294967296]
 have e2:p*(2*x)=2*(p*x):=by rw [Nat.mul_left_comm]
 omega
theorem JaN {v y i q r bit:Nat} (hy:0<y) (hb:v / 2 ^ i % 2=bit) (hq:q=v / 2 ^ (i+1) / y*2 ^ (i+1)) (hr:r=v / 2 ^ (i+1) % y) (h:y≤2*r+bit):q+2 ^ i=v / 2 ^ i / y*2 ^ i∧2*r+bit-y=v / 2 ^ i % y:=by
 have e:=xao v i
 rw [hb]at e
 have d:=Nat.div_add_mod (v / 2 ^ (i+1)) y
 have hm:=Nat.mod_lt (v / 2 ^ (i+1)) hy
 rw [←hr]at d hm
 generalize hQ:v / 2 ^ (i+1) / y=Q at *
 generalize v / 2 ^ (i+1)=X at *
 have hb1:bit≤1:=by omega
 have key:v / 2 ^ i=y*(2*Q+1)+(2*r+bit-y):=by
  have e2:y*(2*Q+1)=2*(y*Q)+y:=by rw [Nat.mul_add,Nat.mul_one,Nat.mul_left_comm y 2 Q]
  rw [e,←d,e2];omega
 have hlt:2*r+bit-y<y:=by omega
 constructor
 ·rw [key,Nat.mul_add_div hy,Nat.div_eq_of_lt hlt,Nat.add_zero,hq,Nat.pow_succ,Nat.add_mul,Nat.one_mul,Nat.mul_comm 2 Q,Nat.mul_assoc,Nat.mul_comm 2]
 ·rw [key,Nat.mul_add_mod,Nat.mod_eq_of_lt hlt]
theorem JaW {v y i q r bit:Nat} (hy:0<y) (hb:v / 2 ^ i % 2=bit) (hq:q=v / 2 ^ (i+1) / y*2 ^ (i+1)) (hr:r=v / 2 ^ (i+1) % y) (h:2*r+bit<y):q=v / 2 ^ i / y*2 ^ i∧2*r+bit=v / 2 ^ i % y:=by
 have e:=xao v i
 rw [hb]at e
 have d:=Nat.div_add_mod (v / 2 ^ (i+1)) y
 rw [←hr]at d
 generalize hQ:v / 2 ^ (i+1) / y=Q at *
 generalize v / 2 ^ (i+1)=X at *
 have key:v / 2 ^ i=y*(2*Q)+(2*r+bit):=by
  have e2:y*(2*Q)=2*(y*Q):=by rw [Nat.mul_left_comm y 2 Q]
  rw [e,←d,e2];omega
 constructor
 ·rw [key,Nat.mul_add_div hy,Nat.div_eq_of_lt h,Nat.add_zero,hq,Nat.pow_succ,Nat.mul_comm 2 Q,Nat.mul_assoc,Nat.mul_comm 2]
 ·rw [key,Nat.mul_add_mod,Nat.mod_eq_of_lt h]
end Go.Num
namespace Go.Abs
open Go.Num
theorem share4 {c1 c2 c3 p d1 d2 d3 q X L:Prop} (h1:c1) (h2:c2) (h3:c3) (k1:d1) (k2:d2) (k3:d3) (hx:p→q→X) (hl:¬p∨¬q→L):c1∧c2∧c3∧(p→d1∧d2∧d3∧(q→X)∧(¬q→L))∧(¬p→L):=
 ⟨h1,h2,h3,fun hp=>⟨k1,k2,k3,hx hp,fun hq=>hl (.inr hq)⟩,fun hp=>hl (.inl hp)⟩
theorem Yl (K:AV→Prop) (a:Nat):arith K .and .u32 (a:Int) 1=(a<2 ^ IntKind.u32.bits∧intR K .u32 ((a % 2:Nat):Int)):=uaA K .u32 a rfl (by decide)
theorem U2 {h' : Nat→HB} {k v v' z:Nat} {b:Bool} {es:List (List C)} {l' : List Nat} {r:List (Nat×HB)} (e:es=l'.map wc):okH (mkH ((k,⟨v,some ⟨es,z,b⟩⟩)::r)) h' [(k,⟨v',some ⟨l'.map wc,z,b⟩⟩)]:=by
 subst e;exact yf rfl
theorem UaE {h h' : Nat→HB} {z:Nat} {b:Bool} {es:List (List C)} {l' : List Nat} (e:es=l'.map wc):okB h h' (some ⟨es,z,b⟩) (some ⟨l'.map wc,z,b⟩):=by
 subst e;exact Qb rfl
theorem kaF (L:List Nat) (i s:Nat):(L.map wc).set i [C.lit (.int .u32 ((s:Int) % 4294967296))]=(L.set i (s % 4294967296)).map wc:=by
 rw [List.map_set];simp [wc]
def onWx (k:List Nat→Prop) (a:AV):Prop:=∃l,(a=.one (ws l)∨a=.one (.full (l.map wc))∨(a=.one .emp∧l=[]))∧WL l∧k l
@[congr] theorem YbG {k:List Nat→Prop} {a a' : AV} (h:a=a'):onWx k a=onWx k a':=by subst h;rfl
theorem VV (k:List Nat→Prop) (l:List Nat):onWx k (.one (.slice (l.map wc)))=(WL l∧k l):=by
 refine propext ⟨fun ⟨x,h,h1,h2⟩=>?_,fun h=>⟨l,.inl rfl,h⟩⟩
 rcases h with h | h | h
 ·have:=yw l x h;subst this;exact ⟨h1,h2⟩
 ·simp at h
 ·simp at h
theorem kaV (k:List Nat→Prop) (l:List Nat):onWx k (.one (.full (l.map wc)))=(WL l∧k l):=by
 refine propext ⟨fun ⟨x,h,h1,h2⟩=>?_,fun h=>⟨l,.inr (.inl rfl),h⟩⟩
 rcases h with h | h | h
 ·simp [ws]at h
 ·have:=QO (x:=l) (y:=x) (by simpa using h);subst this;exact ⟨h1,h2⟩
 ·simp at h
theorem YaR (k:List Nat→Prop):onWx k (.one .emp)=k []:=by
 refine propext ⟨fun ⟨x,h,h1,h2⟩=>?_,fun h=>⟨[],.inr (.inr ⟨rfl,rfl⟩),qc,h⟩⟩
 rcases h with h | h | h
 ·simp [ws]at h
 ·simp at h
 ·obtain ⟨_,rfl⟩:=h;exact h2
attribute [go_sem] VV kaV YaR
attribute [go_sem ↓] VV kaV YaR
theorem Zbo {β:Type} {T:List Nat→(β→Prop)→Prop} (h:∀l,GoodT (T l)) {a:AV}:GoodT fun K=>onWx (fun l=>T l K) a:=
 .of fun K hx=>by
  obtain ⟨l,ha,hw,hk⟩:=hx
  rcases ha with ha | ha | ⟨ha,rfl⟩
  ·have:(fun K=>onWx (fun l=>T l K) a)=fun K=>WL l∧T l K:=funext fun K=>by rw [ha];exact VV _ l
   rw [this];exact .and fun _=>h l
  ·have:(fun K=>onWx (fun l=>T l K) a)=fun K=>WL l∧T l K:=funext fun K=>by rw [ha];exact kaV _ l
   rw [this];exact .and fun _=>h l
  ·have:(fun K=>onWx (fun l=>T l K) a)=T []:=funext fun K=>by rw [ha];exact YaR _
   rw [this];exact h []
def Jt (l:List AV) (K:List (List C)→Prop):Prop:=
 match l with
 | [a]=>onWx (fun l=>l.length≤68719476736∧K ((digs (val l)).map wc)) a
 | _=>False
theorem WaG (a:AV) (K:List (List C)→Prop):Jt [a] K=(onWx (fun l=>l.length≤68719476736∧K ((digs (val l)).map wc)) a):=propext Iff.rfl
@[congr] theorem ubG {K:List (List C)→Prop} {l l' : List AV} (h:l=l'):Jt l K=Jt l' K:=by subst h;rfl
attribute [go_sem] WaG
attribute [go_sem ↓] WaG
theorem kaP:Good Jt:=Va fun as=>by
 unfold Jt
 split
 ·exact (Zbo fun _=>(.and fun _=>(.ret _)))
 ·exact .of fun K hk=>hk.elim
def Vr (l:List AV) (K:AV→Prop):Prop:=
 match l with
 | [a,b]=>onWs (fun x=>onWs (fun y=>K (.one (.lit (.int .i64 (ordN (val x) (val y)))))) b) a
 | _=>False
theorem vas (a b:AV) (K:AV→Prop):Vr [a,b] K=(onWs (fun x=>onWs (fun y=>K (.one (.lit (.int .i64 (ordN (val x) (val y)))))) b) a):=propext Iff.rfl
@[congr] theorem Vbx {K:AV→Prop} {l l' : List AV} (h:l=l'):Vr l K=Vr l' K:=by subst h;rfl
attribute [go_sem] vas
attribute [go_sem ↓] vas
theorem xax:Good Vr:=Va fun as=>by
 unfold Vr
 split
 ·exact (Ye fun _=>(Ye fun _=>(.ret _)))
 ·exact .of fun K hk=>hk.elim
def yv (l:List AV) (K:AV→Prop):Prop:=
 match l with
 | [a,b]=>onWs (fun x=>onWs (fun y=>x.length≤17179869184∧y.length≤17179869184∧K (.one (.slice ((digs (Nat.gcd (val x) (val y))).map wc)))) b) a
 | _=>False
theorem Vav (a b:AV) (K:AV→Prop):yv [a,b] K=(onWs (fun x=>onWs (fun y=>x.length≤17179869184∧y.length≤17179869184∧K (.one (.slice ((digs (Nat.gcd (val x) (val y))).map wc)))) b) a):=propext Iff.rfl
@[congr] theorem qbz {K:AV→Prop} {l l' : List AV} (h:l=l'):yv l K=yv l' K:=by subst h;rfl
attribute [go_sem] Vav
attribute [go_sem ↓] Vav
theorem yaw:Good yv:=Va fun as=>by
 unfold yv
 split
 ·exact (Ye fun _=>(Ye fun _=>(.and fun _=>(.and fun _=>(.ret _)))))
 ·exact .of fun K hk=>hk.elim
def Zq (l:List AV) (K:AV→Prop):Prop:=
 match l with
 | [a]=>onWs (fun x=>x.length≤68719476736∧K (.one (.lit (.int .i64 ((if x.length=0 then 0 else 32*(x.length-1)+bln (x.getD (x.length-1) 0):Nat):Int))))) a
 | _=>False
theorem Y2 (a:AV) (K:AV→Prop):Zq [a] K=(onWs (fun x=>x.length≤68719476736∧K (.one (.lit (.int .i64 ((if x.length=0 then 0 else 32*(x.length-1)+bln (x.getD (x.length-1) 0):Nat):Int))))) a):=propext Iff.rfl
@[congr] theorem Xbl {K:AV→Prop} {l l' : List AV} (h:l=l'):Zq l K=Zq l' K:=by subst h;rfl
attribute [go_sem] Y2
attribute [go_sem ↓] Y2
theorem vab:Good Zq:=Va fun as=>by
 unfold Zq
 split
 ·exact (Ye fun _=>(.and fun _=>(.ret _)))
 ·exact .of fun K hk=>hk.elim
def UB (l:List AV) (K:AV→Prop):Prop:=
 match l with
 | [a,b]=>onW (fun v=>onW (fun w=>zs (zv v)≤17179869184∧zs (zv w)≤17179869184∧K (.agg [zb (zcan (zv v-zv w)),zm (zcan (zv v-zv w))])) b) a
 | _=>False
theorem UaG (a b:AV) (K:AV→Prop):UB [a,b] K=(onW (fun v=>onW (fun w=>zs (zv v)≤17179869184∧zs (zv w)≤17179869184∧K (.agg [zb (zcan (zv v-zv w)),zm (zcan (zv v-zv w))])) b) a):=propext Iff.rfl
@[congr] theorem QbA {K:AV→Prop} {l l' : List AV} (h:l=l'):UB l K=UB l' K:=by subst h;rfl
attribute [go_sem] UaG
attribute [go_sem ↓] UaG
theorem JaD:Good UB:=Va fun as=>by
 unfold UB
 split
 ·exact (qn fun _=>(qn fun _=>(.and fun _=>(.and fun _=>(.ret _)))))
 ·exact .of fun K hk=>hk.elim
def vq (l:List AV) (K:AV→Prop):Prop:=
 match l with
 | [a,b]=>onW (fun v=>onW (fun w=>zs (zv v)≤17179869184∧zs (zv w)≤17179869184∧zs (zv v-zv w)≤17179869184∧K (.one (.lit (.int .i64 (ordI (zv v) (zv w)))))) b) a
 | _=>False
theorem Q4 (a b:AV) (K:AV→Prop):vq [a,b] K=(onW (fun v=>onW (fun w=>zs (zv v)≤17179869184∧zs (zv w)≤17179869184∧zs (zv v-zv w)≤17179869184∧K (.one (.lit (.int .i64 (ordI (zv v) (zv w)))))) b) a):=propext Iff.rfl
@[congr] theorem jbn {K:AV→Prop} {l l' : List AV} (h:l=l'):vq l K=vq l' K:=by subst h;rfl
attribute [go_sem] Q4
attribute [go_sem ↓] Q4
theorem zab:Good vq:=Va fun as=>by
 unfold vq
 split
 ·exact (qn fun _=>(qn fun _=>(.and fun _=>(.and fun _=>(.and fun _=>(.ret _))))))
 ·exact .of fun K hk=>hk.elim
def Xq (l:List AV) (K:AV→Prop):Prop:=
 match l with
 | [a,b]=>onW (fun v=>onW (fun w=>zs (zv v)≤17179869184∧zs (zv w)≤17179869184∧zv w≠0∧K (.tup [.agg [zb (zcan (zv v / zv w)),zm (zcan (zv v / zv w))],.agg [zb (zcan (zv v % zv w)),zm (zcan (zv v % zv w))],.one (.lit (.int .i64 0))])) b) a
 | _=>False
theorem Z1 (a b:AV) (K:AV→Prop):Xq [a,b] K=(onW (fun v=>onW (fun w=>zs (zv v)≤17179869184∧zs (zv w)≤17179869184∧zv w≠0∧K (.tup [.agg [zb (zcan (zv v / zv w)),zm (zcan (zv v / zv w))],.agg [zb (zcan (zv v % zv w)),zm (zcan (zv v % zv w))],.one (.lit (.int .i64 0))])) b) a):=propext Iff.rfl
@[congr] theorem Ubn {K:AV→Prop} {l l' : List AV} (h:l=l'):Xq l K=Xq l' K:=by subst h;rfl
attribute [go_sem] Z1
attribute [go_sem ↓] Z1
theorem Zac:Good Xq:=Va fun as=>by
 unfold Xq
 split
 ·exact (qn fun _=>(qn fun _=>(.and fun _=>(.and fun _=>(.and fun _=>(.ret _))))))
 ·exact .of fun K hk=>hk.elim
def xV (d:Option Nat) (args:List AV) (h:Nat→HB) (K:AV→(Nat→HB)→Prop):Prop:=
 match args with
 | [.one (.own r ver 1 0 len)]=>∃l post,len=l.length∧h r=⟨ver,some ⟨(l++post).map wc,1,true⟩⟩∧WL l∧len≤68719476736∧
   ∀post',K (.one (.own r ver 1 0 (digs (val l)).length)) (upd h r ⟨ver,some ⟨(digs (val l)++post').map wc,1,true⟩⟩)
 | _=>False
@[congr] theorem ubI {d:Option Nat} {l l' : List AV} {h h' : Nat→HB} {K:AV→(Nat→HB)→Prop} (e1:l=l') (e2:h=h'):xV d l h K=xV d l' h' K:=by subst e1;subst e2;rfl
def Wp (d:Option Nat) (args:List AV) (h:Nat→HB) (K:AV→(Nat→HB)→Prop):Prop:=
 match args with
 | [.one (.own r ver 1 0 len)]=>∃l post,len=l.length∧h r=⟨ver,some ⟨(l++post).map wc,1,true⟩⟩∧WL l∧len≤68719476736∧
   ∀post',K (.one (.own r ver 1 0 (digs (val l / 2)).length)) (upd h r ⟨ver,some ⟨(digs (val l / 2)++post').map wc,1,true⟩⟩)
 | _=>False
@[congr] theorem Xby {d:Option Nat} {l l' : List AV} {h h' : Nat→HB} {K:AV→(Nat→HB)→Prop} (e1:l=l') (e2:h=h'):Wp d l h K=Wp d l' h' K:=by subst e1;subst e2;rfl
def ku (d:Option Nat) (args:List AV) (h:Nat→HB) (K:AV→(Nat→HB)→Prop):Prop:=
 match args with
 | [.one (.own r ver 1 0 len),.one (.own r2 ver2 1 0 len2)]=>∃l post y posty,r≠r2∧len=l.length∧h r=⟨ver,some ⟨(l++post).map wc,1,true⟩⟩∧WL l∧len≤68719476736∧
   len2=y.length∧h r2=⟨ver2,some ⟨(y++posty).map wc,1,true⟩⟩∧WL y∧val y≤val l∧
   K (.tup []) (upd (upd h r2 ⟨ver2,some ⟨(y++posty).map wc,1,true⟩⟩) r ⟨ver,some ⟨(dig l.length (val l-val y)++post).map wc,1,true⟩⟩)
 | [.one (.own r ver 1 0 len),b]=>onWs (fun y=>∃l post,len=l.length∧h r=⟨ver,some ⟨(l++post).map wc,1,true⟩⟩∧WL l∧len≤68719476736∧val y≤val l∧
   K (.tup []) (upd h r ⟨ver,some ⟨(dig l.length (val l-val y)++post).map wc,1,true⟩⟩)) b
 | _=>False
@[congr] theorem Ybz {d:Option Nat} {l l' : List AV} {h h' : Nat→HB} {K:AV→(Nat→HB)→Prop} (e1:l=l') (e2:h=h'):ku d l h K=ku d l' h' K:=by subst e1;subst e2;rfl
end Go.Abs
end
section
namespace Go.Abs
open Go.Num
variable {P:Program} {Γ:Nat→Spec}
def Vg (f0 f1 f2 f3:Nat):AC:=(.seq (.ops false [.u 1 (.box 3 (.t 0)),.m 2 .fa])
 (.fg [1] (.seq (.seq (.ops false [.u 3 (.fa 1 (.t 1)),.u 4 (.ld none 1 false (.t 3)),.u 5 (.len (.t 4)),.u 6 (.bin .eql (.t 5) (.i 0)),.m 7 (.t 6),.w 8 7 true (.fa 2 (.t 1)),.w 9 7 true (.ld none 1 false (.t 8)),.w 10 7 true (.len (.t 9)),.w 11 7 true (.bin .eql (.t 10) (.i 0)),.u 12 (.pick (.t 7) (.t 11) .fa)])
 (.fg [1,12] (.cond (.t 12) (.seq (.ops false [.u 13 (.fa 0 (.t 1)),.u 14 (.ld none 1 false (.t 13)),.u 15 (.un .not (.t 14)),.m 2 (.t 15)])
 .ret) .skip)))
 (.fg [1] (.seq (.ops false [.u 16 (.fa 1 (.t 1)),.u 17 (.ld none 1 false (.t 16)),.u 18 (.call f0 [(.t 17)]),.m 19 (.t 18),.w 20 19 true (.fa 2 (.t 1)),.w 21 19 true (.ld none 1 false (.t 20)),.w 22 19 true (.call f0 [(.t 21)]),.u 23 (.pick (.t 19) (.t 22) .fa),.m 24 (.t 23),.w 25 24 true (.fa 1 (.t 1)),.w 26 24 true (.ld none 1 false (.t 25)),.w 27 24 true (.build [.z [(.lit (.bool false))],.x 1 (.t 26)]),.w 28 24 true (.fa 2 (.t 1)),.w 29 24 true (.ld none 1 false (.t 28)),.w 30 24 true (.build [.z [(.lit (.bool false))],.x 1 (.t 29)]),.w 31 24 true (.call f1 [(.t 27),(.t 30)]),.w 32 24 true (.call f2 []),.w 33 24 true (.call f3 [(.t 31),(.t 32)]),.w 34 24 true (.bin .eql (.t 33) (.i 0)),.u 35 (.pick (.t 24) (.t 34) .fa),.m 2 (.t 35)])
 .ret)))))
def Xg (f0 f1:Nat):AC:=(.seq (.ops false [.u 1 (.box 3 (.t 0)),.u 2 (.alloc [(.lit (.bool false)),.emp]),.u 3 (.alloc [(.lit (.bool false)),.emp])])
 (.fg [1,2,3] (.seq (.seq (.ops false [.u 4 (.ld none 3 true (.t 1)),.u 5 (.call f0 [(.t 4)]),.u 6 (.un .not (.t 5)),.m 7 (.t 6),.w 8 7 false (.fa 1 (.t 1)),.w 9 7 false (.ld none 1 false (.t 8)),.w 10 7 false (.len (.t 9)),.w 11 7 false (.bin .eql (.t 10) (.i 0)),.u 12 (.pick (.t 7) .tr (.t 11))])
 (.fg [1,2,3,12] (.cond (.t 12) (.seq (.ops false [.u 13 (.build [.z [(.lit (.bool false)),.emp]]),.u 14 (.call f1 []),.n (.st none 2 (.t 2) (.t 13)),.n (.st none 2 (.t 3) (.t 14))])
 .ret) .skip)))
 (.fg [1,2,3] (.seq (.ops true [.u 15 (.fa 0 (.t 1)),.u 16 (.ld (some 1) 1 false (.t 15)),.u 17 (.fa 1 (.t 1)),.u 18 (.ld (some 1) 1 false (.t 17)),.u 19 (.build [.x 1 (.t 16),.x 1 (.t 18)]),.u 20 (.fa 2 (.t 1)),.u 21 (.ld (some 1) 1 false (.t 20)),.u 22 (.build [.z [(.lit (.bool false))],.x 1 (.t 21)]),.n (.st (some 2) 2 (.t 2) (.t 19)),.n (.st (some 3) 2 (.t 3) (.t 22))])
 .ret)))))
def vi (f0 f1 f2 f3:Nat):AC:=(.seq (.ops false [.u 2 (.box 2 (.t 0)),.u 3 (.box 2 (.t 1)),.u 4 (.alloc [(.lit (.bool false)),.emp,.emp])])
 (.fg [2,3,4] (.seq (.seq (.ops false [.u 12 (.ld none 2 true (.t 2)),.u 13 (.call f0 [(.t 12)]),.u 14 (.bin .eql (.t 13) (.i 0))])
 (.fg [2,3,4,14] (.cond (.t 14) (.seq (.ops false [.u 15 (.build [.z [(.lit (.bool false)),.emp,.emp]]),.n (.st none 3 (.t 4) (.t 15))])
 .ret) .skip)))
 (.fg [2,3,4] (.seq (.seq (.ops false [.u 16 (.ld none 2 true (.t 3)),.u 17 (.call f0 [(.t 16)]),.u 18 (.bin .lss (.t 17) (.i 0))])
 (.fg [2,3,4,18] (.cond (.t 18) (.ops true [.u 19 (.ld none 2 true (.t 2)),.u 20 (.call f1 [(.t 19)]),.u 21 (.ld none 2 true (.t 3)),.u 22 (.call f1 [(.t 21)]),.n (.st none 2 (.t 2) (.t 20)),.n (.st none 2 (.t 3) (.t 22))]) .skip)))
 (.fg [2,3,4] (.seq (.ops false [.u 23 (.ld none 2 true (.t 2)),.u 24 (.ld none 2 true (.t 3)),.u 25 (.call f2 [(.t 23),(.t 24)]),.u 5 (.alloc [(.lit (.bool false)),.emp]),.n (.st none 2 (.t 5) (.t 25))])
 (.fg [2,3,4,5] (.seq (.ops false [.u 27 (.ld none 2 true (.t 2)),.u 28 (.ld none 2 true (.t 5)),.u 29 (.call f3 [(.t 27),(.t 28)]),.m 26 (.t 29),.u 30 (.ext 0 (.t 26)),.u 31 (.ext 1 (.t 26)),.u 32 (.ext 2 (.t 26)),.u 6 (.alloc [(.lit (.bool false)),.emp]),.u 7 (.alloc [(.lit (.bool false)),.emp]),.n (.st none 2 (.t 6) (.t 30)),.n (.st none 2 (.t 7) (.t 31)),.m 8 (.t 32)])
 (.fg [3,4,5,6] (.seq (.ops false [.u 34 (.ld none 2 true (.t 3)),.u 35 (.ld none 2 true (.t 5)),.u 36 (.call f3 [(.t 34),(.t 35)]),.m 33 (.t 36),.u 37 (.ext 0 (.t 33)),.u 38 (.ext 1 (.t 33)),.u 39 (.ext 2 (.t 33)),.u 9 (.alloc [(.lit (.bool false)),.emp]),.u 10 (.alloc [(.lit (.bool false)),.emp]),.n (.st none 2 (.t 9) (.t 37)),.n (.st none 2 (.t 10) (.t 38)),.m 11 (.t 39)])
 (.fg [4,6,9] (.seq (.ops false [.u 40 (.fa 0 (.t 6)),.u 41 (.ld none 1 false (.t 40)),.u 42 (.fa 1 (.t 6)),.u 43 (.ld none 1 false (.t 42)),.u 44 (.fa 1 (.t 9)),.u 45 (.ld none 1 false (.t 44)),.u 46 (.build [.x 1 (.t 41),.x 1 (.t 43),.x 1 (.t 45)]),.n (.st none 3 (.t 4) (.t 46))])
 .ret)))))))))))))
def vj (f0 f1:Nat):AC:=(.seq (.ops false [.u 2 (.box 3 (.t 0)),.u 3 (.box 3 (.t 1)),.m 4 (.i 0)])
 (.fg [2,3] (.seq (.ops false [.u 5 (.ld none 3 true (.t 2)),.u 6 (.ld none 3 true (.t 3)),.u 7 (.call f0 [(.t 5),(.t 6)]),.u 8 (.call f1 [(.t 7)]),.m 4 (.t 8)])
 .ret)))
def Wh (f0 f1:Nat):AC:=(.seq (.ops false [.u 2 (.box 2 (.t 0)),.u 3 (.box 2 (.t 1)),.u 4 (.alloc [(.lit (.bool false)),.emp,.emp]),.m 5 (.i 0)])
 (.fg [2,3,4] (.seq (.seq (.ops false [.u 6 (.ld none 2 true (.t 3)),.u 7 (.call f0 [(.t 6)]),.u 8 (.bin .eql (.t 7) (.i 0))])
 (.fg [2,3,4,8] (.cond (.t 8) (.seq (.ops false [.u 9 (.build [.z [(.lit (.bool false)),.emp,.emp]]),.n (.st none 3 (.t 4) (.t 9)),.m 5 (.i 8)])
 .ret) .skip)))
 (.fg [2,3,4] (.seq (.ops false [.u 10 (.ld none 2 true (.t 2)),.u 11 (.ld none 2 true (.t 3)),.u 12 (.call f1 [(.t 10),(.t 11)]),.n (.st none 3 (.t 4) (.t 12)),.m 5 (.i 0)])
 .ret)))))
def Ug:AC:=(.seq (.ops false [.m 2 .fa])
 (.fg [0] (.seq (.ops false [.m 3 (.t 0),.u 4 (.len (.t 3)),.u 5 (.bin .gtr (.t 4) (.i 0)),.m 6 (.t 5),.w 7 6 true (.mv (.t 0)),.w 8 6 true (.mv (.t 0)),.w 9 6 true (.len (.t 8)),.w 10 6 true (.bin .sub (.t 9) (.i 1)),.w 11 6 true (.idx 1 (.t 7) (.t 10)),.w 12 6 true (.ld none 1 false (.t 11)),.w 13 6 true (.bin .neq (.t 12) (.c (.one (.lit (.int .u32 0))))),.u 14 (.pick (.t 6) (.t 13) .fa),.m 2 (.t 14)])
 .ret)))
def Qi (f0 f1:Nat):AC:=(.seq (.ops false [.u 4 (.alloc [(.lit (.bool false)),.emp,.emp]),.m 5 (.i 0)])
 (.fg [0,1,4] (.seq (.ops false [.m 6 (.t 0),.u 7 (.call f0 [(.t 6)]),.m 8 (.t 1),.u 9 (.call f0 [(.t 8)]),.u 10 (.call f1 [(.t 7),(.t 9)]),.u 11 (.ext 0 (.t 10)),.u 12 (.ext 1 (.t 10)),.n (.st none 3 (.t 4) (.t 11)),.m 5 (.t 12)])
 .ret)))
theorem yJ {n d N D:Int} {g:Nat} (hd:d≠0) (hn:n≠0) (hN:N=d.sign*n) (hD:0≤D) (e2:D.natAbs=d.natAbs) (eg:g=Int.gcd n d) :
  AV.agg [zb (zcan (N / (g:Int))),zm (zcan (N / (g:Int))),zm (zcan (D / (g:Int)))]=.agg [cb (rcan (Rat.divInt n d)),cn (rcan (Rat.divInt n d)),cd (rcan (Rat.divInt n d))]:=by
 obtain ⟨D',rfl⟩:=Int.eq_ofNat_of_zero_le hD
 simp only [Int.natAbs_natCast]at e2
 subst e2 eg hN
 have hg:0<Int.gcd n d:=Int.gcd_pos_of_ne_zero_left _ hn
 rw [VaB,Xav,kaB,wG hd hn,vaw,vaw,Xbh]
 have hdv:((Int.gcd n d:Nat):Int) ∣ d.sign*n:=Int.dvd_mul_of_dvd_right (Int.gcd_dvd_left _ _)
 obtain ⟨k,hk⟩:=hdv
 have hs:(d.sign*n).natAbs=n.natAbs:=by
  rw [Int.natAbs_mul,Int.natAbs_sign_of_ne_zero hd,Nat.one_mul]
 have e:(d.sign*n / ((Int.gcd n d:Nat):Int))=k:=by rw [hk,Int.mul_ediv_cancel_left _ (by omega)]
 rw [e,←Int.natCast_ediv]
 simp only [zcan,Int.natAbs_natCast]
 have hk2:k.natAbs=n.natAbs / Int.gcd n d:=by
  rw [←hs,hk,Int.natAbs_mul]
  simp only [Int.natAbs_natCast]
  rw [Nat.mul_div_cancel_left _ hg]
 have:decide (k<0)=decide (d.sign*n<0):=by
  rw [decide_eq_decide,hk]
  constructor
  ·intro h;exact Int.mul_neg_of_pos_of_neg (by omega) h
  ·intro h
   rcases Int.lt_or_le k 0 with h' | h'
   ·exact h'
   ·have:=Int.mul_nonneg (show (0:Int)≤((Int.gcd n d:Nat):Int) by omega) h';omega
 rw [hk2,this]
theorem yK (hΓ:Holds P Γ) {f:Nat} (hc:check P f=some (15,Ug.strip,[.tmp 2])):Sound P f (.dat true Xp):=by
 refine va hc yae hΓ (fun args K hcl hfi hG=>?_)
 match args,hG with
 | [a],hG=>
  obtain ⟨l,rfl,hl,hK⟩:=hG
  refine ⟨by simp,?_⟩
  simp only [go_sem,Ug]
  intro _
  refine ⟨fun h _=>⟨by omega,by omega,by omega,?_⟩,fun h=>?_⟩
  ·have hne:l≠[]:=fun e=>by rw [e]at h;simp at h
   rw [show ((l.length:Int)-1).toNat=l.length-1 by omega]
   have e:(!decide (l.getD (l.length-1) 0=0))=decide (l≠[]∧NZ l):=by
    rw [←decide_not,decide_eq_decide]
    unfold NZ
    rw [List.getLast?_eq_getElem?,List.getElem?_eq_getElem (by omega),List.getD_eq_getElem?_getD,List.getElem?_eq_getElem (by omega)]
    simp [hne]
   rw [e];exact hK
  ·have hne:l=[]:=List.eq_nil_of_length_eq_zero (by omega)
   rw [decide_eq_false (fun e=>e.1 hne)]at hK;exact hK
theorem WK (hΓ:Holds P Γ) {f fv fg fo fc:Nat} (hv:Γ fv=.dat true Xp) (hg:Γ fg=.dat false ur) (ho:Γ fo=.dat false xp) (hc' : Γ fc=.dat true vq) (hc:check P f=some (36,(Vg fv fg fo fc).strip,[.tmp 2])):Sound P f (.dat true Yd):=by
 refine va hc XG hΓ (fun args K hcl hfi hG=>?_)
 match args,hG with
 | [a],hG=>
  obtain ⟨x,rfl,hx,hl,hK⟩:=hG
  refine ⟨by simp,?_⟩
  simp only [go_sem,Vg,hv,hg,ho,hc',VaB,Xav,kaB]
  have hl1:x.2.1.length≤4294967296:=Nat.le_trans (Nat.le_max_left _ _) hl
  have hl2:x.2.2.length≤4294967296:=Nat.le_trans (Nat.le_max_right _ _) hl
  have e0:∀{l:List Nat},¬l.length=0→l≠[]:=fun h e=>h (by rw [e];rfl)
  have key:¬(x.2.1=[]∧x.2.2=[])→WL x.2.1∧(x.2.1≠[]∧NZ x.2.1→WL x.2.2∧(x.2.2≠[]∧NZ x.2.2→WL x.2.1∧WL x.2.2∧zs (zv (false,x.2.1))≤17179869184∧zs (zv (false,x.2.2))≤17179869184∧
    zs (((zv (false,x.2.1)).gcd (zv (false,x.2.2)):Nat):Int)≤17179869184∧zs 1≤17179869184∧zs ((((zv (false,x.2.1)).gcd (zv (false,x.2.2)):Nat):Int)-1)≤17179869184∧
    K (AV.one (C.lit (Value.bool (decide (ordI (((zv (false,x.2.1)).gcd (zv (false,x.2.2)):Nat):Int) 1=0))))))∧(¬(x.2.2≠[]∧NZ x.2.2)→K (AV.one (C.lit (Value.bool false)))))∧(¬(x.2.1≠[]∧NZ x.2.1)→K (AV.one (C.lit (Value.bool false)))):=by
   intro hnd
   unfold vldR at hK
   rw [if_neg hnd]at hK
   refine ⟨hx.1,fun h1=>⟨hx.2,fun h2=>?_,fun h2=>?_⟩,fun h1=>?_⟩
   ·have s2:zs (zv (false,x.2.2))≤4294967296:=by rw [zv_f h2.2,W6,Wd hx.2 h2.2];exact hl2
    have hne:zv (false,x.2.2)≠0:=by
     rw [zv_f h2.2];have:=Zc h2.2 h2.1;omega
    have s3:=UaW (v:=zv (false,x.2.1)) hne s2
    have s4:zs 1≤2:=kU (by decide)
    have s5:=WG ((((zv (false,x.2.1)).gcd (zv (false,x.2.2)):Nat):Int)) (-1)
    rw [X6,←Int.sub_eq_add_neg]at s5
    refine ⟨hx.1,hx.2,?_,by omega,by omega,by omega,by omega,?_⟩
    ·rw [zv_f h1.2,W6,Wd hx.1 h1.2];omega
    ·rw [zv_f h1.2,zv_f h2.2]
     have e:decide (ordI (((((val x.2.1:Nat):Int)).gcd ((val x.2.2:Nat):Int):Nat):Int) 1=0)=decide (x.2.1≠[]∧x.2.2≠[]∧NZ x.2.1∧NZ x.2.2∧Nat.gcd (val x.2.1) (val x.2.2)=1):=by
      rw [decide_eq_decide,yaa,Int.gcd_natCast_natCast]
      constructor
      ·intro h;exact ⟨h1.1,h2.1,h1.2,h2.2,by omega⟩
      ·rintro ⟨_,_,_,_,h⟩;omega
     rw [e];exact hK
   ·rw [decide_eq_false (fun h=>h2 ⟨h.2.1,h.2.2.2.1⟩)]at hK;exact hK
   ·rw [decide_eq_false (fun h=>h1 ⟨h.1,h.2.2.1⟩)]at hK;exact hK
  refine fun _=>⟨fun hn _=>⟨fun hd=>?_,fun hd=>key (fun h=>e0 hd h.2)⟩,fun hn=>key (fun h=>e0 hn h.1)⟩
  unfold vldR at hK
  rw [if_pos ⟨List.eq_nil_of_length_eq_zero hn,List.eq_nil_of_length_eq_zero hd⟩]at hK;exact hK
theorem xK (hΓ:Holds P Γ) {f fv fo:Nat} (hv:Γ fv=.dat true Yd) (ho:Γ fo=.dat false xp) (hc:check P f=some (23,(Xg fv fo).strip,[.cell 2 2 true,.cell 3 2 true])):Sound P f (.dat false yd):=by
 refine va hc jJ hΓ (fun args K hcl hfi hG=>?_)
 match args,hG with
 | [a],hG=>
  obtain ⟨x,rfl,hx,hl,hK⟩:=hG
  refine ⟨by simp,?_⟩
  simp only [go_sem,Xg,hv,ho,VaB,Xav,kaB]
  have hl1:x.2.1.length≤4294967296:=Nat.le_trans (Nat.le_max_left _ _) hl
  have hl2:x.2.2.length≤4294967296:=Nat.le_trans (Nat.le_max_right _ _) hl
  have e0:(zcan 0)=(false,[]):=by simp [zcan,Vb]
  have h0:rv x=0→K (AV.tup [AV.agg [C.lit (Value.bool false),C.slice []],AV.agg [zb (zcan 1),zm (zcan 1)]]):=by
   intro h
   rw [h]at hK
   have e1:((0:Rat).num)=0:=rfl
   have e2:((0:Rat).den:Int)=1:=rfl
   rw [e1,e2,e0]at hK;exact hK
  refine ⟨hx,hl,fun hv _=>⟨fun hn=>h0 ?_,fun hn=>?_⟩,fun hv=>h0 (Zab hv)⟩
  ·unfold rv;rw [if_pos hv,List.eq_nil_of_length_eq_zero hn];simp [val,sg]
  ·obtain ⟨p1,p2,p3,p4,p5,p6⟩:=US hx hv (fun e=>hn (by rw [e];rfl))
   have hn0:=Zc p4 (fun e=>hn (by rw [e];rfl))
   rw [p1,p2]at hK
   have e1:zcan (sg x.1 (val x.2.1))=(x.1,x.2.1):=by
    rw [←kL,Wd hx.1 p4]
    have:decide (0<x.2.1.length)=true:=by simp only [decide_eq_true_eq];omega
    rw [this,Bool.and_true]
   have e2:zcan ((val x.2.2:Nat):Int)=(false,x.2.2):=by
    have:=kL false (val x.2.2)
    rw [Wd hx.2 p5,Bool.false_and]at this
    exact this.symm
   rw [e1,e2]at hK;exact hK
theorem UU (hΓ:Holds P Γ) {f fs fn fg fd:Nat} (hs:Γ fs=.dat true kf) (hn:Γ fn=.dat false Us) (hg:Γ fg=.dat false ur) (hd:Γ fd=.dat false Xq) (hc:check P f=some (47,(vi fs fn fg fd).strip,[.cell 4 3 true])):Sound P f (.dat false xh):=by
 refine va hc qN hΓ (fun args K hcl hfi hG=>?_)
 match args,hG with
 | [a,b],hG=>
  obtain ⟨v,rfl,hv,w,rfl,hw,hz,hz',h0,hK⟩:=hG
  refine ⟨by simp,?_⟩
  simp only [go_sem,vi,hs,hn,hg,hd,hv,hw]
  generalize zv v=n at *
  generalize zv w=d at *
  have hd0:=h0
  refine ⟨fun h=>?_,fun h=>?_⟩
  ·rw [Int.sign_eq_zero_iff_zero.1 h,Rat.zero_divInt,wb]at hK;exact hK
  have hn0:n≠0:=fun e=>h (by rw [e];rfl)
  have hg0:((Int.gcd n d:Nat):Int)≠0:=by
   have:=Int.gcd_pos_of_ne_zero_left d hn0;omega
  have hgz:zs ((Int.gcd n d:Nat):Int)≤17179869184:=UaW hd0 hz'
  simp only [Int.gcd_neg,Int.neg_gcd,X6,xaV]
  refine ⟨fun hdn=>⟨by omega,by omega,hz,hz',hz,hgz,hg0,hz',hgz,hg0,?_⟩,fun hdn=>⟨hz,hz',hz,hgz,hg0,hz',hgz,hg0,?_⟩⟩
  ·rw [yJ hd0 hn0 (by rw [Int.sign_eq_neg_one_of_neg hdn];omega) (by omega) (by omega) rfl];exact hK
  ·rw [yJ hd0 hn0 (by rw [Int.sign_eq_one_of_pos (by omega)];omega) (by omega) (by omega) rfl];exact hK
theorem QX (hΓ:Holds P Γ) {f fs fg:Nat} (hs:Γ fs=.dat false um) (hg:Γ fg=.dat true ug) (hc:check P f=some (9,(vj fs fg).strip,[.tmp 4])):Sound P f (.dat true Zf):=by
 refine va hc qI hΓ (fun args K hcl hfi hG=>?_)
 match args,hG with
 | [a,b],hG=>
  obtain ⟨x,rfl,hx,y,rfl,hy,hl,hl',hK⟩:=hG
  refine ⟨by simp,?_⟩
  simp only [go_sem,vj,hs,hg,hx,hy]
  have hs1:=zg (rv x) (rv y)
  have h1:=zc hx
  have h2:=zc hy
  have e:ordQ (rv x-rv y) 0=ordQ (rv x) (rv y):=by
   unfold ordQ
   have e1:(rv x-rv y<0)=(rv x<rv y):=propext ⟨fun h=>by have:=(Rat.sub_lt_iff (a:=rv x) (c:=rv y) (b:=0)).1 h;rwa [Rat.zero_add]at this,fun h=>(Rat.sub_lt_iff (a:=rv x) (c:=rv y) (b:=0)).2 (by rwa [Rat.zero_add])⟩
   have e2:(0<rv x-rv y)=(rv y<rv x):=propext (Rat.lt_iff_sub_pos _ _).symm
   simp only [e1,e2]
  rw [e]
  exact ⟨by omega,by omega,by omega,hK⟩
end Go.Abs
end
section
namespace Go.Num
open Go.Abs
theorem rz_0:rz 0=0:=by unfold rz;rw [wb];rfl
theorem rz_1:rz 1≤2:=by
 have:=za4 1
 have h1:zs 1≤2:=kU (by decide)
 have e:((1:Int):Rat)=1:=rfl
 rw [e]at this
 omega
theorem Ua (p q:Rat):rz (p*q)≤rz p+rz q+2:=by
 rw [←YX]
 have n1:=YG p
 have n2:=YG q
 have d1:=YI p
 have d2:=YI q
 have m1:=Xo p.num q.num
 have m2:=Xo (p.den:Int) (q.den:Int)
 refine zJ (by exact Int.mul_ne_zero (zx _) (zx _)) (by omega) (by omega)
theorem YW {p q:Rat} (hq:q≠0):Rat.divInt (p.num*q.den) (p.den*q.num)=p / q:=by
 have hn:q.num≠0:=JaC hq
 have e1:(p.num:Rat) / (p.den:Rat)=p:=by have:=Rat.num_divInt_den p;rw [Rat.divInt_eq_div]at this;exact this
 have e2:(q.num:Rat) / (q.den:Rat)=q:=by have:=Rat.num_divInt_den q;rw [Rat.divInt_eq_div]at this;exact this
 have d1:(p.den:Rat)≠0:=by exact_mod_cast p.den_nz
 have d2:(q.den:Rat)≠0:=by exact_mod_cast q.den_nz
 have d3:(q.num:Rat)≠0:=by exact_mod_cast hn
 rw [Rat.divInt_eq_div]
 simp only [Rat.intCast_mul,Rat.intCast_natCast]
 have f1:(p.num:Rat)=p*(p.den:Rat):=by grind
 have f2:(q.num:Rat)=q*(q.den:Rat):=by grind
 rw [f1,f2]
 grind
theorem vN (p q:Rat):rz (p / q)≤rz p+rz q+2:=by
 by_cases hq:q=0
 ·subst hq
  rw [Rat.div_def,Rat.inv_zero,Rat.mul_zero,rz_0];omega
 ·rw [←YW hq]
  have n1:=YG p
  have n2:=YG q
  have d1:=YI p
  have d2:=YI q
  have m1:=Xo p.num (q.den:Int)
  have m2:=Xo (p.den:Int) q.num
  refine zJ (by exact Int.mul_ne_zero (zx _) (JaC hq)) (by omega) (by omega)
theorem wa8 (p q:Rat):Rat.divInt (p.num*q.den) (p.den*q.num)=p / q:=by
 by_cases hq:q=0
 ·subst hq
  rw [show (0:Rat).num=0 from rfl,Int.mul_zero,Rat.divInt_zero,Rat.div_def,Rat.inv_zero,Rat.mul_zero]
 ·exact YW hq
end Go.Num
namespace Go.Abs
open Go.Num
variable {P:Program} {Γ:Nat→Spec}
def rQ (q:Rat):AV:=.agg [cb (rcan q),cn (rcan q),cd (rcan q)]
theorem QaZ (q:Rat):rQ q=.agg [cb (rcan q),cn (rcan q),cd (rcan q)]:=eq_of_heq (HEq.refl _)
attribute [go_sem] QaZ
attribute [go_sem ↓] QaZ
def Xf (l:List AV) (K:AV→Prop):Prop:=
 match l with
 | [a,b]=>onR (fun x=>onR (fun y=>rl x≤4294967296∧rl y≤4294967296∧K (rQ (rv x*rv y))) b) a
 | _=>False
theorem vaF (a b:AV) (K:AV→Prop):Xf [a,b] K=(onR (fun x=>onR (fun y=>rl x≤4294967296∧rl y≤4294967296∧K (rQ (rv x*rv y))) b) a):=propext Iff.rfl
@[congr] theorem xbE {K:AV→Prop} {l l' : List AV} (h:l=l'):Xf l K=Xf l' K:=by subst h;rfl
attribute [go_sem] vaF
attribute [go_sem ↓] vaF
theorem UaN:Good Xf:=Va fun as=>by
 unfold Xf
 split
 ·exact (wg fun _=>(wg fun _=>(.and fun _=>(.and fun _=>(.ret _)))))
 ·exact .of fun K hk=>hk.elim
def uq (tE:Nat) (l:List AV) (K:AV→Prop):Prop:=
 match l with
 | [a,b]=>onW (fun v=>onW (fun w=>zs (zv v)≤17179869184∧zs (zv w)≤17179869184∧K (.tup [rQ (Rat.divInt (zv v) (zv w)),errV tE (if zv w=0 then 8 else 0)])) b) a
 | _=>False
theorem qZ (tE:Nat) (a b:AV) (K:AV→Prop):uq tE [a,b] K=(onW (fun v=>onW (fun w=>zs (zv v)≤17179869184∧zs (zv w)≤17179869184∧K (.tup [rQ (Rat.divInt (zv v) (zv w)),errV tE (if zv w=0 then 8 else 0)])) b) a):=propext Iff.rfl
@[congr] theorem Xbn (tE:Nat) {K:AV→Prop} {l l' : List AV} (h:l=l'):uq tE l K=uq tE l' K:=by subst h;rfl
attribute [go_sem] qZ
attribute [go_sem ↓] qZ
theorem yab (tE:Nat):Good (uq tE):=Va fun as=>by
 unfold uq
 split
 ·exact (qn fun _=>(qn fun _=>(.and fun _=>(.and fun _=>(.ret _)))))
 ·exact .of fun K hk=>hk.elim
def Vv (tE:Nat) (l:List AV) (K:AV→Prop):Prop:=
 match l with
 | [a,b]=>onR (fun x=>onR (fun y=>rl x≤4294967296∧rl y≤4294967296∧K (.tup [rQ (rv x / rv y),errV tE (if rv y=0 then 8 else 0)])) b) a
 | _=>False
theorem Qat (tE:Nat) (a b:AV) (K:AV→Prop):Vv tE [a,b] K=(onR (fun x=>onR (fun y=>rl x≤4294967296∧rl y≤4294967296∧K (.tup [rQ (rv x / rv y),errV tE (if rv y=0 then 8 else 0)])) b) a):=propext Iff.rfl
@[congr] theorem vby (tE:Nat) {K:AV→Prop} {l l' : List AV} (h:l=l'):Vv tE l K=Vv tE l' K:=by subst h;rfl
attribute [go_sem] Qat
attribute [go_sem ↓] Qat
theorem vaB (tE:Nat):Good (Vv tE):=Va fun as=>by
 unfold Vv
 split
 ·exact (wg fun _=>(wg fun _=>(.and fun _=>(.and fun _=>(.ret _)))))
 ·exact .of fun K hk=>hk.elim
def yn (l:List AV) (K:AV→Prop):Prop:=
 match l with
 | [a,b]=>onW (fun v=>onW (fun w=>zs (zv v)≤17179869184∧zs (zv w)≤17179869184∧K (.tup [rQ (Rat.divInt (zv v) (zv w)),.one (.lit (.int .i64 (if zv w=0 then 8 else 0)))])) b) a
 | _=>False
theorem Z0 (a b:AV) (K:AV→Prop):yn [a,b] K=(onW (fun v=>onW (fun w=>zs (zv v)≤17179869184∧zs (zv w)≤17179869184∧K (.tup [rQ (Rat.divInt (zv v) (zv w)),.one (.lit (.int .i64 (if zv w=0 then 8 else 0)))])) b) a):=propext Iff.rfl
@[congr] theorem Jbr {K:AV→Prop} {l l' : List AV} (h:l=l'):yn l K=yn l' K:=by subst h;rfl
attribute [go_sem] Z0
attribute [go_sem ↓] Z0
theorem kaf:Good yn:=Va fun as=>by
 unfold yn
 split
 ·exact (qn fun _=>(qn fun _=>(.and fun _=>(.and fun _=>(.ret _)))))
 ·exact .of fun K hk=>hk.elim
def xw (l:List AV) (K:AV→Prop):Prop:=
 match l with
 | [a,b]=>onR (fun x=>onR (fun y=>rl x≤1073741824∧rl y≤1073741824∧K (.tup [rQ (rv x / rv y),.one (.lit (.int .i64 (if rv y=0 then 8 else 0)))])) b) a
 | _=>False
theorem qar (a b:AV) (K:AV→Prop):xw [a,b] K=(onR (fun x=>onR (fun y=>rl x≤1073741824∧rl y≤1073741824∧K (.tup [rQ (rv x / rv y),.one (.lit (.int .i64 (if rv y=0 then 8 else 0)))])) b) a):=propext Iff.rfl
@[congr] theorem Jby {K:AV→Prop} {l l' : List AV} (h:l=l'):xw l K=xw l' K:=by subst h;rfl
attribute [go_sem] qar
attribute [go_sem ↓] qar
theorem Vax:Good xw:=Va fun as=>by
 unfold xw
 split
 ·exact (wg fun _=>(wg fun _=>(.and fun _=>(.and fun _=>(.ret _)))))
 ·exact .of fun K hk=>hk.elim
def Wm (f0 f1 f2:Nat):AC:=(.seq (.ops false [.u 2 (.box 3 (.t 0)),.u 3 (.box 3 (.t 1)),.u 4 (.alloc [(.lit (.bool false)),.emp,.emp])])
 (.fg [2,3,4] (.seq (.ops false [.u 10 (.ld none 3 true (.t 2)),.u 11 (.call f0 [(.t 10)]),.m 9 (.t 11),.u 12 (.ext 0 (.t 9)),.u 13 (.ext 1 (.t 9)),.u 5 (.alloc [(.lit (.bool false)),.emp]),.u 6 (.alloc [(.lit (.bool false)),.emp]),.n (.st none 2 (.t 5) (.t 12)),.n (.st none 2 (.t 6) (.t 13))])
 (.fg [3,4,5,6] (.seq (.ops false [.u 15 (.ld none 3 true (.t 3)),.u 16 (.call f0 [(.t 15)]),.m 14 (.t 16),.u 17 (.ext 0 (.t 14)),.u 18 (.ext 1 (.t 14)),.u 7 (.alloc [(.lit (.bool false)),.emp]),.u 8 (.alloc [(.lit (.bool false)),.emp]),.n (.st none 2 (.t 7) (.t 17)),.n (.st none 2 (.t 8) (.t 18))])
 (.fg [4,5,6,7,8] (.seq (.ops true [.u 19 (.ld none 2 true (.t 5)),.u 20 (.ld none 2 true (.t 7)),.u 21 (.call f1 [(.t 19),(.t 20)]),.u 22 (.ld none 2 true (.t 6)),.u 23 (.ld none 2 true (.t 8)),.u 24 (.call f1 [(.t 22),(.t 23)]),.u 25 (.call f2 [(.t 21),(.t 24)]),.n (.st none 3 (.t 4) (.t 25))])
 .ret)))))))
def kr (f0 f1 f2:Nat):AC:=(.seq (.ops false [.u 2 (.box 3 (.t 0)),.u 3 (.box 3 (.t 1)),.u 4 (.alloc [(.lit (.bool false)),.emp,.emp]),.m 5 (.c (.one (.lit .nilIface)))])
 (.fg [2,3,4] (.seq (.ops false [.u 11 (.ld none 3 true (.t 2)),.u 12 (.call f0 [(.t 11)]),.m 10 (.t 12),.u 13 (.ext 0 (.t 10)),.u 14 (.ext 1 (.t 10)),.u 6 (.alloc [(.lit (.bool false)),.emp]),.u 7 (.alloc [(.lit (.bool false)),.emp]),.n (.st none 2 (.t 6) (.t 13)),.n (.st none 2 (.t 7) (.t 14))])
 (.fg [3,4,6,7] (.seq (.ops false [.u 16 (.ld none 3 true (.t 3)),.u 17 (.call f0 [(.t 16)]),.m 15 (.t 17),.u 18 (.ext 0 (.t 15)),.u 19 (.ext 1 (.t 15)),.u 8 (.alloc [(.lit (.bool false)),.emp]),.u 9 (.alloc [(.lit (.bool false)),.emp]),.n (.st none 2 (.t 8) (.t 18)),.n (.st none 2 (.t 9) (.t 19))])
 (.fg [4,6,7,8,9] (.seq (.ops true [.u 20 (.ld none 2 true (.t 6)),.u 21 (.ld none 2 true (.t 9)),.u 22 (.call f1 [(.t 20),(.t 21)]),.u 23 (.ld none 2 true (.t 7)),.u 24 (.ld none 2 true (.t 8)),.u 25 (.call f1 [(.t 23),(.t 24)]),.u 26 (.call f2 [(.t 22),(.t 25)]),.u 27 (.ext 0 (.t 26)),.u 28 (.ext 1 (.t 26)),.n (.st none 3 (.t 4) (.t 27)),.m 5 (.t 28)])
 .ret)))))))
def Jj (f0 f1 f2:Nat):AC:=(.seq (.ops false [.u 2 (.box 3 (.t 0)),.u 3 (.box 3 (.t 1)),.u 4 (.alloc [(.lit (.bool false)),.emp,.emp]),.m 5 (.i 0)])
 (.fg [2,3,4] (.seq (.ops false [.u 11 (.ld none 3 true (.t 2)),.u 12 (.call f0 [(.t 11)]),.m 10 (.t 12),.u 13 (.ext 0 (.t 10)),.u 14 (.ext 1 (.t 10)),.u 6 (.alloc [(.lit (.bool false)),.emp]),.u 7 (.alloc [(.lit (.bool false)),.emp]),.n (.st none 2 (.t 6) (.t 13)),.n (.st none 2 (.t 7) (.t 14))])
 (.fg [3,4,6,7] (.seq (.ops false [.u 16 (.ld none 3 true (.t 3)),.u 17 (.call f0 [(.t 16)]),.m 15 (.t 17),.u 18 (.ext 0 (.t 15)),.u 19 (.ext 1 (.t 15)),.u 8 (.alloc [(.lit (.bool false)),.emp]),.u 9 (.alloc [(.lit (.bool false)),.emp]),.n (.st none 2 (.t 8) (.t 18)),.n (.st none 2 (.t 9) (.t 19))])
 (.fg [4,6,7,8,9] (.seq (.ops true [.u 20 (.ld none 2 true (.t 6)),.u 21 (.ld none 2 true (.t 9)),.u 22 (.call f1 [(.t 20),(.t 21)]),.u 23 (.ld none 2 true (.t 7)),.u 24 (.ld none 2 true (.t 8)),.u 25 (.call f1 [(.t 23),(.t 24)]),.u 26 (.call f2 [(.t 22),(.t 25)]),.u 27 (.ext 0 (.t 26)),.u 28 (.ext 1 (.t 26)),.n (.st none 3 (.t 4) (.t 27)),.m 5 (.t 28)])
 .ret)))))))
theorem VP (hΓ:Holds P Γ) {f fp fm ff:Nat} (hp:Γ fp=.dat false yd) (hm:Γ fm=.dat false Zs) (hf:Γ ff=.dat false xh) (hc:check P f=some (26,(Wm fp fm ff).strip,[.cell 4 3 true])):Sound P f (.dat false Xf):=by
 refine va hc UaN hΓ (fun args K hcl hfi hG=>?_)
 match args,hG with
 | [a,b],hG=>
  obtain ⟨x,rfl,hx,y,rfl,hy,hl,hl',hK⟩:=hG
  refine ⟨by simp,?_⟩
  simp only [go_sem,Wm,hp,hm,hf,hx,hy]
  have n1:=zy hx
  have d1:=vx hx
  have n2:=zy hy
  have d2:=vx hy
  have m1:=Xo (rv x).num (rv y).num
  have m3:=Xo ((rv x).den:Int) (rv y).den
  rw [Int.natCast_mul,YX]
  exact ⟨hl,hl',by omega,by omega,by omega,by omega,by omega,by omega,Int.mul_ne_zero (zx _) (zx _),hK⟩
theorem yX (hΓ:Holds P Γ) {f fs ff tE:Nat} (hs:Γ fs=.dat true kf) (hf:Γ ff=.dat false xh) (hc:check P f=some (14,(qp fs ff tE).strip,[.cell 4 3 true,.tmp 5])):Sound P f (.dat false (uq tE)):=by
 refine va hc (yab tE) hΓ (fun args K hcl hfi hG=>?_)
 match args,hG with
 | [a,b],hG=>
  obtain ⟨v,rfl,hv,w,rfl,hw,hz,hz',hK⟩:=hG
  refine ⟨by simp,?_⟩
  simp only [go_sem,qp,hs,hf,hv,hw]
  refine ⟨fun e=>?_,fun e=>?_⟩
  ·have h0:=Int.sign_eq_zero_iff_zero.1 e
   rw [if_pos h0,h0,Rat.divInt_zero,xc tE (by decide),QaZ,wb]at hK
   exact hK
  ·have h0:zv w≠0:=fun h=>e (by rw [h];rfl)
   rw [if_neg h0,ub]at hK
   exact ⟨hz,hz',h0,hK⟩
theorem Jad (hΓ:Holds P Γ) {f fp fm ff tE:Nat} (hp:Γ fp=.dat false yd) (hm:Γ fm=.dat false Zs) (hf:Γ ff=.dat false (uq tE)) (hc:check P f=some (29,(kr fp fm ff).strip,[.cell 4 3 true,.tmp 5])):Sound P f (.dat false (Vv tE)):=by
 refine va hc (vaB tE) hΓ (fun args K hcl hfi hG=>?_)
 match args,hG with
 | [a,b],hG=>
  obtain ⟨x,rfl,hx,y,rfl,hy,hl,hl',hK⟩:=hG
  refine ⟨by simp,?_⟩
  simp only [go_sem,kr,hp,hm,hf,hx,hy]
  have n1:=zy hx
  have d1:=vx hx
  have n2:=zy hy
  have d2:=vx hy
  have m1:=Xo (rv x).num ((rv y).den:Int)
  have m3:=Xo ((rv x).den:Int) (rv y).num
  have e:((((rv x).den:Int)*(rv y).num=0))=(rv y=0):=propext ⟨fun h=>by
   rcases Int.mul_eq_zero.1 h with h | h
   ·exact absurd h (zx _)
   ·exact Rat.num_eq_zero.1 h,fun h=>by rw [h];exact Int.mul_zero _⟩
  simp only [e]
  rw [wa8]
  exact ⟨hl,hl',by omega,by omega,by omega,by omega,by omega,by omega,hK⟩
theorem Z7 (hΓ:Holds P Γ) {f fs ff:Nat} (hs:Γ fs=.dat true kf) (hf:Γ ff=.dat false xh) (hc:check P f=some (13,(Wh fs ff).strip,[.cell 4 3 true,.tmp 5])):Sound P f (.dat false yn):=by
 refine va hc kaf hΓ (fun args K hcl hfi hG=>?_)
 match args,hG with
 | [a,b],hG=>
  obtain ⟨v,rfl,hv,w,rfl,hw,hz,hz',hK⟩:=hG
  refine ⟨by simp,?_⟩
  simp only [go_sem,Wh,hs,hf,hv,hw]
  refine ⟨fun e=>?_,fun e=>?_⟩
  ·have h0:=Int.sign_eq_zero_iff_zero.1 e
   rw [if_pos h0,h0,Rat.divInt_zero,QaZ,wb]at hK
   exact hK
  ·have h0:zv w≠0:=fun h=>e (by rw [h];rfl)
   rw [if_neg h0]at hK
   exact ⟨hz,hz',h0,hK⟩
theorem Vab (hΓ:Holds P Γ) {f fp fm ff:Nat} (hp:Γ fp=.dat false yd) (hm:Γ fm=.dat false Zs) (hf:Γ ff=.dat false yn) (hc:check P f=some (29,(Jj fp fm ff).strip,[.cell 4 3 true,.tmp 5])):Sound P f (.dat false xw):=by
 refine va hc Vax hΓ (fun args K hcl hfi hG=>?_)
 match args,hG with
 | [a,b],hG=>
  obtain ⟨x,rfl,hx,y,rfl,hy,hl,hl',hK⟩:=hG
  refine ⟨by simp,?_⟩
  simp only [go_sem,Jj,hp,hm,hf,hx,hy]
  have n1:=zy hx
  have d1:=vx hx
  have n2:=zy hy
  have d2:=vx hy
  have m1:=Xo (rv x).num ((rv y).den:Int)
  have m3:=Xo ((rv x).den:Int) (rv y).num
  have e:((((rv x).den:Int)*(rv y).num=0))=(rv y=0):=propext ⟨fun h=>by
   rcases Int.mul_eq_zero.1 h with h | h
   ·exact absurd h (zx _)
   ·exact Rat.num_eq_zero.1 h,fun h=>by rw [h];exact Int.mul_zero _⟩
  simp only [e]
  rw [wa8]
  exact ⟨by omega,by omega,by omega,by omega,by omega,by omega,by omega,by omega,hK⟩
end Go.Abs
end
section
namespace Go.Num
open Go.Abs
abbrev V2:=Rat×Rat
abbrev TnQ:=Rat×Bool
abbrev PsQ:=TnQ×V2
def tv (t:Tn):TnQ:=(rv t.1,t.2)
def pv (p:Ps):PsQ:=(tv p.1,av p.2)
def subQ (a b:V2):V2:=(a.1-b.1,a.2-b.2)
def addQ (a b:V2):V2:=(a.1+b.1,a.2+b.2)
def negQ (a:V2):V2:=(-a.1,-a.2)
def crossQ (a b:V2):Rat:=a.1*b.2-a.2*b.1
def sqQ (a:V2):Rat:=a.1*a.1+a.2*a.2
def cosQ (t:TnQ):Rat:=if t.2=true then -1 else (1-t.1*t.1) / (1+t.1*t.1)
def sinQ (t:TnQ):Rat:=if t.2=true then 0 else (t.1+t.1) / (1+t.1*t.1)
def rotQ (t:TnQ) (q:V2):V2:=(cosQ t*q.1-sinQ t*q.2,sinQ t*q.1+cosQ t*q.2)
def appQ (p:PsQ) (q:V2):V2:=addQ (rotQ p.1 q) p.2
def backQ (t:TnQ):TnQ:=(-t.1,t.2)
def invQ (p:PsQ):PsQ:=(backQ p.1,rotQ (backQ p.1) (negQ p.2))
def tchk (t:Tn):Nat:=if vldR t.1=true∧¬(t.2=true∧rv t.1≠0) then 0 else 2
def avld (a:Arc):Bool:=vldR a.1 && vldR a.2
def pvld (p:Ps):Bool:=decide (tchk p.1=0) && avld p.2
def zq (a:V2):Nat:=max (rz a.1) (rz a.2)
theorem uo (a b:V2):zq (subQ a b)≤zq a+zq b+2:=by
 have h1:=zg a.1 b.1
 have h2:=zg a.2 b.2
 unfold zq subQ;simp only;omega
theorem Ya4 (a b:V2):zq (addQ a b)≤zq a+zq b+2:=by
 have h1:=yr a.1 b.1
 have h2:=yr a.2 b.2
 unfold zq addQ;simp only;omega
theorem UaZ (a b:V2):rz (crossQ a b)≤2*zq a+2*zq b+6:=by
 have h1:=Ua a.1 b.2
 have h2:=Ua a.2 b.1
 have h3:=zg (a.1*b.2) (a.2*b.1)
 unfold zq crossQ;omega
theorem Zx (a:V2):rz (sqQ a)≤4*zq a+6:=by
 have h1:=Ua a.1 a.1
 have h2:=Ua a.2 a.2
 have h3:=yr (a.1*a.1) (a.2*a.2)
 unfold zq sqQ;omega
theorem wbh:rz (-1)≤2:=by rw [show (-1:Rat) = -(1:Rat) from rfl,Uw];exact rz_1
theorem Xj {a:Arc} (h:WLA a):zq (av a)≤al a:=by
 have h1:=zc h.1
 have h2:=zc h.2
 unfold zq av al;simp only;omega
end Go.Num
end
section
namespace Go.Abs
open Go.Num
variable {P:Program} {Γ:Nat→Spec}
def pQ (x:V2):AV:=.agg [cb (rcan x.1),cn (rcan x.1),cd (rcan x.1),cb (rcan x.2),cn (rcan x.2),cd (rcan x.2)]
theorem uR (x:V2):pQ x=.agg [cb (rcan x.1),cn (rcan x.1),cd (rcan x.1),cb (rcan x.2),cn (rcan x.2),cd (rcan x.2)]:=eq_of_heq (HEq.refl _)
def tQ (t:TnQ):AV:=.agg [cb (rcan t.1),cn (rcan t.1),cd (rcan t.1),.lit (.bool t.2)]
theorem wbl (t:TnQ):tQ t=.agg [cb (rcan t.1),cn (rcan t.1),cd (rcan t.1),.lit (.bool t.2)]:=eq_of_heq (HEq.refl _)
theorem kI (a b:Rat):al (rcan a,rcan b)=max (rz a) (rz b):=rfl
theorem xa6 (a b:Rat):WLA (rcan a,rcan b)=True:=eq_true ⟨qe _,qe _⟩
attribute [go_sem] uR wbl xa6
attribute [go_sem ↓] uR wbl xa6
def jh (l:List AV) (K:AV→Prop):Prop:=
 match l with
 | [a]=>onA (fun p=>al p≤100000000∧K (.one (.lit (.bool (avld p))))) a
 | _=>False
theorem jX (a:AV) (K:AV→Prop):jh [a] K=(onA (fun p=>al p≤100000000∧K (.one (.lit (.bool (avld p))))) a):=propext Iff.rfl
@[congr] theorem ubv {K:AV→Prop} {l l' : List AV} (h:l=l'):jh l K=jh l' K:=by subst h;rfl
attribute [go_sem] jX
attribute [go_sem ↓] jX
theorem Vad:Good jh:=Va fun as=>by
 unfold jh
 split
 ·exact (zj fun _=>(.and fun _=>(.ret _)))
 ·exact .of fun K hk=>hk.elim
def qh (l:List AV) (K:AV→Prop):Prop:=
 match l with
 | [a,b]=>onA (fun p=>onA (fun q=>al p≤100000000∧al q≤100000000∧K (pQ (subQ (av p) (av q)))) b) a
 | _=>False
theorem xaj (a b:AV) (K:AV→Prop):qh [a,b] K=(onA (fun p=>onA (fun q=>al p≤100000000∧al q≤100000000∧K (pQ (subQ (av p) (av q)))) b) a):=propext Iff.rfl
@[congr] theorem qby {K:AV→Prop} {l l' : List AV} (h:l=l'):qh l K=qh l' K:=by subst h;rfl
attribute [go_sem] xaj
attribute [go_sem ↓] xaj
theorem kaA:Good qh:=Va fun as=>by
 unfold qh
 split
 ·exact (zj fun _=>(zj fun _=>(.and fun _=>(.and fun _=>(.ret _)))))
 ·exact .of fun K hk=>hk.elim
def wm (l:List AV) (K:AV→Prop):Prop:=
 match l with
 | [a,b]=>onA (fun p=>onA (fun q=>al p≤100000000∧al q≤100000000∧K (pQ (addQ (av p) (av q)))) b) a
 | _=>False
theorem Qak (a b:AV) (K:AV→Prop):wm [a,b] K=(onA (fun p=>onA (fun q=>al p≤100000000∧al q≤100000000∧K (pQ (addQ (av p) (av q)))) b) a):=propext Iff.rfl
@[congr] theorem kby {K:AV→Prop} {l l' : List AV} (h:l=l'):wm l K=wm l' K:=by subst h;rfl
attribute [go_sem] Qak
attribute [go_sem ↓] Qak
theorem uav:Good wm:=Va fun as=>by
 unfold wm
 split
 ·exact (zj fun _=>(zj fun _=>(.and fun _=>(.and fun _=>(.ret _)))))
 ·exact .of fun K hk=>hk.elim
def jq (l:List AV) (K:AV→Prop):Prop:=
 match l with
 | [a,b]=>onA (fun p=>onA (fun q=>al p≤100000000∧al q≤100000000∧K (rQ (crossQ (av p) (av q)))) b) a
 | _=>False
theorem JX (a b:AV) (K:AV→Prop):jq [a,b] K=(onA (fun p=>onA (fun q=>al p≤100000000∧al q≤100000000∧K (rQ (crossQ (av p) (av q)))) b) a):=propext Iff.rfl
@[congr] theorem ubr {K:AV→Prop} {l l' : List AV} (h:l=l'):jq l K=jq l' K:=by subst h;rfl
attribute [go_sem] JX
attribute [go_sem ↓] JX
theorem xac:Good jq:=Va fun as=>by
 unfold jq
 split
 ·exact (zj fun _=>(zj fun _=>(.and fun _=>(.and fun _=>(.ret _)))))
 ·exact .of fun K hk=>hk.elim
def JI (l:List AV) (K:AV→Prop):Prop:=
 match l with
 | [a]=>onA (fun p=>al p≤100000000∧K (rQ (sqQ (av p)))) a
 | _=>False
theorem Qa7 (a:AV) (K:AV→Prop):JI [a] K=(onA (fun p=>al p≤100000000∧K (rQ (sqQ (av p)))) a):=propext Iff.rfl
@[congr] theorem kbI {K:AV→Prop} {l l' : List AV} (h:l=l'):JI l K=JI l' K:=by subst h;rfl
attribute [go_sem] Qa7
attribute [go_sem ↓] Qa7
theorem vaY:Good JI:=Va fun as=>by
 unfold JI
 split
 ·exact (zj fun _=>(.and fun _=>(.ret _)))
 ·exact .of fun K hk=>hk.elim
def Qw (l:List AV) (K:AV→Prop):Prop:=
 match l with
 | [a,b]=>onA (fun p=>onA (fun q=>al p≤100000000∧al q≤100000000∧K (.one (.lit (.bool (decide (av p=av q)))))) b) a
 | _=>False
theorem kal (a b:AV) (K:AV→Prop):Qw [a,b] K=(onA (fun p=>onA (fun q=>al p≤100000000∧al q≤100000000∧K (.one (.lit (.bool (decide (av p=av q)))))) b) a):=propext Iff.rfl
@[congr] theorem Zbz {K:AV→Prop} {l l' : List AV} (h:l=l'):Qw l K=Qw l' K:=by subst h;rfl
attribute [go_sem] kal
attribute [go_sem ↓] kal
theorem jay:Good Qw:=Va fun as=>by
 unfold Qw
 split
 ·exact (zj fun _=>(zj fun _=>(.and fun _=>(.and fun _=>(.ret _)))))
 ·exact .of fun K hk=>hk.elim
def kaK (l:List AV) (K:AV→Prop):Prop:=
 match l with
 | [a]=>onA (fun p=>al p≤100000000∧K (pQ (negQ (av p)))) a
 | _=>False
theorem qaY (a:AV) (K:AV→Prop):kaK [a] K=(onA (fun p=>al p≤100000000∧K (pQ (negQ (av p)))) a):=propext Iff.rfl
@[congr] theorem UbD {K:AV→Prop} {l l' : List AV} (h:l=l'):kaK l K=kaK l' K:=by subst h;rfl
attribute [go_sem] qaY
attribute [go_sem ↓] qaY
def jT (l:List AV) (K:AV→Prop):Prop:=
 match l with
 | [a]=>onA (fun p=>al p≤100000000∧K (pQ (av p))) a
 | _=>False
theorem XZ (a:AV) (K:AV→Prop):jT [a] K=(onA (fun p=>al p≤100000000∧K (pQ (av p))) a):=propext Iff.rfl
@[congr] theorem Xbt {K:AV→Prop} {l l' : List AV} (h:l=l'):jT l K=jT l' K:=by subst h;rfl
attribute [go_sem] XZ
attribute [go_sem ↓] XZ
def vu (l:List AV) (K:AV→Prop):Prop:=
 match l with
 | [a]=>onR (fun x=>rl x≤4294967296∧K (.one (.lit (.bool (decide (rv x=0)))))) a
 | _=>False
theorem Zau (a:AV) (K:AV→Prop):vu [a] K=(onR (fun x=>rl x≤4294967296∧K (.one (.lit (.bool (decide (rv x=0)))))) a):=propext Iff.rfl
@[congr] theorem Zby {K:AV→Prop} {l l' : List AV} (h:l=l'):vu l K=vu l' K:=by subst h;rfl
attribute [go_sem] Zau
attribute [go_sem ↓] Zau
theorem xaw:Good vu:=Va fun as=>by
 unfold vu
 split
 ·exact (wg fun _=>(.and fun _=>(.ret _)))
 ·exact .of fun K hk=>hk.elim
def Wae (l:List AV) (K:AV→Prop):Prop:=
 match l with
 | [a,b]=>onR (fun x=>onR (fun y=>rl x≤1073741824∧rl y≤1073741824∧K (rQ (rv x / rv y))) b) a
 | _=>False
theorem kaj (a b:AV) (K:AV→Prop):Wae [a,b] K=(onR (fun x=>onR (fun y=>rl x≤1073741824∧rl y≤1073741824∧K (rQ (rv x / rv y))) b) a):=propext Iff.rfl
@[congr] theorem xbx {K:AV→Prop} {l l' : List AV} (h:l=l'):Wae l K=Wae l' K:=by subst h;rfl
attribute [go_sem] kaj
attribute [go_sem ↓] kaj
def VU (tE:Nat) (l:List AV) (K:AV→Prop):Prop:=
 match l with
 | [a]=>onT (fun t=>rl t.1≤100000000∧K (errV tE (tchk t))) a
 | _=>False
theorem JZ (tE:Nat) (a:AV) (K:AV→Prop):VU tE [a] K=(onT (fun t=>rl t.1≤100000000∧K (errV tE (tchk t))) a):=propext Iff.rfl
@[congr] theorem zbn (tE:Nat) {K:AV→Prop} {l l' : List AV} (h:l=l'):VU tE l K=VU tE l' K:=by subst h;rfl
attribute [go_sem] JZ
attribute [go_sem ↓] JZ
def qV (l:List AV) (K:AV→Prop):Prop:=
 match l with
 | [a]=>onT (fun t=>rl t.1≤100000000∧K (.one (.lit (.bool (decide (tchk t=0)))))) a
 | _=>False
theorem X9 (a:AV) (K:AV→Prop):qV [a] K=(onT (fun t=>rl t.1≤100000000∧K (.one (.lit (.bool (decide (tchk t=0)))))) a):=propext Iff.rfl
@[congr] theorem Qbl {K:AV→Prop} {l l' : List AV} (h:l=l'):qV l K=qV l' K:=by subst h;rfl
attribute [go_sem] X9
attribute [go_sem ↓] X9
def QaR (l:List AV) (K:AV→Prop):Prop:=
 match l with
 | [a]=>onPo (fun p=>pl p≤100000000∧K (.one (.lit (.bool (pvld p))))) a
 | _=>False
theorem uaD (a:AV) (K:AV→Prop):QaR [a] K=(onPo (fun p=>pl p≤100000000∧K (.one (.lit (.bool (pvld p))))) a):=propext Iff.rfl
@[congr] theorem zbG {K:AV→Prop} {l l' : List AV} (h:l=l'):QaR l K=QaR l' K:=by subst h;rfl
attribute [go_sem] uaD
attribute [go_sem ↓] uaD
def QaU (l:List AV) (K:AV→Prop):Prop:=
 match l with
 | [a]=>onT (fun t=>rl t.1≤100000000∧K (tQ (backQ (tv t)))) a
 | _=>False
theorem jaX (a:AV) (K:AV→Prop):QaU [a] K=(onT (fun t=>rl t.1≤100000000∧K (tQ (backQ (tv t)))) a):=propext Iff.rfl
@[congr] theorem UbB {K:AV→Prop} {l l' : List AV} (h:l=l'):QaU l K=QaU l' K:=by subst h;rfl
attribute [go_sem] jaX
attribute [go_sem ↓] jaX
def xaO (l:List AV) (K:AV→Prop):Prop:=
 match l with
 | [a]=>onT (fun t=>rl t.1≤10000000∧K (.tup [rQ (cosQ (tv t)),rQ (sinQ (tv t))])) a
 | _=>False
theorem yaK (a:AV) (K:AV→Prop):xaO [a] K=(onT (fun t=>rl t.1≤10000000∧K (.tup [rQ (cosQ (tv t)),rQ (sinQ (tv t))])) a):=propext Iff.rfl
@[congr] theorem ZbB {K:AV→Prop} {l l' : List AV} (h:l=l'):xaO l K=xaO l' K:=by subst h;rfl
attribute [go_sem] yaK
attribute [go_sem ↓] yaK
def qu (l:List AV) (K:AV→Prop):Prop:=
 match l with
 | [a,b]=>onA (fun p=>onA (fun q=>al p≤4294967296∧K (.one (.lit (.bool (decide (p=q)))))) b) a
 | _=>False
theorem kau (a b:AV) (K:AV→Prop):qu [a,b] K=(onA (fun p=>onA (fun q=>al p≤4294967296∧K (.one (.lit (.bool (decide (p=q)))))) b) a):=propext Iff.rfl
@[congr] theorem Vbw {K:AV→Prop} {l l' : List AV} (h:l=l'):qu l K=qu l' K:=by subst h;rfl
attribute [go_sem] kau
attribute [go_sem ↓] kau
theorem qaz:Good qu:=Va fun as=>by
 unfold qu
 split
 ·exact (zj fun _=>(zj fun _=>(.and fun _=>(.ret _))))
 ·exact .of fun K hk=>hk.elim
def Ul (f0 f1:Nat):AC:=(.seq (.ops false [.u 1 (.box 6 (.t 0)),.u 2 (.alloc [(.lit (.bool false)),.emp,.emp])])
 (.fg [1,2] (.seq (.ops true [.u 3 (.fa 0 (.t 1)),.u 4 (.ld none 3 true (.t 3)),.u 5 (.fa 0 (.t 1)),.u 6 (.ld none 3 true (.t 5)),.u 7 (.call f0 [(.t 4),(.t 6)]),.u 8 (.fa 3 (.t 1)),.u 9 (.ld none 3 true (.t 8)),.u 10 (.fa 3 (.t 1)),.u 11 (.ld none 3 true (.t 10)),.u 12 (.call f0 [(.t 9),(.t 11)]),.u 13 (.call f1 [(.t 7),(.t 12)]),.n (.st none 3 (.t 2) (.t 13))])
 .ret)))
def vk (f0:Nat):AC:=(.seq (.ops false [.u 2 (.box 6 (.t 0)),.u 3 (.box 6 (.t 1)),.m 4 .fa])
 (.fg [2,3] (.seq (.ops false [.u 5 (.fa 0 (.t 2)),.u 6 (.ld none 3 true (.t 5)),.u 7 (.fa 0 (.t 3)),.u 8 (.ld none 3 true (.t 7)),.u 9 (.call f0 [(.t 6),(.t 8)]),.u 10 (.bin .eql (.t 9) (.i 0)),.m 11 (.t 10),.w 12 11 true (.fa 3 (.t 2)),.w 13 11 true (.ld none 3 true (.t 12)),.w 14 11 true (.fa 3 (.t 3)),.w 15 11 true (.ld none 3 true (.t 14)),.w 16 11 true (.call f0 [(.t 13),(.t 15)]),.w 17 11 true (.bin .eql (.t 16) (.i 0)),.u 18 (.pick (.t 11) (.t 17) .fa),.m 4 (.t 18)])
 .ret)))
def Ji (f0:Nat):AC:=(.seq (.ops false [.u 1 (.box 3 (.t 0)),.m 2 .fa])
 (.fg [1] (.seq (.ops false [.u 3 (.ld none 3 true (.t 1)),.u 4 (.call f0 [(.t 3)]),.u 5 (.bin .eql (.t 4) (.i 0)),.m 2 (.t 5)])
 .ret)))
def je (f0:Nat):AC:=(.seq (.ops false [.u 2 (.box 6 (.t 0)),.u 3 (.box 6 (.t 1)),.m 4 .fa])
 (.fg [2,3] (.seq (.ops false [.u 5 (.fa 0 (.t 2)),.u 6 (.ld none 3 true (.t 5)),.u 7 (.fa 0 (.t 3)),.u 8 (.ld none 3 true (.t 7)),.u 9 (.call f0 [(.t 6),(.t 8)]),.m 10 (.t 9),.w 11 10 true (.fa 3 (.t 2)),.w 12 10 true (.ld none 3 true (.t 11)),.w 13 10 true (.fa 3 (.t 3)),.w 14 10 true (.ld none 3 true (.t 13)),.w 15 10 true (.call f0 [(.t 12),(.t 14)]),.u 16 (.pick (.t 10) (.t 15) .fa),.m 4 (.t 16)])
 .ret)))
theorem Xb {α β:Type} (p:α×β):(p.1,p.2)=p:=rfl
theorem al1 {p:Arc} {b:Nat} (h:al p≤b):rl p.1≤b∧rl p.2≤b:=⟨Nat.le_trans (Nat.le_max_left _ _) h,Nat.le_trans (Nat.le_max_right _ _) h⟩
theorem WaO (hΓ:Holds P Γ) {f fm fs:Nat} (hm:Γ fm=.dat false Xf) (hs:Γ fs=.dat false xj) (hc:check P f=some (14,(Ul fm fs).strip,[.cell 2 3 true])):Sound P f (.dat false JI):=by
 refine va hc vaY hΓ (fun args K hcl hfi hG=>?_)
 match args,hG with
 | [a],hG=>
  obtain ⟨p,rfl,hp,hl,hK⟩:=hG
  refine ⟨by simp,?_⟩
  obtain ⟨l1,l2⟩:=al1 hl
  have r1:=zc hp.1
  have r2:=zc hp.2
  have m1:=Ua (rv p.1) (rv p.1)
  have m2:=Ua (rv p.2) (rv p.2)
  simp only [go_sem,Ul,hm,hs,xd,hp.1,hp.2]
  exact ⟨by omega,by omega,by omega,by omega,by omega,by omega,hK⟩
theorem xad (hΓ:Holds P Γ) {f fc:Nat} (hc' : Γ fc=.dat true Zf) (hc:check P f=some (19,(vk fc).strip,[.tmp 4])):Sound P f (.dat true Qw):=by
 refine va hc jay hΓ (fun args K hcl hfi hG=>?_)
 match args,hG with
 | [a,b],hG=>
  obtain ⟨p,rfl,hp,q,rfl,hq,hl,hl',hK⟩:=hG
  refine ⟨by simp,?_⟩
  obtain ⟨l1,l2⟩:=al1 hl
  obtain ⟨l3,l4⟩:=al1 hl'
  have e:decide (av p=av q)=(decide (ordQ (rv p.1) (rv q.1)=0) && decide (ordQ (rv p.2) (rv q.2)=0)):=by
   rw [←Bool.decide_and,decide_eq_decide,Jf,Jf]
   exact Prod.mk.injEq _ _ _ _▸Iff.rfl
  rw [e]at hK
  by_cases h1:ordQ (rv p.1) (rv q.1)=0
  ·rw [decide_eq_true h1,Bool.true_and]at hK
   simp only [go_sem,vk,hc',xd,hp.1,hp.2,hq.1,hq.2,h1]
   exact ⟨by omega,by omega,by omega,by omega,hK⟩
  ·rw [decide_eq_false h1,Bool.false_and]at hK
   simp only [go_sem,vk,hc',xd,hp.1,hp.2,hq.1,hq.2,h1]
   exact ⟨by omega,by omega,hK⟩
theorem Wac (hΓ:Holds P Γ) {f fs:Nat} (hs:Γ fs=.dat true ug) (hc:check P f=some (6,(Ji fs).strip,[.tmp 2])):Sound P f (.dat true vu):=by
 refine va hc xaw hΓ (fun args K hcl hfi hG=>?_)
 match args,hG with
 | [a],hG=>
  obtain ⟨x,rfl,hx,hl,hK⟩:=hG
  refine ⟨by simp,?_⟩
  have e:decide (rv x=0)=decide (ordQ (rv x) 0=0):=by rw [decide_eq_decide,Jf]
  rw [e]at hK
  simp only [go_sem,Ji,hs,hx]
  exact ⟨hl,hK⟩
theorem Qab (hΓ:Holds P Γ) {f fb:Nat} (hb:Γ fb=.dat true ZB) (hc:check P f=some (17,(je fb).strip,[.tmp 4])):Sound P f (.dat true qu):=by
 refine va hc qaz hΓ (fun args K hcl hfi hG=>?_)
 match args,hG with
 | [a,b],hG=>
  obtain ⟨p,rfl,hp,q,rfl,hq,hl,hK⟩:=hG
  refine ⟨by simp,?_⟩
  obtain ⟨l1,l2⟩:=al1 hl
  have e:decide (p=q)=(decide (p.1=q.1) && decide (p.2=q.2)):=by
   rw [←Bool.decide_and,decide_eq_decide]
   exact Prod.ext_iff
  rw [e]at hK
  by_cases h1:p.1=q.1
  ·rw [decide_eq_true h1,Bool.true_and]at hK
   simp only [go_sem,je,hb,xd,hp.1,hp.2,hq.1,hq.2,h1,decide_true]
   exact ⟨by rw [←h1];exact l1,l2,hK⟩
  ·rw [decide_eq_false h1,Bool.false_and]at hK
   simp only [go_sem,je,hb,xd,hp.1,hp.2,hq.1,hq.2,h1,decide_false]
   exact ⟨l1,hK⟩
end Go.Abs
end
section
namespace Go.Num
open Go.Abs
def aok (p:Ps) (q:Arc):Bool:=pvld p && avld q
def plchk (l:List Ps):Nat:=if l.length<2 then 10 else if 5<l.length then 4 else if l.all pvld then 0 else 2
def threeC (l:List Ps):Nat:=if plchk l≠0 then plchk l else if l.length=3 then 0 else 10
def imgs (l:List Ps) (q:Arc):List V2:=l.map fun p=>appQ (pv p) (av q)
def imgC (l:List Ps) (q:Arc):Nat:=if l.all (fun p=>aok p q) then 0 else 2
end Go.Num
namespace Go.Abs
open Go.Num
variable {P:Program} {Γ:Nat→Spec}
def psQ (p:PsQ):AV:=.agg [cb (rcan p.1.1),cn (rcan p.1.1),cd (rcan p.1.1),.lit (.bool p.1.2),cb (rcan p.2.1),cn (rcan p.2.1),cd (rcan p.2.1),cb (rcan p.2.2),cn (rcan p.2.2),cd (rcan p.2.2)]
theorem ya5 (p:PsQ):psQ p=.agg [cb (rcan p.1.1),cn (rcan p.1.1),cd (rcan p.1.1),.lit (.bool p.1.2),cb (rcan p.2.1),cn (rcan p.2.1),cd (rcan p.2.1),cb (rcan p.2.2),cn (rcan p.2.2),cd (rcan p.2.2)]:=eq_of_heq (HEq.refl _)
attribute [go_sem] ya5
attribute [go_sem ↓] ya5
def kaS (tE:Nat) (l:List AV) (K:AV→Prop):Prop:=
 match l with
 | [a]=>onT (fun t=>rl t.1≤10000000∧K (.tup [rQ (if tchk t=0 then cosQ (tv t) else 0),errV tE (tchk t)])) a
 | _=>False
theorem WaM (tE:Nat) (a:AV) (K:AV→Prop):kaS tE [a] K=(onT (fun t=>rl t.1≤10000000∧K (.tup [rQ (if tchk t=0 then cosQ (tv t) else 0),errV tE (tchk t)])) a):=propext Iff.rfl
@[congr] theorem xbH (tE:Nat) {K:AV→Prop} {l l' : List AV} (h:l=l'):kaS tE l K=kaS tE l' K:=by subst h;rfl
attribute [go_sem] WaM
attribute [go_sem ↓] WaM
def kaW (tE:Nat) (l:List AV) (K:AV→Prop):Prop:=
 match l with
 | [a]=>onT (fun t=>rl t.1≤10000000∧K (.tup [rQ (if tchk t=0 then sinQ (tv t) else 0),errV tE (tchk t)])) a
 | _=>False
theorem xaC (tE:Nat) (a:AV) (K:AV→Prop):kaW tE [a] K=(onT (fun t=>rl t.1≤10000000∧K (.tup [rQ (if tchk t=0 then sinQ (tv t) else 0),errV tE (tchk t)])) a):=propext Iff.rfl
@[congr] theorem JbH (tE:Nat) {K:AV→Prop} {l l' : List AV} (h:l=l'):kaW tE l K=kaW tE l' K:=by subst h;rfl
attribute [go_sem] xaC
attribute [go_sem ↓] xaC
def waW (tE:Nat) (l:List AV) (K:AV→Prop):Prop:=
 match l with
 | [a]=>onT (fun t=>rl t.1≤10000000∧K (.tup [rQ (if tchk t=0 then cosQ (tv t) else 0),rQ (if tchk t=0 then sinQ (tv t) else 0),errV tE (tchk t)])) a
 | _=>False
theorem XaJ (tE:Nat) (a:AV) (K:AV→Prop):waW tE [a] K=(onT (fun t=>rl t.1≤10000000∧K (.tup [rQ (if tchk t=0 then cosQ (tv t) else 0),rQ (if tchk t=0 then sinQ (tv t) else 0),errV tE (tchk t)])) a):=propext Iff.rfl
@[congr] theorem vbH (tE:Nat) {K:AV→Prop} {l l' : List AV} (h:l=l'):waW tE l K=waW tE l' K:=by subst h;rfl
attribute [go_sem] XaJ
attribute [go_sem ↓] XaJ
def uaP (tE:Nat) (l:List AV) (K:AV→Prop):Prop:=
 match l with
 | [a,b]=>onT (fun t=>onA (fun q=>rl t.1≤10000000∧al q≤10000000∧K (.tup [pQ (if tchk t=0 then rotQ (tv t) (av q) else (0,0)),errV tE (tchk t)])) b) a
 | _=>False
theorem yaJ (tE:Nat) (a b:AV) (K:AV→Prop):uaP tE [a,b] K=(onT (fun t=>onA (fun q=>rl t.1≤10000000∧al q≤10000000∧K (.tup [pQ (if tchk t=0 then rotQ (tv t) (av q) else (0,0)),errV tE (tchk t)])) b) a):=propext Iff.rfl
@[congr] theorem QbH (tE:Nat) {K:AV→Prop} {l l' : List AV} (h:l=l'):uaP tE l K=uaP tE l' K:=by subst h;rfl
attribute [go_sem] yaJ
attribute [go_sem ↓] yaJ
def yaF (l:List AV) (K:AV→Prop):Prop:=
 match l with
 | [a,b]=>onT (fun t=>onA (fun q=>rl t.1≤10000000∧al q≤10000000∧K (pQ (rotQ (tv t) (av q)))) b) a
 | _=>False
theorem ZaH (a b:AV) (K:AV→Prop):yaF [a,b] K=(onT (fun t=>onA (fun q=>rl t.1≤10000000∧al q≤10000000∧K (pQ (rotQ (tv t) (av q)))) b) a):=propext Iff.rfl
@[congr] theorem VbC {K:AV→Prop} {l l' : List AV} (h:l=l'):yaF l K=yaF l' K:=by subst h;rfl
attribute [go_sem] ZaH
attribute [go_sem ↓] ZaH
def xaK (tE:Nat) (l:List AV) (K:AV→Prop):Prop:=
 match l with
 | [a,b]=>onPo (fun p=>onA (fun q=>pl p≤1000000∧al q≤1000000∧K (.tup [pQ (if aok p q=true then appQ (pv p) (av q) else (0,0)),errV tE (if aok p q=true then 0 else 2)])) b) a
 | _=>False
theorem qaQ (tE:Nat) (a b:AV) (K:AV→Prop):xaK tE [a,b] K=(onPo (fun p=>onA (fun q=>pl p≤1000000∧al q≤1000000∧K (.tup [pQ (if aok p q=true then appQ (pv p) (av q) else (0,0)),errV tE (if aok p q=true then 0 else 2)])) b) a):=propext Iff.rfl
@[congr] theorem ubz (tE:Nat) {K:AV→Prop} {l l' : List AV} (h:l=l'):xaK tE l K=xaK tE l' K:=by subst h;rfl
attribute [go_sem] qaQ
attribute [go_sem ↓] qaQ
def uaS (l:List AV) (K:AV→Prop):Prop:=
 match l with
 | [a,b]=>onPo (fun p=>onA (fun q=>pl p≤1000000∧al q≤1000000∧K (pQ (appQ (pv p) (av q)))) b) a
 | _=>False
theorem zaF (a b:AV) (K:AV→Prop):uaS [a,b] K=(onPo (fun p=>onA (fun q=>pl p≤1000000∧al q≤1000000∧K (pQ (appQ (pv p) (av q)))) b) a):=propext Iff.rfl
@[congr] theorem YbA {K:AV→Prop} {l l' : List AV} (h:l=l'):uaS l K=uaS l' K:=by subst h;rfl
attribute [go_sem] zaF
attribute [go_sem ↓] zaF
def Vac (tE:Nat) (l:List AV) (K:AV→Prop):Prop:=
 match l with
 | [a]=>onT (fun t=>rl t.1≤10000000∧K (.tup [tQ (if tchk t=0 then backQ (tv t) else (0,false)),errV tE (tchk t)])) a
 | _=>False
theorem Jah (tE:Nat) (a:AV) (K:AV→Prop):Vac tE [a] K=(onT (fun t=>rl t.1≤10000000∧K (.tup [tQ (if tchk t=0 then backQ (tv t) else (0,false)),errV tE (tchk t)])) a):=propext Iff.rfl
@[congr] theorem Wbw (tE:Nat) {K:AV→Prop} {l l' : List AV} (h:l=l'):Vac tE l K=Vac tE l' K:=by subst h;rfl
attribute [go_sem] Jah
attribute [go_sem ↓] Jah
def YaD (tE:Nat) (l:List AV) (K:AV→Prop):Prop:=
 match l with
 | [a]=>onPo (fun p=>pl p≤1000000∧K (.tup [psQ (if pvld p=true then invQ (pv p) else ((0,false),(0,0))),errV tE (if pvld p=true then 0 else 2)])) a
 | _=>False
theorem qaN (tE:Nat) (a:AV) (K:AV→Prop):YaD tE [a] K=(onPo (fun p=>pl p≤1000000∧K (.tup [psQ (if pvld p=true then invQ (pv p) else ((0,false),(0,0))),errV tE (if pvld p=true then 0 else 2)])) a):=propext Iff.rfl
@[congr] theorem xbG (tE:Nat) {K:AV→Prop} {l l' : List AV} (h:l=l'):YaD tE l K=YaD tE l' K:=by subst h;rfl
attribute [go_sem] qaN
attribute [go_sem ↓] qaN
def JaG (l:List AV) (K:AV→Prop):Prop:=
 match l with
 | [a]=>onPo (fun p=>pl p≤1000000∧K (psQ (invQ (pv p)))) a
 | _=>False
theorem JaI (a:AV) (K:AV→Prop):JaG [a] K=(onPo (fun p=>pl p≤1000000∧K (psQ (invQ (pv p)))) a):=propext Iff.rfl
@[congr] theorem UbA {K:AV→Prop} {l l' : List AV} (h:l=l'):JaG l K=JaG l' K:=by subst h;rfl
attribute [go_sem] JaI
attribute [go_sem ↓] JaI
end Go.Abs
end
section
namespace Go.Num
def inA (y:Rat) (x:Arc):Bool:=decide (rv x.1≤y) && decide (y<rv x.2)
def idxOf (y:Rat) (l:List Arc):Int:=match l.findIdx? (inA y) with | some i=>i | none=>-1
end Go.Num
namespace Go.Abs
open Go.Num
variable {P:Program} {Γ:Nat→Spec}
def pA (y:R):AV:=.one (.ref [cb y,cn y,cd y])
def kA (f:Nat) (y:R):AV:=.one (.clo f [.ref [cb y,cn y,cd y]])
theorem Ubo (x y:R) (h:pA x=pA y):x=y:=qs x y (by simpa [pA,rA] using h)
theorem Vbm (f:Nat) (x y:R) (h:kA f x=kA f y):x=y:=qs x y (by simpa [kA,rA] using h)
def onP (k:R→Prop) (a:AV):Prop:=onE pA (fun x=>WLR x∧k x) a
@[congr] theorem xbI {k:R→Prop} {a a' : AV} (h:a=a'):onP k a=onP k a':=by subst h;rfl
theorem zbr (k:R→Prop) (x:R):onP k (.one (.ref [cb x,cn x,cd x]))=(WLR x∧k x):=ko Ubo (fun x=>WLR x∧k x) x
def onKl (f:Nat) (k:R→Prop) (a:AV):Prop:=onE (kA f) (fun x=>WLR x∧k x) a
@[congr] theorem jbC {f:Nat} {k:R→Prop} {a a' : AV} (h:a=a'):onKl f k a=onKl f k a':=by subst h;rfl
theorem Wa9 (f:Nat) (k:R→Prop) (x:R):onKl f k (.one (.clo f [.ref [cb x,cn x,cd x]]))=(WLR x∧k x):=ko (Vbm f) (fun x=>WLR x∧k x) x
attribute [go_sem] zbr Wa9
attribute [go_sem ↓] zbr Wa9
theorem yay (y:R):CleanL [cb y,cn y,cd y]:=by
 intro c hc
 simp only [List.mem_cons,List.not_mem_nil,or_false]at hc
 rcases hc with rfl | rfl | rfl
 ·exact of_eq_true (yk _)
 ·exact of_eq_true (uk _)
 ·exact of_eq_true (kk _)
def Uac (l:List AV) (K:AV→Prop):Prop:=
 match l with
 | [a,b]=>onA (fun x=>onP (fun y=>al x≤4294967296∧rl y≤4294967296∧K (.one (.lit (.bool (inA (rv y) x))))) b) a
 | _=>False
theorem vah (a b:AV) (K:AV→Prop):Uac [a,b] K=(onA (fun x=>onP (fun y=>al x≤4294967296∧rl y≤4294967296∧K (.one (.lit (.bool (inA (rv y) x))))) b) a):=propext Iff.rfl
@[congr] theorem jbx {K:AV→Prop} {l l' : List AV} (h:l=l'):Uac l K=Uac l' K:=by subst h;rfl
attribute [go_sem] vah
attribute [go_sem ↓] vah
def yaP (fc:Nat) (l:List AV) (K:AV→Prop):Prop:=
 match l with
 | [a,c]=>onAs (fun l=>onKl fc (fun y=>okAs 4294967296 l∧rl y≤4294967296∧K (.one (.lit (.int .i64 (idxOf (rv y) l))))) c) a
 | _=>False
theorem xaU (fc:Nat) (a c:AV) (K:AV→Prop):yaP fc [a,c] K=(onAs (fun l=>onKl fc (fun y=>okAs 4294967296 l∧rl y≤4294967296∧K (.one (.lit (.int .i64 (idxOf (rv y) l))))) c) a):=propext Iff.rfl
@[congr] theorem Xbz (fc:Nat) {K:AV→Prop} {l l' : List AV} (h:l=l'):yaP fc l K=yaP fc l' K:=by subst h;rfl
attribute [go_sem] xaU
attribute [go_sem ↓] xaU
def Yaf (fc:Nat) (l:List AV) (K:AV→Prop):Prop:=
 match l with
 | [a,c]=>onAs (fun l=>onKl fc (fun y=>okAs 4294967296 l∧rl y≤4294967296∧K (.one (.lit (.bool (l.any (inA (rv y))))))) c) a
 | _=>False
theorem xah (fc:Nat) (a c:AV) (K:AV→Prop):Yaf fc [a,c] K=(onAs (fun l=>onKl fc (fun y=>okAs 4294967296 l∧rl y≤4294967296∧K (.one (.lit (.bool (l.any (inA (rv y))))))) c) a):=propext Iff.rfl
@[congr] theorem Wbx (fc:Nat) {K:AV→Prop} {l l' : List AV} (h:l=l'):Yaf fc l K=Yaf fc l' K:=by subst h;rfl
attribute [go_sem] xah
attribute [go_sem ↓] xah
def ZaU (tE:Nat) (l:List AV) (K:AV→Prop):Prop:=
 match l with
 | [a,b]=>onAs (fun l=>onR (fun y=>okAs 4294967296 l∧rl y≤1000000000∧K (.tup [.one (.lit (.bool (decide (chk [l]=0) && (vldR y && l.any (inA (frac (rv y))))))),errV tE (if chk [l]=0 then (if vldR y then 0 else 3) else chk [l])])) b) a
 | _=>False
theorem WaH (tE:Nat) (a b:AV) (K:AV→Prop):ZaU tE [a,b] K=(onAs (fun l=>onR (fun y=>okAs 4294967296 l∧rl y≤1000000000∧K (.tup [.one (.lit (.bool (decide (chk [l]=0) && (vldR y && l.any (inA (frac (rv y))))))),errV tE (if chk [l]=0 then (if vldR y then 0 else 3) else chk [l])])) b) a):=propext Iff.rfl
@[congr] theorem xbA (tE:Nat) {K:AV→Prop} {l l' : List AV} (h:l=l'):ZaU tE l K=ZaU tE l' K:=by subst h;rfl
attribute [go_sem] WaH
attribute [go_sem ↓] WaH
end Go.Abs
end
section
namespace Go.Num
def longR (x:R):Bool:=decide (4<x.2.1.length+x.2.2.length)
def largeL (l:List Arc):Bool:=if 20<l.length then (decide (l.length≤64) || decide (200<l.length)) else l.any fun x=>longR x.1 || longR x.2
def validL (l:List Arc):Bool:=!largeL l && decide (chk1 l=0)
end Go.Num
namespace Go.Abs
open Go.Num
variable {P:Program} {Γ:Nat→Spec}
def JS (l:List AV) (K:AV→Prop):Prop:=
 match l with
 | [a]=>onAs (fun l=>okAs 1073741824 l∧K (.one (.lit (.int .i64 (chk1 l:Nat))))) a
 | _=>False
theorem J3 (a:AV) (K:AV→Prop):JS [a] K=(onAs (fun l=>okAs 1073741824 l∧K (.one (.lit (.int .i64 (chk1 l:Nat))))) a):=propext Iff.rfl
@[congr] theorem xbq {K:AV→Prop} {l l' : List AV} (h:l=l'):JS l K=JS l' K:=by subst h;rfl
attribute [go_sem] J3
attribute [go_sem ↓] J3
def uae (l:List AV) (K:AV→Prop):Prop:=
 match l with
 | [a,b]=>onAs (fun l=>onAs (fun m=>okAs 1073741824 l∧okAs 1073741824 m∧K (.one (.lit (.bool (decide (vals l=vals m)))))) b) a
 | _=>False
theorem yat (a b:AV) (K:AV→Prop):uae [a,b] K=(onAs (fun l=>onAs (fun m=>okAs 1073741824 l∧okAs 1073741824 m∧K (.one (.lit (.bool (decide (vals l=vals m)))))) b) a):=propext Iff.rfl
@[congr] theorem kbz {K:AV→Prop} {l l' : List AV} (h:l=l'):uae l K=uae l' K:=by subst h;rfl
attribute [go_sem] yat
attribute [go_sem ↓] yat
def Yac (l:List AV) (K:AV→Prop):Prop:=
 match l with
 | [a]=>onR (fun x=>rl x≤1000000000∧K (.agg [cb (rcan (frac (rv x))),cn (rcan (frac (rv x))),cd (rcan (frac (rv x)))])) a
 | _=>False
theorem Wam (a:AV) (K:AV→Prop):Yac [a] K=(onR (fun x=>rl x≤1000000000∧K (.agg [cb (rcan (frac (rv x))),cn (rcan (frac (rv x))),cd (rcan (frac (rv x)))])) a):=propext Iff.rfl
@[congr] theorem Ybw {K:AV→Prop} {l l' : List AV} (h:l=l'):Yac l K=Yac l' K:=by subst h;rfl
attribute [go_sem] Wam
attribute [go_sem ↓] Wam
def Xab (l:List AV) (K:AV→Prop):Prop:=
 match l with
 | [a,b]=>asInt (fun k n=>asInt (fun k' d=>k=.i64∧k' = .i64∧(-9223372036854775808≤n∧n≤9223372036854775807)∧(-9223372036854775808≤d∧d≤9223372036854775807)∧d≠0∧K (.agg [cb (rcan (Rat.divInt n d)),cn (rcan (Rat.divInt n d)),cd (rcan (Rat.divInt n d))])) b) a
 | _=>False
theorem Jal (a b:AV) (K:AV→Prop):Xab [a,b] K=(asInt (fun k n=>asInt (fun k' d=>k=.i64∧k' = .i64∧(-9223372036854775808≤n∧n≤9223372036854775807)∧(-9223372036854775808≤d∧d≤9223372036854775807)∧d≠0∧K (.agg [cb (rcan (Rat.divInt n d)),cn (rcan (Rat.divInt n d)),cd (rcan (Rat.divInt n d))])) b) a):=propext Iff.rfl
@[congr] theorem zbx {K:AV→Prop} {l l' : List AV} (h:l=l'):Xab l K=Xab l' K:=by subst h;rfl
attribute [go_sem] Jal
attribute [go_sem ↓] Jal
def Zag (l:List AV) (K:AV→Prop):Prop:=
 match l with
 | [a]=>onR (fun x=>rl x≤4294967296∧K (.one (.lit (.bool (longR x))))) a
 | _=>False
theorem wah (a:AV) (K:AV→Prop):Zag [a] K=(onR (fun x=>rl x≤4294967296∧K (.one (.lit (.bool (longR x))))) a):=propext Iff.rfl
@[congr] theorem Zbw {K:AV→Prop} {l l' : List AV} (h:l=l'):Zag l K=Zag l' K:=by subst h;rfl
attribute [go_sem] wah
attribute [go_sem ↓] wah
def vS (l:List AV) (K:AV→Prop):Prop:=
 match l with
 | [a]=>onAs (fun l=>okAs 1073741824 l∧K (.one (.lit (.bool (largeL l))))) a
 | _=>False
theorem waa (a:AV) (K:AV→Prop):vS [a] K=(onAs (fun l=>okAs 1073741824 l∧K (.one (.lit (.bool (largeL l))))) a):=propext Iff.rfl
@[congr] theorem Ybr {K:AV→Prop} {l l' : List AV} (h:l=l'):vS l K=vS l' K:=by subst h;rfl
attribute [go_sem] waa
attribute [go_sem ↓] waa
def ZI (l:List AV) (K:AV→Prop):Prop:=
 match l with
 | [a]=>onAs (fun l=>okAs 1073741824 l∧K (.one (.lit (.bool (validL l))))) a
 | _=>False
theorem xN (a:AV) (K:AV→Prop):ZI [a] K=(onAs (fun l=>okAs 1073741824 l∧K (.one (.lit (.bool (validL l))))) a):=propext Iff.rfl
@[congr] theorem kbj {K:AV→Prop} {l l' : List AV} (h:l=l'):ZI l K=ZI l' K:=by subst h;rfl
attribute [go_sem] xN
attribute [go_sem ↓] xN
def WU (tE:Nat) (l:List AV) (K:AV→Prop):Prop:=
 match l with
 | [a]=>onAs (fun l=>K (.tup [.one (.slice ((if 64<l.length then [] else l).map aC)),errV tE (if 64<l.length then 4 else 0)])) a
 | _=>False
theorem Q1 (tE:Nat) (a:AV) (K:AV→Prop):WU tE [a] K=(onAs (fun l=>K (.tup [.one (.slice ((if 64<l.length then [] else l).map aC)),errV tE (if 64<l.length then 4 else 0)])) a):=propext Iff.rfl
@[congr] theorem Zbn (tE:Nat) {K:AV→Prop} {l l' : List AV} (h:l=l'):WU tE l K=WU tE l' K:=by subst h;rfl
attribute [go_sem] Q1
attribute [go_sem ↓] Q1
end Go.Abs
end
