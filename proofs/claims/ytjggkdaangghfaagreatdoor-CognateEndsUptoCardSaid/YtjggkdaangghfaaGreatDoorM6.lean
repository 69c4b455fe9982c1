/-
  Parts of the proof, merged: ArgD, RatC, RefA, RatD, RatE, PoseP, PoseB, PoseC, ChartE, ChartF.
-/
import Derived.Test.YtjggkdaangghfaaGreatDoorM5
set_option linter.unusedVariables false
set_option linter.unusedSimpArgs false
set_option maxRecDepth 100000
section
namespace Go.Abs
open Go.Num
variable {H:Type} {enc:TypeId×Value->H} {bulk:DataW H->Nat} {P:Program} {w:World} {α:Type}
structure TnT (P:Program) (t:TypeId):Prop where
 ex:∃f0 f1:Field,P.underlying t=some (.struct #[f0,f1])/\f0.offset=0/\f1.offset=3/\P.cellsOf t=4/\P.cellsOf f0.type=3/\P.cellsOf f1.type=1/\RatT P f0.type/\P.underlying f1.type=some .bool
structure PsT (P:Program) (t:TypeId):Prop where
 ex:∃f0 f1:Field,P.underlying t=some (.struct #[f0,f1])/\f0.offset=0/\f1.offset=4/\P.cellsOf t=10/\P.cellsOf f0.type=4/\P.cellsOf f1.type=6/\TnT P f0.type/\ArcT P f1.type
structure PosesT (P:Program) (t:TypeId):Prop where
 ex:∃u,P.underlying t=some (.slice u)/\P.cellsOf u=10/\PsT P u
structure DyT (P:Program) (t:TypeId):Prop where
 ex:∃f0 f1 f2:Field,P.underlying t=some (.struct #[f0,f1,f2])/\f0.offset=0/\f1.offset=6/\f2.offset=12/\P.cellsOf t=15/\P.cellsOf f0.type=6/\P.cellsOf f1.type=6/\P.cellsOf f2.type=3/\ArcT P f0.type/\ArcT P f1.type/\RatT P f2.type
theorem yH (x:Arc):CleanL (aC x):=λc hc=>Uax x c hc
end Go.Abs
end
section
namespace Go.Abs
open Go.Num
variable {P:Program} {Γ:Nat->Spec}
def vn (f0 f1 f2 f3:Nat):AC:=(.seq (.ops false [.u 1 (.box 3 (.t 0)),.m 2 .fa])
 (.fg [1] (.seq (.seq (.ops false [.u 5 (.fa 1 (.t 1)),.u 6 (.ld none 1 false (.t 5)),.u 7 (.len (.t 6)),.u 8 (.bin .eql (.t 7) (.i 0)),.m 9 (.t 8),.w 10 9 true (.fa 2 (.t 1)),.w 11 9 true (.ld none 1 false (.t 10)),.w 12 9 true (.len (.t 11)),.w 13 9 true (.bin .eql (.t 12) (.i 0)),.u 14 (.pick (.t 9) (.t 13) .fa)])
 (.fg [1,14] (.cond (.t 14) (.seq (.ops false [.u 15 (.fa 0 (.t 1)),.u 16 (.ld none 1 false (.t 15)),.u 17 (.un .not (.t 16)),.m 2 (.t 17)])
 .ret) .skip)))
 (.fg [1] (.seq (.ops true [.u 18 (.fa 1 (.t 1)),.u 19 (.ld (some 1) 1 false (.t 18)),.u 20 (.build [.z [(.lit (.bool false))],.x 1 (.t 19)]),.u 21 (.fa 2 (.t 1)),.u 22 (.ld (some 1) 1 false (.t 21)),.u 23 (.build [.z [(.lit (.bool false))],.x 1 (.t 22)]),.u 3 (.alloc [(.lit (.bool false)),.emp]),.u 4 (.alloc [(.lit (.bool false)),.emp]),.n (.st (some 3) 2 (.t 3) (.t 20)),.n (.st (some 4) 2 (.t 4) (.t 23))])
 (.fg [1,3,4] (.seq (.seq (.ops false [.u 24 (.fa 1 (.t 1)),.u 25 (.ld none 1 false (.t 24)),.u 26 (.len (.t 25)),.u 27 (.bin .eql (.t 26) (.i 0)),.m 28 (.t 27),.w 29 28 false (.fa 2 (.t 1)),.w 30 28 false (.ld none 1 false (.t 29)),.w 31 28 false (.len (.t 30)),.w 32 28 false (.bin .eql (.t 31) (.i 0)),.u 33 (.pick (.t 28) .tr (.t 32)),.m 34 (.t 33),.w 35 34 false (.ld none 2 true (.t 3)),.w 36 34 false (.call f0 [(.t 35)]),.w 37 34 false (.un .not (.t 36)),.u 38 (.pick (.t 34) .tr (.t 37)),.m 39 (.t 38),.w 40 39 false (.ld none 2 true (.t 4)),.w 41 39 false (.call f0 [(.t 40)]),.w 42 39 false (.un .not (.t 41)),.u 43 (.pick (.t 39) .tr (.t 42))])
 (.fg [3,4,43] (.cond (.t 43) (.seq (.ops false [.m 2 .fa])
 .ret) .skip)))
 (.fg [3,4] (.seq (.ops false [.u 44 (.ld none 2 true (.t 3)),.u 45 (.ld none 2 true (.t 4)),.u 46 (.call f1 [(.t 44),(.t 45)]),.u 47 (.call f2 []),.u 48 (.call f3 [(.t 46),(.t 47)]),.u 49 (.bin .eql (.t 48) (.i 0)),.m 2 (.t 49)])
 .ret)))))))))
def kn (f0 f1:Nat):AC:=(.seq (.ops false [.u 1 (.box 3 (.t 0)),.u 2 (.alloc [(.lit (.bool false)),.emp]),.u 3 (.alloc [(.lit (.bool false)),.emp])])
 (.fg [1,2,3] (.seq (.seq (.ops false [.u 4 (.ld none 3 true (.t 1)),.u 5 (.call f0 [(.t 4)]),.u 6 (.un .not (.t 5)),.m 7 (.t 6),.w 8 7 false (.fa 1 (.t 1)),.w 9 7 false (.ld none 1 false (.t 8)),.w 10 7 false (.len (.t 9)),.w 11 7 false (.bin .eql (.t 10) (.i 0)),.u 12 (.pick (.t 7) .tr (.t 11))])
 (.fg [1,2,3,12] (.cond (.t 12) (.seq (.ops false [.u 13 (.build [.z [(.lit (.bool false)),.emp]]),.u 14 (.call f1 []),.n (.st none 2 (.t 2) (.t 13)),.n (.st none 2 (.t 3) (.t 14))])
 .ret) .skip)))
 (.fg [1,2,3] (.seq (.ops true [.u 15 (.fa 0 (.t 1)),.u 16 (.ld none 1 false (.t 15)),.m 17 (.c (.one .emp)),.u 18 (.fa 1 (.t 1)),.u 19 (.ld none 1 false (.t 18)),.u 20 (.app0 1 (.t 17) (.t 19)),.u 21 (.build [.x 1 (.t 16),.x 1 (.t 20)]),.n (.st none 2 (.t 2) (.t 21))])
 (.fg [1,2,3] (.seq (.ops true [.u 22 (.ld none 2 true (.t 2)),.m 23 (.c (.one .emp)),.u 24 (.fa 2 (.t 1)),.u 25 (.ld none 1 false (.t 24)),.u 26 (.app0 1 (.t 23) (.t 25)),.u 27 (.build [.z [(.lit (.bool false))],.x 1 (.t 26)]),.n (.st none 2 (.t 2) (.t 22)),.n (.st none 2 (.t 3) (.t 27))])
 .ret)))))))
def Xp (f0 f1 f2 f3:Nat):AC:=(.seq (.ops false [.u 2 (.box 2 (.t 0)),.u 3 (.box 2 (.t 1)),.u 4 (.alloc [(.lit (.bool false)),.emp,.emp])])
 (.fg [2,3,4] (.seq (.seq (.ops false [.u 7 (.ld none 2 true (.t 2)),.u 8 (.call f0 [(.t 7)]),.u 9 (.bin .eql (.t 8) (.i 0))])
 (.fg [2,3,4,9] (.cond (.t 9) (.seq (.ops false [.u 10 (.build [.z [(.lit (.bool false)),.emp,.emp]]),.n (.st none 3 (.t 4) (.t 10))])
 .ret) .skip)))
 (.fg [2,3,4] (.seq (.seq (.ops false [.u 11 (.ld none 2 true (.t 3)),.u 12 (.call f0 [(.t 11)]),.u 13 (.bin .lss (.t 12) (.i 0))])
 (.fg [2,3,4,13] (.cond (.t 13) (.ops true [.u 14 (.ld none 2 true (.t 2)),.u 15 (.call f1 [(.t 14)]),.u 16 (.ld none 2 true (.t 3)),.u 17 (.call f1 [(.t 16)]),.n (.st none 2 (.t 2) (.t 15)),.n (.st none 2 (.t 3) (.t 17))]) .skip)))
 (.fg [2,3,4] (.seq (.ops false [.u 18 (.ld none 2 true (.t 2)),.u 19 (.ld none 2 true (.t 3)),.u 20 (.call f2 [(.t 18),(.t 19)]),.u 5 (.alloc [(.lit (.bool false)),.emp]),.n (.st none 2 (.t 5) (.t 20))])
 (.fg [2,3,4,5] (.seq (.ops false [.u 21 (.ld none 2 true (.t 2)),.u 22 (.call f0 [(.t 21)]),.u 23 (.bin .lss (.t 22) (.i 0)),.m 6 (.t 23)])
 (.fg [2,3,4,5,6] (.seq (.seq (.ops false [.m 24 (.t 6)])
 (.fg [2,3,4,5,6,24] (.cond (.t 24) (.ops false [.u 25 (.ld none 2 true (.t 2)),.u 26 (.call f1 [(.t 25)]),.n (.st none 2 (.t 2) (.t 26))]) .skip)))
 (.fg [2,3,4,5,6] (.seq (.ops false [.u 28 (.ld none 2 true (.t 2)),.u 29 (.ld none 2 true (.t 5)),.u 30 (.call f3 [(.t 28),(.t 29)]),.m 27 (.t 30),.u 31 (.ext 0 (.t 27)),.u 32 (.ext 1 (.t 27)),.u 33 (.ext 2 (.t 27)),.n (.st none 2 (.t 2) (.t 31))])
 (.fg [2,3,4,5,6] (.seq (.ops false [.u 35 (.ld none 2 true (.t 3)),.u 36 (.ld none 2 true (.t 5)),.u 37 (.call f3 [(.t 35),(.t 36)]),.m 34 (.t 37),.u 38 (.ext 0 (.t 34)),.u 39 (.ext 1 (.t 34)),.u 40 (.ext 2 (.t 34)),.n (.st none 2 (.t 3) (.t 38))])
 (.fg [2,3,4,6] (.seq (.ops false [.m 41 (.t 6),.u 42 (.fa 1 (.t 2)),.u 43 (.ld none 1 false (.t 42)),.u 44 (.fa 1 (.t 3)),.u 45 (.ld none 1 false (.t 44)),.u 46 (.build [.x 1 (.t 41),.x 1 (.t 43),.x 1 (.t 45)]),.n (.st none 3 (.t 4) (.t 46))])
 .ret)))))))))))))))))
def yl (f0:Nat):AC:=(.seq (.ops false [.u 0 (.alloc [(.lit (.bool false)),.emp])])
 (.fg [0] (.seq (.ops false [.u 1 (.call f0 [(.i 1)]),.n (.st none 2 (.t 0) (.t 1))])
 .ret)))
def ko (f0 f1 f2:Nat):AC:=(.seq (.ops false [.u 2 (.alloc [(.lit (.bool false)),.emp,.emp])])
 (.fg [0,2] (.seq (.ops false [.m 3 (.t 0),.u 4 (.call f0 [(.t 3)]),.u 5 (.call f1 []),.u 6 (.call f2 [(.t 4),(.t 5)]),.n (.st none 3 (.t 2) (.t 6))])
 .ret)))
def Um (f0 f1 f2:Nat):AC:=(.seq (.ops false [.u 1 (.box 3 (.t 0)),.u 2 (.alloc [(.lit (.bool false)),.emp,.emp])])
 (.fg [1,2] (.seq (.ops false [.u 6 (.ld none 3 true (.t 1)),.u 7 (.call f0 [(.t 6)]),.m 5 (.t 7),.u 8 (.ext 0 (.t 5)),.u 9 (.ext 1 (.t 5)),.u 3 (.alloc [(.lit (.bool false)),.emp]),.u 4 (.alloc [(.lit (.bool false)),.emp]),.n (.st none 2 (.t 3) (.t 8)),.n (.st none 2 (.t 4) (.t 9))])
 (.fg [2,3,4] (.seq (.ops true [.u 10 (.ld none 2 true (.t 3)),.u 11 (.call f1 [(.t 10)]),.u 12 (.ld none 2 true (.t 4)),.u 13 (.call f2 [(.t 11),(.t 12)]),.n (.st none 3 (.t 2) (.t 13))])
 .ret)))))
def Zp (f0 f1:Nat):AC:=(.seq (.ops false [.u 1 (.box 3 (.t 0)),.m 2 (.i 0)])
 (.fg [1] (.seq (.ops false [.u 6 (.ld none 3 true (.t 1)),.u 7 (.call f0 [(.t 6)]),.m 5 (.t 7),.u 8 (.ext 0 (.t 5)),.u 9 (.ext 1 (.t 5)),.u 3 (.alloc [(.lit (.bool false)),.emp]),.u 4 (.alloc [(.lit (.bool false)),.emp]),.n (.st none 2 (.t 3) (.t 8)),.n (.st none 2 (.t 4) (.t 9))])
 (.fg [3] (.seq (.ops false [.u 10 (.ld none 2 true (.t 3)),.u 11 (.call f1 [(.t 10)]),.m 2 (.t 11)])
 .ret)))))
def qu (f0 f1 f2:Nat):AC:=(.seq (.ops false [.u 2 (.box 3 (.t 0)),.u 3 (.box 3 (.t 1)),.m 4 (.i 0)])
 (.fg [2,3] (.seq (.ops false [.u 10 (.ld none 3 true (.t 2)),.u 11 (.call f0 [(.t 10)]),.m 9 (.t 11),.u 12 (.ext 0 (.t 9)),.u 13 (.ext 1 (.t 9)),.u 5 (.alloc [(.lit (.bool false)),.emp]),.u 6 (.alloc [(.lit (.bool false)),.emp]),.n (.st none 2 (.t 5) (.t 12)),.n (.st none 2 (.t 6) (.t 13))])
 (.fg [3,5,6] (.seq (.ops false [.u 15 (.ld none 3 true (.t 3)),.u 16 (.call f0 [(.t 15)]),.m 14 (.t 16),.u 17 (.ext 0 (.t 14)),.u 18 (.ext 1 (.t 14)),.u 7 (.alloc [(.lit (.bool false)),.emp]),.u 8 (.alloc [(.lit (.bool false)),.emp]),.n (.st none 2 (.t 7) (.t 17)),.n (.st none 2 (.t 8) (.t 18))])
 (.fg [5,6,7,8] (.seq (.ops true [.u 19 (.ld none 2 true (.t 5)),.u 20 (.ld none 2 true (.t 8)),.u 21 (.call f1 [(.t 19),(.t 20)]),.u 22 (.ld none 2 true (.t 7)),.u 23 (.ld none 2 true (.t 6)),.u 24 (.call f1 [(.t 22),(.t 23)]),.u 25 (.call f2 [(.t 21),(.t 24)]),.m 4 (.t 25)])
 .ret)))))))
def um (f0 f1 f2 f3:Nat):AC:=(.seq (.ops false [.u 2 (.box 3 (.t 0)),.u 3 (.box 3 (.t 1)),.u 4 (.alloc [(.lit (.bool false)),.emp,.emp])])
 (.fg [2,3,4] (.seq (.ops false [.u 10 (.ld none 3 true (.t 2)),.u 11 (.call f0 [(.t 10)]),.m 9 (.t 11),.u 12 (.ext 0 (.t 9)),.u 13 (.ext 1 (.t 9)),.u 5 (.alloc [(.lit (.bool false)),.emp]),.u 6 (.alloc [(.lit (.bool false)),.emp]),.n (.st none 2 (.t 5) (.t 12)),.n (.st none 2 (.t 6) (.t 13))])
 (.fg [3,4,5,6] (.seq (.ops false [.u 15 (.ld none 3 true (.t 3)),.u 16 (.call f0 [(.t 15)]),.m 14 (.t 16),.u 17 (.ext 0 (.t 14)),.u 18 (.ext 1 (.t 14)),.u 7 (.alloc [(.lit (.bool false)),.emp]),.u 8 (.alloc [(.lit (.bool false)),.emp]),.n (.st none 2 (.t 7) (.t 17)),.n (.st none 2 (.t 8) (.t 18))])
 (.fg [4,5,6,7,8] (.seq (.ops true [.u 19 (.ld none 2 true (.t 5)),.u 20 (.ld none 2 true (.t 8)),.u 21 (.call f1 [(.t 19),(.t 20)]),.u 22 (.ld none 2 true (.t 7)),.u 23 (.ld none 2 true (.t 6)),.u 24 (.call f1 [(.t 22),(.t 23)]),.u 25 (.call f2 [(.t 21),(.t 24)]),.u 26 (.ld none 2 true (.t 6)),.u 27 (.ld none 2 true (.t 8)),.u 28 (.call f1 [(.t 26),(.t 27)]),.u 29 (.call f3 [(.t 25),(.t 28)]),.n (.st none 3 (.t 4) (.t 29))])
 .ret)))))))
def jm (f0 f1:Nat):AC:=(.seq (.ops false [.u 2 (.box 3 (.t 0)),.u 3 (.box 3 (.t 1)),.u 4 (.alloc [(.lit (.bool false)),.emp,.emp])])
 (.fg [2,3,4] (.seq (.ops true [.u 5 (.ld none 3 true (.t 2)),.u 6 (.ld none 3 true (.t 3)),.u 7 (.call f0 [(.t 6)]),.u 8 (.call f1 [(.t 5),(.t 7)]),.n (.st none 3 (.t 4) (.t 8))])
 .ret)))
def Zq (f0 f1 tE:Nat):AC:=(.seq (.ops false [.u 2 (.box 2 (.t 0)),.u 3 (.box 2 (.t 1)),.u 4 (.alloc [(.lit (.bool false)),.emp,.emp]),.m 5 (.c (.one (.lit .nilIface)))])
 (.fg [2,3,4] (.seq (.seq (.ops false [.u 6 (.ld none 2 true (.t 3)),.u 7 (.call f0 [(.t 6)]),.u 8 (.bin .eql (.t 7) (.i 0))])
 (.fg [2,3,4,8] (.cond (.t 8) (.seq (.ops false [.u 9 (.build [.z [(.lit (.bool false)),.emp,.emp]]),.u 10 (.iface tE (.i 8)),.n (.st none 3 (.t 4) (.t 9)),.m 5 (.t 10)])
 .ret) .skip)))
 (.fg [2,3,4] (.seq (.ops false [.u 11 (.ld none 2 true (.t 2)),.u 12 (.ld none 2 true (.t 3)),.u 13 (.call f1 [(.t 11),(.t 12)]),.n (.st none 3 (.t 4) (.t 13)),.m 5 (.c (.one (.lit .nilIface)))])
 .ret)))))
theorem va3 {n:Int}:n.sign<0↔n<0:=by
 rcases Int.lt_trichotomy n 0 with h | h | h
 .rw [Int.sign_eq_neg_one_of_neg h];omega
 .subst h;simp
 .rw [Int.sign_eq_one_of_pos h];omega
theorem ZA {n d N D:Int} {g:Nat} {m:Bool} (hd:d≠0) (hn:n≠0) (hN:0<=N) (hD:0<=D) (e1:N.natAbs=n.natAbs) (e2:D.natAbs=d.natAbs) (eg:g=Int.gcd n d) (em:m=decide (d.sign*n<0)) :
  AV.agg [.lit (.bool m),zm (zcan (N / (g:Int))),zm (zcan (D / (g:Int)))]=.agg [cb (rcan (Rat.divInt n d)),cn (rcan (Rat.divInt n d)),cd (rcan (Rat.divInt n d))]:=by
 obtain ⟨N',rfl⟩:=Int.eq_ofNat_of_zero_le hN
 obtain ⟨D',rfl⟩:=Int.eq_ofNat_of_zero_le hD
 simp only [Int.natAbs_natCast]at e1 e2
 subst e1 e2 eg em
 rw [jaF,UaE,QaE,jL hd hn,vaA,vaA]
 simp only [zcan]
 rw [<-Int.natCast_ediv,<-Int.natCast_ediv]
 simp only [Int.natAbs_natCast]
theorem QaM {v w:Int} {s:Nat} (h:w≠0) (hw:zs w<=s):zs ((Int.gcd v w:Nat):Int)<=s:=by
 refine Nat.le_trans (Qag ?_) hw
 simp only [Int.natAbs_natCast]
 exact Nat.le_of_dvd (by omega) (Int.gcd_dvd_natAbs_right _ _)
theorem Q0 {a b:Int}:ordI a b=0↔a=b:=by unfold ordI;split <;> (try split) <;> omega
theorem xa1 {l:List Nat} (h:l≠[]):vldW (false,l)=decide (NZ l):=by unfold vldW;rw [if_neg h]
theorem zv_f {l:List Nat} (h:NZ l):zv (false,l)=(val l:Int):=by
 unfold zv
 by_cases e:l=[]
 .subst e;simp [vldW]
 .rw [xa1 e];simp [h]
theorem yN (hΓ:Holds P Γ) {f fo:Nat} (ho:Γ fo=.dat false WF) (hc:check P f=some (2,(yl fo).strip,[.cell 0 2 true])):Sound P f (.dat false Xo):=by
 refine Va hc QaZ hΓ (λargs K hcl hfi hG=>?_)
 match args,hG with
 | [],hG=>
  have hK:=hG
  simp only [Xo]at hK
  refine ⟨by simp,?_⟩
  simp only [go_sem,yl,ho]
  refine ⟨by omega,by omega,hK⟩
theorem Q4 (hΓ:Holds P Γ) {f fv fg fo fc:Nat} (hv:Γ fv=.dat true ui) (hg:Γ fg=.dat false zu) (ho:Γ fo=.dat false Xo) (hc' : Γ fc=.dat true Uy) (hc:check P f=some (50,(vn fv fg fo fc).strip,[.tmp 2])):Sound P f (.dat true Ze):=by
 refine Va hc vJ hΓ (λargs K hcl hfi hG=>?_)
 match args,hG with
 | [a],hG=>
  obtain ⟨x,rfl,hx,hl,hK⟩:=hG
  refine ⟨by simp,?_⟩
  simp only [go_sem,vn,hv,hg,ho,hc',jaF,UaE,QaE]
  have hl1:x.2.1.length<=4294967296:=Nat.le_trans (Nat.le_max_left _ _) hl
  have hl2:x.2.2.length<=4294967296:=Nat.le_trans (Nat.le_max_right _ _) hl
  have key:x.2.1≠[]->x.2.2≠[]->WL x.2.1/\(vldW (false,x.2.1)=true->WL x.2.2/\(vldW (false,x.2.2)=true->WL x.2.1/\WL x.2.2/\zs (zv (false,x.2.1))<=17179869184/\zs (zv (false,x.2.2))<=17179869184/\
    K (AV.one (C.lit (Value.bool (decide (ordI (((zv (false,x.2.1)).gcd (zv (false,x.2.2)):Nat):Int) 1=0))))))/\(vldW (false,x.2.2)=false->K (AV.one (C.lit (Value.bool false)))))/\(vldW (false,x.2.1)=false->K (AV.one (C.lit (Value.bool false)))):=by
   intro hn hd
   unfold vldR at hK
   rw [if_neg (λe=>hn e.1)]at hK
   rw [xa1 hn,xa1 hd]
   refine ⟨hx.1,λh1=>⟨hx.2,λh2=>⟨hx.1,hx.2,?_,?_,?_⟩,λh2=>?_⟩,λh1=>?_⟩
   .rw [zv_f (of_decide_eq_true h1),Z5,Xd hx.1 (of_decide_eq_true h1)];omega
   .rw [zv_f (of_decide_eq_true h2),Z5,Xd hx.2 (of_decide_eq_true h2)];omega
   .rw [zv_f (of_decide_eq_true h1),zv_f (of_decide_eq_true h2)]
    have e:decide (ordI (((((val x.2.1:Nat):Int)).gcd ((val x.2.2:Nat):Int):Nat):Int) 1=0)=decide (x.2.1≠[]/\x.2.2≠[]/\NZ x.2.1/\NZ x.2.2/\Nat.gcd (val x.2.1) (val x.2.2)=1):=by
     rw [decide_eq_decide,Q0,Int.gcd_natCast_natCast]
     have h1':=of_decide_eq_true h1
     have h2':=of_decide_eq_true h2
     constructor
     .intro h;exact ⟨hn,hd,h1',h2',by omega⟩
     .rintro ⟨_,_,_,_,h⟩;omega
    rw [e];exact hK
   .rw [decide_eq_false (λh=>of_decide_eq_false h2 h.2.2.2.1)]at hK;exact hK
   .rw [decide_eq_false (λh=>of_decide_eq_false h1 h.2.2.1)]at hK;exact hK
  have e0:∀{l:List Nat},¬l.length=0->l≠[]:=λh e=>h (by rw [e];rfl)
  have key0:¬(x.2.1=[]/\x.2.2=[])->(x.2.1=[]∨x.2.2=[])->K (AV.one (C.lit (Value.bool false))):=by
   intro h1 h2
   unfold vldR at hK
   rw [if_neg h1,decide_eq_false (λh=>h2.elim h.1 h.2.1)]at hK
   exact hK
  refine λ_=>⟨λhn _=>⟨λhd=>?_,λhd _=>⟨λh=>?_,λh=>absurd hn h⟩⟩,λhn _=>⟨λh=>absurd h hn,λ_ _=>⟨λhd=>?_,λhd=>key (e0 hn) (e0 hd)⟩⟩⟩
  .unfold vldR at hK
   rw [if_pos ⟨List.eq_nil_of_length_eq_zero hn,List.eq_nil_of_length_eq_zero hd⟩]at hK;exact hK
  .exact key0 (λh=>e0 hd h.2) (.inl (List.eq_nil_of_length_eq_zero hn))
  .exact key0 (λh=>e0 hn h.1) (.inr (List.eq_nil_of_length_eq_zero hd))
theorem Y0 (hΓ:Holds P Γ) {f fv fo:Nat} (hv:Γ fv=.dat true Ze) (ho:Γ fo=.dat false Xo) (hc:check P f=some (28,(kn fv fo).strip,[.cell 2 2 true,.cell 3 2 true])):Sound P f (.dat false xd):=by
 refine Va hc UI hΓ (λargs K hcl hfi hG=>?_)
 match args,hG with
 | [a],hG=>
  obtain ⟨x,rfl,hx,hl,hK⟩:=hG
  refine ⟨by simp,?_⟩
  simp only [go_sem,kn,hv,ho,jaF,UaE,QaE]
  have hl1:x.2.1.length<=4294967296:=Nat.le_trans (Nat.le_max_left _ _) hl
  have hl2:x.2.2.length<=4294967296:=Nat.le_trans (Nat.le_max_right _ _) hl
  have e0:(zcan 0)=(false,[]):=by simp [zcan,vb]
  have h0:rv x=0->K (AV.tup [AV.agg [C.lit (Value.bool false),C.slice []],AV.agg [zb (zcan 1),zm (zcan 1)]]):=by
   intro h
   rw [h]at hK
   have e1:((0:Rat).num)=0:=rfl
   have e2:((0:Rat).den:Int)=1:=rfl
   rw [e1,e2,e0]at hK;exact hK
  refine ⟨hx,hl,λhv _=>⟨λhn=>h0 ?_,λhn=>⟨by omega,by omega,?_⟩⟩,λhv=>h0 (uag hv)⟩
  .unfold rv;rw [if_pos hv,List.eq_nil_of_length_eq_zero hn];simp [val,sg]
  .obtain ⟨p1,p2,p3,p4,p5,p6⟩:=XS hx hv (λe=>hn (by rw [e];rfl))
   have hn0:=vc p4 (λe=>hn (by rw [e];rfl))
   rw [p1,p2]at hK
   have e1:zcan (sg x.1 (val x.2.1))=(x.1,x.2.1):=by
    rw [<-yR,Xd hx.1 p4]
    have:decide (0<x.2.1.length)=true:=by simp only [decide_eq_true_eq];omega
    rw [this,Bool.and_true]
   have e2:zcan ((val x.2.2:Nat):Int)=(false,x.2.2):=by
    have:=yR false (val x.2.2)
    rw [Xd hx.2 p5,Bool.false_and]at this
    exact this.symm
   rw [e1,e2]at hK;exact hK
theorem Jaj (hΓ:Holds P Γ) {f fs fn fg fd:Nat} (hs:Γ fs=.dat true Jf) (hn:Γ fn=.dat false Zu) (hg:Γ fg=.dat false zu) (hd:Γ fd=.dat false vC) (hc:check P f=some (47,(Xp fs fn fg fd).strip,[.cell 4 3 true])):Sound P f (.dat false uh):=by
 refine Va hc XO hΓ (λargs K hcl hfi hG=>?_)
 match args,hG with
 | [a,b],hG=>
  obtain ⟨v,rfl,hv,w,rfl,hw,hz,hz',h0,hK⟩:=hG
  refine ⟨by simp,?_⟩
  simp only [go_sem,Xp,hs,hn,hg,hd,hv,hw]
  generalize zv v=n at *
  generalize zv w=d at *
  have hd0:=h0
  refine ⟨λh=>?_,λh=>?_⟩
  .rw [Int.sign_eq_zero_iff_zero.1 h,Rat.zero_divInt,Xc]at hK;exact hK
  have hn0:n≠0:=λe=>h (by rw [e];rfl)
  have hg0:((Int.gcd n d:Nat):Int)≠0:=by
   have:=Int.gcd_pos_of_ne_zero_left d hn0;omega
  have hgz:zs ((Int.gcd n d:Nat):Int)<=17179869184:=QaM hd0 hz'
  simp only [Int.gcd_neg,Int.neg_gcd,Z7,va3]
  refine ⟨λhdn=>⟨by omega,by omega,hz,hz',λhnn=>⟨by omega,hz,hgz,hg0,hz',hgz,hg0,?_⟩,λhnn=>⟨hz,hgz,hg0,hz',hgz,hg0,?_⟩⟩,λhdn=>⟨hz,hz',λhnn=>⟨by omega,hz,hgz,hg0,hz',hgz,hg0,?_⟩,λhnn=>⟨hz,hgz,hg0,hz',hgz,hg0,?_⟩⟩⟩
  .rw [ZA hd0 hn0 (by omega) (by omega) (by omega) (by omega) rfl (by rw [decide_eq_decide,Int.sign_eq_neg_one_of_neg hdn];omega)];exact hK
  .rw [ZA hd0 hn0 (by omega) (by omega) (by omega) (by omega) rfl (by rw [decide_eq_decide,Int.sign_eq_neg_one_of_neg hdn];omega)];exact hK
  .rw [ZA hd0 hn0 (by omega) (by omega) (by omega) (by omega) rfl (by rw [decide_eq_decide,Int.sign_eq_one_of_pos (by omega)];omega)];exact hK
  .rw [ZA hd0 hn0 (by omega) (by omega) (by omega) (by omega) rfl (by rw [decide_eq_decide,Int.sign_eq_one_of_pos (by omega)];omega)];exact hK
theorem Q9 (hΓ:Holds P Γ) {f fo fn ff:Nat} (ho:Γ fo=.dat false WF) (hn:Γ fn=.dat false Xo) (hf:Γ ff=.dat false uh) (hc:check P f=some (7,(ko fo fn ff).strip,[.cell 2 3 true])):Sound P f (.dat false yy):=by
 refine Va hc Qa8 hΓ (λargs K hcl hfi hG=>?_)
 match args,hG with
 | [a],hG=>
  obtain ⟨k,n,rfl,rfl,hn1,hn2,hK⟩:=Zb hG
  refine ⟨by simp,?_⟩
  simp only [go_sem,ko,ho,hn,hf]
  have e:Rat.divInt n 1=(n:Rat):=Rat.num_divInt_den (n:Rat)
  rw [e]
  have h1:zs 1<=2:=zY (by decide)
  have h2:zs n<=2:=zY (by omega)
  exact ⟨hn1,hn2,by omega,by omega,by decide,hK⟩
theorem UQ (hΓ:Holds P Γ) {f fp fn ff:Nat} (hp:Γ fp=.dat false xd) (hn:Γ fn=.dat false Zu) (hf:Γ ff=.dat false uh) (hc:check P f=some (14,(Um fp fn ff).strip,[.cell 2 3 true])):Sound P f (.dat false ju):=by
 refine Va hc QaX hΓ (λargs K hcl hfi hG=>?_)
 match args,hG with
 | [a],hG=>
  obtain ⟨x,rfl,hx,hl,hK⟩:=hG
  refine ⟨by simp,?_⟩
  simp only [go_sem,Um,hp,hn,hf,hx]
  have n1:=xC hx
  have d1:=JF hx
  rw [XaJ,Z7]
  exact ⟨hl,by omega,by omega,by omega,yz _,hK⟩
theorem wag (hΓ:Holds P Γ) {f fp fs:Nat} (hp:Γ fp=.dat false xd) (hs:Γ fs=.dat true Jf) (hc:check P f=some (12,(Zp fp fs).strip,[.tmp 2])):Sound P f (.dat true yt):=by
 refine Va hc kaF hΓ (λargs K hcl hfi hG=>?_)
 match args,hG with
 | [a],hG=>
  obtain ⟨x,rfl,hx,hl,hK⟩:=hG
  refine ⟨by simp,?_⟩
  simp only [go_sem,Zp,hp,hs,hx]
  rw [<-zaT]
  exact ⟨hl,hK⟩
theorem VR (hΓ:Holds P Γ) {f fp fm fa ff:Nat} (hp:Γ fp=.dat false xd) (hm:Γ fm=.dat false yu) (ha:Γ fa=.dat false zx) (hf:Γ ff=.dat false uh) (hc:check P f=some (30,(um fp fm fa ff).strip,[.cell 4 3 true])):Sound P f (.dat false qn):=by
 refine Va hc zaQ hΓ (λargs K hcl hfi hG=>?_)
 match args,hG with
 | [a,b],hG=>
  obtain ⟨x,rfl,hx,y,rfl,hy,hl,hl',hK⟩:=hG
  refine ⟨by simp,?_⟩
  simp only [go_sem,um,hp,hm,ha,hf,hx,hy]
  have n1:=xC hx
  have d1:=JF hx
  have n2:=xC hy
  have d2:=JF hy
  rw [Int.natCast_mul,W9]
  have m1:=kt (rv x).num (rv y).den
  have m2:=kt (rv y).num (rv x).den
  have m3:=kt ((rv x).den:Int) (rv y).den
  have a1:=zK ((rv x).num*(rv y).den) ((rv y).num*(rv x).den)
  exact ⟨hl,hl',by omega,by omega,by omega,by omega,by omega,by omega,by omega,by omega,by omega,by omega,Int.mul_ne_zero (yz _) (yz _),hK⟩
theorem qO (hΓ:Holds P Γ) {f fn fa:Nat} (hn:Γ fn=.dat false ju) (ha:Γ fa=.dat false qn) (hc:check P f=some (9,(jm fn fa).strip,[.cell 4 3 true])):Sound P f (.dat false Vu):=by
 refine Va hc WaQ hΓ (λargs K hcl hfi hG=>?_)
 match args,hG with
 | [a,b],hG=>
  obtain ⟨x,rfl,hx,y,rfl,hy,hl,hl',hK⟩:=hG
  refine ⟨by simp,?_⟩
  simp only [go_sem,jm,hn,ha,hx,hy]
  rw [<-Rat.sub_eq_add_neg,ZB]
  exact ⟨hl',hl,Nat.le_trans (Xf hy) hl',hK⟩
end Go.Abs
end
section
namespace Go.Num
def bln (n:Nat):Nat:=if n=0 then 0 else bln (n / 2)+1
termination_by n
decreasing_by omega
theorem UG:bln 0=0:=by rw [bln];rfl
theorem Jah {n:Nat} (h:n≠0):bln n=bln (n / 2)+1:=by rw [bln,if_neg h]
theorem vbs (n:Nat):n<2 ^ bln n:=by
 induction n using Nat.strongRecOn with
 | _ n ih=>
  by_cases h:n=0
  .subst h;rw [UG];decide
  .rw [Jah h,Nat.pow_succ]
   have:=ih (n / 2) (by omega)
   omega
theorem Vbf {n k:Nat} (h:n<2 ^ k):bln n<=k:=by
  induction k generalizing n with
  | zero => have : n = 0 := by omega
            subst this;rw [UG];exact Nat.le_refl _
  | succ k ih=>
    by_cases h0:n=0
    . subst h0;rw [UG];omega
    . rw [Jah h0]
      have:=ih (n:=n / 2) (by rw [Nat.pow_succ]at h;omega)
      omega
theorem US (l:List Nat) (m:Nat):val l=val (l.take m)+4294967296 ^ m*val (l.drop m):=by
 by_cases h:m<=l.length
 .conv=>lhs;rw [<-List.take_append_drop m l,Ub,List.length_take,Nat.min_eq_left h]
 .rw [List.take_of_length_le (by omega),List.drop_of_length_le (by omega)];simp [val]
theorem uz (l:List Nat) (m:Nat):val (l.drop m)=l.getD m 0+4294967296*val (l.drop (m+1)):=by
 by_cases h:m<l.length
 .have:=wK l (n:=m+1) (by omega) (by omega)
  exact this
 .rw [List.drop_of_length_le (by omega),List.drop_of_length_le (by omega),List.getD_eq_getElem?_getD,List.getElem?_eq_none (by omega)];simp [val]
theorem qaj {l:List Nat} (h:WL l) (m:Nat):val (l.take m)<4294967296 ^ m:=
 Nat.lt_of_lt_of_le (Xl (Qx h m)) (Nat.pow_le_pow_right (by omega) (by rw [List.length_take];omega))
theorem Ybe {x y:List Nat} {m:Nat} (hx:WL x) (hd:val (x.drop (m+1))=val (y.drop (m+1))) (h:x.getD m 0<y.getD m 0):val x<val y:=by
 have h1:=US x m
 have h2:=US y m
 have h3:=qaj hx m
 rw [uz,hd]at h1
 rw [uz]at h2
 generalize 4294967296 ^ m=p at *
 have:p*(x.getD m 0+4294967296*val (y.drop (m+1))+1)<=p*(y.getD m 0+4294967296*val (y.drop (m+1))):=Nat.mul_le_mul_left _ (by omega)
 rw [Nat.mul_add p _ 1]at this
 omega
theorem uX {x y c:Nat} (hx:x<4294967296) (hy:y<4294967296) (hc:c<=1):∃s:Nat,((((4294967296+(x:Int)) % 18446744073709551616-(y:Int)) % 18446744073709551616-(c:Int)) % 18446744073709551616)=(s:Int)/\
  (1-(s:Int) / 4294967296) % 18446744073709551616=((1-s / 4294967296:Nat):Int)/\s % 4294967296+y+c=x+4294967296*(1-s / 4294967296)/\1-s / 4294967296<=1:=by
 exact ⟨4294967296+x-y-c,by omega,by omega,by omega,by omega⟩
theorem va6 {V Q c xa ya a b u w B:Nat} (h:V+Q*c=xa+ya) (hs:u+B*w=a+b+c):V+Q*u+Q*B*w=xa+Q*a+(ya+Q*b):=by
 have:=congrArg (Q * ·) hs
 simp only [Nat.mul_add]at this
 rw [Nat.mul_assoc Q B w]
 omega
theorem xaP {o l post:List Nat} (h:o.length<=l.length):(o++(l.drop o.length++post)).length=l.length+post.length:=by simp;omega
theorem Vag {o l post:List Nat} (h:o.length<=l.length):(o++(l.drop o.length++post)).take l.length=o++l.drop o.length:=by
 rw [<-List.append_assoc,List.take_append_of_le_length (by simp;omega),List.take_of_length_le (by simp;omega)]
theorem Uau (o l:List Nat) (k:Nat):(o++l.drop o.length).getD (o.length+k) 0=l.getD (o.length+k) 0:=by
 simp only [List.getD_eq_getElem?_getD]
 rw [List.getElem?_append_right (by omega),List.getElem?_drop,show o.length+(o.length+k-o.length)=o.length+k by omega]
theorem ZT (o l:List Nat):(o++l.drop o.length).getD o.length 0=l.getD o.length 0:=Uau o l 0
theorem Xay {o l post:List Nat} (v:Nat) (h:o.length<l.length):(o++(l.drop o.length++post)).set o.length v=(o++[v])++(l.drop (o++[v]).length++post):=by
 have:=Jai [] o l post v h
 simpa using this
theorem ubo {o l:List Nat} (h:o.length<=l.length):(o++l.drop o.length).length=l.length:=by simp;omega
theorem Wbm {o l:List Nat} (v:Nat) (h:o.length<l.length):(o++l.drop o.length).set o.length v=(o++[v])++l.drop (o++[v]).length:=by
 have:=Xay (post:=[]) v h
 simpa using this
theorem xbh {o l:List Nat} (ho:WL o) (hl:WL l):WL (o++l.drop o.length):=Qe.2 ⟨ho,Ybl hl _⟩
theorem Za5 {a b:Nat} (ha:a<4294967296) (hb:b<4294967296):(a / 2 ||| b*2147483648 % 18446744073709551616) % 4294967296=(a+4294967296*b) / 2 ^ 1 % 4294967296:=by
 have:=Nat.two_pow_add_eq_or_of_lt (i:=31) (b:=a / 2) (by omega) b
 rw [Nat.mod_eq_of_lt (show b*2147483648<18446744073709551616 by omega),Nat.or_comm,show b*2147483648=2 ^ 31*b by omega,<-this]
 omega
theorem UaV {l post:List Nat} {i:Nat} (h:i<l.length):(l++post).getD i 0=l.getD i 0:=by
 simp only [List.getD_eq_getElem?_getD];rw [List.getElem?_append_left h]
theorem vl {a:Nat} (h:a≠0):0<(digs a).length:=by rw [vq h];simp
theorem Ww {a:Nat} (h:a≠0) (p:List Nat):(digs a++p).getD 0 0=a % 4294967296:=by rw [vq h];rfl
theorem Yw {a:Nat}:(digs a).length=0↔a=0:=by rw [List.length_eq_zero_iff,yf]
theorem ubv {a b k g:Nat} (ha:a % 2=0) (hb:b % 2=0) (h:Nat.gcd a b*2 ^ k=g):Nat.gcd (a / 2) (b / 2)*2 ^ (k+1)=g:=by
 obtain ⟨a',rfl⟩:∃a',a=2*a':=⟨a / 2,by omega⟩
 obtain ⟨b',rfl⟩:∃b',b=2*b':=⟨b / 2,by omega⟩
 rw [Nat.gcd_mul_left]at h
 rw [Nat.mul_div_cancel_left _ (by omega),Nat.mul_div_cancel_left _ (by omega),Nat.pow_succ,<-h]
 rw [Nat.mul_comm (2 ^ k) 2,<-Nat.mul_assoc,Nat.mul_comm _ 2]
theorem Xa0 {a b:Nat} (ha:a % 2=0) (hb:b % 2≠0):Nat.gcd (a / 2) b=Nat.gcd a b:=by
 obtain ⟨a',rfl⟩:∃a',a=2*a':=⟨a / 2,by omega⟩
 rw [Nat.mul_div_cancel_left _ (by omega)]
 have:Nat.Coprime 2 b:=by
  rw [Nat.coprime_iff_gcd_eq_one,Nat.gcd_rec,show b % 2=1 by omega];rfl
 exact (Nat.Coprime.gcd_mul_left_cancel a' this).symm
theorem Vbe {a b:Nat} (ha:a % 2≠0) (hb:b % 2=0):Nat.gcd a (b / 2)=Nat.gcd a b:=by
 rw [Nat.gcd_comm a,Nat.gcd_comm a];exact Xa0 hb ha
theorem zV {a b:Nat} (h:b<=a):Nat.gcd (a-b) b=Nat.gcd a b:=Nat.gcd_sub_self_left h
theorem Vbp {k n:Nat} (h:2 ^ k<=n) {s:Nat} (hn:n<4294967296 ^ s):k<32*s:=by
 have e:(4294967296:Nat) ^ s=2 ^ (32*s):=by rw [Nat.pow_mul]
 rw [e]at hn
 exact (Nat.pow_lt_pow_iff_right (by omega)).1 (Nat.lt_of_le_of_lt h hn)
theorem wH {a b:Nat}:ordN a b<0↔a<b:=by unfold ordN;split <;> (try split) <;> omega
theorem Ybk {x:List Nat} (hx:WL x) (h:x.length≠0):val x<2 ^ (32*(x.length-1)+bln (x.getD (x.length-1) 0)):=by
 have h1:=US x (x.length-1)
 have h2:=uz x (x.length-1)
 rw [show x.length-1+1=x.length by omega,List.drop_length]at h2
 have h3:=qaj hx (x.length-1)
 have h4:=vbs (x.getD (x.length-1) 0)
 have e:(4294967296:Nat) ^ (x.length-1)=2 ^ (32*(x.length-1)):=by rw [Nat.pow_mul]
 rw [h2,show val []=0 from rfl,Nat.mul_zero,Nat.add_zero]at h1
 rw [Nat.pow_add,<-e]
 generalize 4294967296 ^ (x.length-1)=p at *
 generalize 2 ^ bln (x.getD (x.length-1) 0)=q at *
 have:p*(x.getD (x.length-1) 0+1)<=p*q:=Nat.mul_le_mul_left _ h4
 rw [Nat.mul_add,Nat.mul_one]at this
 omega
theorem digit (x:List Nat) {m:Nat} (hx:WL x):val x / 4294967296 ^ m=x.getD m 0+4294967296*val (x.drop (m+1)):=by
 rw [US x m,uz,Nat.add_mul_div_left _ _ (Nat.pow_pos (by omega)),Nat.div_eq_of_lt (qaj hx m),Nat.zero_add]
theorem jK (i:Nat):(2:Nat) ^ i=4294967296 ^ (i / 32)*2 ^ (i % 32):=by
 have e:(4294967296:Nat) ^ (i / 32)=2 ^ (32*(i / 32)):=by rw [Nat.pow_mul]
 rw [e,<-Nat.pow_add,Nat.div_add_mod]
theorem XbD {x:List Nat} (hx:WL x) (i:Nat):x.getD (i / 32) 0 / 2 ^ (i % 32) % 2=val x / 2 ^ i % 2:=by
 rw [jK i,<-Nat.div_div_eq_div_mul,digit x hx]
 have hs:i % 32<32:=Nat.mod_lt _ (by omega)
 generalize i % 32=s at *
 generalize val (x.drop (i / 32+1))=r
 have e:(4294967296:Nat)=2 ^ s*(2*2 ^ (31-s)):=by
  rw [Nat.mul_left_comm,<-Nat.pow_add,show s+(31-s)=31 by omega]
 rw [e,Nat.mul_assoc,Nat.add_mul_div_left _ _ (Nat.pow_pos (by omega)),Nat.mul_assoc,Nat.add_mul_mod_self_left]
theorem Yay (v i:Nat):v / 2 ^ i=2*(v / 2 ^ (i+1))+v / 2 ^ i % 2:=by
 rw [Nat.pow_succ,<-Nat.div_div_eq_div_mul];omega
theorem zbs {a c:Nat} (hc:c<=1):a*2 % 4294967296 ||| c=a*2 % 4294967296+c:=by
 have:=Nat.two_pow_add_eq_or_of_lt (i:=1) (b:=c) (by omega) (a*2 % 4294967296 / 2)
 rw [show 2 ^ 1*(a*2 % 4294967296 / 2)=a*2 % 4294967296 by omega]at this
 exact this.symm
theorem kbn {a s:Nat} (hs:s<32) (h:a % 2 ^ (s+1)=0):a ||| 2 ^ s=a+2 ^ s:=by
 have:=Nat.two_pow_add_eq_or_of_lt (i:=s+1) (b:=2 ^ s) (Nat.pow_lt_pow_right (by omega) (by omega)) (a / 2 ^ (s+1))
 rw [Nat.mul_div_cancel' (Nat.dvd_of_mod_eq_zero h)]at this
 exact this.symm
theorem Ya4 {q:List Nat} (hq:WL q) {i Q:Nat} (h:val q=Q*2 ^ (i+1)):q.getD (i / 32) 0 % 2 ^ (i % 32+1)=0:=by
 have hs:i % 32<32:=Nat.mod_lt _ (by omega)
 have h1:=digit q hq (m:=i / 32)
 have e1:(2:Nat) ^ (i+1)=4294967296 ^ (i / 32)*2 ^ (i % 32+1):=by rw [Nat.pow_succ,jK,Nat.pow_succ,Nat.mul_assoc]
 rw [h,e1,Nat.mul_left_comm,Nat.mul_div_cancel_left _ (Nat.pow_pos (by omega))]at h1
 generalize i % 32=s at *
 generalize val (q.drop (i / 32+1))=r at *
 have e2:(4294967296:Nat)=2 ^ (s+1)*2 ^ (31-s):=by
  rw [<-Nat.pow_add,show s+1+(31-s)=32 by omega]
 have:(q.getD (i / 32) 0+4294967296*r) % 2 ^ (s+1)=0:=by rw [<-h1];exact Nat.mul_mod_left _ _
 rw [e2,Nat.mul_assoc,Nat.add_mul_mod_self_left]at this
 exact this
theorem Ja8 {vo p c tr bit x:Nat} (h:vo+p*c=2*tr+bit) (hx:x<4294967296):vo+p*(x*2 % 4294967296+c)+p*4294967296*(x / 2147483648)=2*(tr+p*x)+bit:=by
 have e:x*2 % 4294967296+4294967296*(x / 2147483648)=2*x:=by omega
 have:=congrArg (p * ·) e
 simp only [Nat.mul_add]at this ⊢
 rw [Nat.mul_assoc p 4294967296]
 have e2:p*(2*x)=2*(p*x):=by rw [Nat.mul_left_comm]
 omega
theorem za4 {v y i q r bit:Nat} (hy:0<y) (hb:v / 2 ^ i % 2=bit) (hq:q=v / 2 ^ (i+1) / y*2 ^ (i+1)) (hr:r=v / 2 ^ (i+1) % y) (h:y<=2*r+bit):q+2 ^ i=v / 2 ^ i / y*2 ^ i/\2*r+bit-y=v / 2 ^ i % y:=by
 have e:=Yay v i
 rw [hb]at e
 have d:=Nat.div_add_mod (v / 2 ^ (i+1)) y
 have hm:=Nat.mod_lt (v / 2 ^ (i+1)) hy
 rw [<-hr]at d hm
 generalize hQ:v / 2 ^ (i+1) / y=Q at *
 generalize v / 2 ^ (i+1)=X at *
 have hb1:bit<=1:=by omega
 have key:v / 2 ^ i=y*(2*Q+1)+(2*r+bit-y):=by
  have e2:y*(2*Q+1)=2*(y*Q)+y:=by rw [Nat.mul_add,Nat.mul_one,Nat.mul_left_comm y 2 Q]
  rw [e,<-d,e2];omega
 have hlt:2*r+bit-y<y:=by omega
 constructor
 .rw [key,Nat.mul_add_div hy,Nat.div_eq_of_lt hlt,Nat.add_zero,hq,Nat.pow_succ,Nat.add_mul,Nat.one_mul,Nat.mul_comm 2 Q,Nat.mul_assoc,Nat.mul_comm 2]
 .rw [key,Nat.mul_add_mod,Nat.mod_eq_of_lt hlt]
theorem zaH {v y i q r bit:Nat} (hy:0<y) (hb:v / 2 ^ i % 2=bit) (hq:q=v / 2 ^ (i+1) / y*2 ^ (i+1)) (hr:r=v / 2 ^ (i+1) % y) (h:2*r+bit<y):q=v / 2 ^ i / y*2 ^ i/\2*r+bit=v / 2 ^ i % y:=by
 have e:=Yay v i
 rw [hb]at e
 have d:=Nat.div_add_mod (v / 2 ^ (i+1)) y
 rw [<-hr]at d
 generalize hQ:v / 2 ^ (i+1) / y=Q at *
 generalize v / 2 ^ (i+1)=X at *
 have key:v / 2 ^ i=y*(2*Q)+(2*r+bit):=by
  have e2:y*(2*Q)=2*(y*Q):=by rw [Nat.mul_left_comm y 2 Q]
  rw [e,<-d,e2];omega
 constructor
 .rw [key,Nat.mul_add_div hy,Nat.div_eq_of_lt h,Nat.add_zero,hq,Nat.pow_succ,Nat.mul_comm 2 Q,Nat.mul_assoc,Nat.mul_comm 2]
 .rw [key,Nat.mul_add_mod,Nat.mod_eq_of_lt h]
end Go.Num
namespace Go.Abs
open Go.Num
theorem share4 {c1 c2 c3 p d1 d2 d3 q X L:Prop} (h1:c1) (h2:c2) (h3:c3) (k1:d1) (k2:d2) (k3:d3) (hx:p->q->X) (hl:¬p∨¬q->L):c1/\c2/\c3/\(p->d1/\d2/\d3/\(q->X)/\(¬q->L))/\(¬p->L):=
 ⟨h1,h2,h3,λhp=>⟨k1,k2,k3,hx hp,λhq=>hl (.inr hq)⟩,λhp=>hl (.inl hp)⟩
theorem xm (K:AV->Prop) (a:Nat):arith K .and .u32 (a:Int) 1=(a<2 ^ IntKind.u32.bits/\intR K .u32 ((a % 2:Nat):Int)):=UaA K .u32 a rfl (by decide)
theorem Vad {h' : Nat->HB} {k v v' z:Nat} {b:Bool} {es:List (List C)} {l' : List Nat} {r:List (Nat×HB)} (e:es=l'.map wc):okH (mkH ((k,⟨v,some ⟨es,z,b⟩⟩)::r)) h' [(k,⟨v',some ⟨l'.map wc,z,b⟩⟩)]:=by
 subst e;exact Uf rfl
theorem yaN {h h' : Nat->HB} {z:Nat} {b:Bool} {es:List (List C)} {l' : List Nat} (e:es=l'.map wc):okB h h' (some ⟨es,z,b⟩) (some ⟨l'.map wc,z,b⟩):=by
 subst e;exact Jb rfl
theorem kaH (L:List Nat) (i s:Nat):(L.map wc).set i [C.lit (.int .u32 ((s:Int) % 4294967296))]=(L.set i (s % 4294967296)).map wc:=by
 rw [List.map_set];simp [wc]
def onWx (k:List Nat->Prop) (a:AV):Prop:=∃l,(a=.one (ws l)∨a=.one (.full (l.map wc))∨(a=.one .emp/\l=[]))/\WL l/\k l
@[congr] theorem qbO {k:List Nat->Prop} {a a' : AV} (h:a=a'):onWx k a=onWx k a':=by subst h;rfl
theorem uac (k:List Nat->Prop) (l:List Nat):onWx k (.one (.slice (l.map wc)))=(WL l/\k l):=by
 refine propext ⟨λ⟨x,h,h1,h2⟩=>?_,λh=>⟨l,.inl rfl,h⟩⟩
 rcases h with h | h | h
 .have:=Jy l x h;subst this;exact ⟨h1,h2⟩
 .simp at h
 .simp at h
theorem WaI (k:List Nat->Prop) (l:List Nat):onWx k (.one (.full (l.map wc)))=(WL l/\k l):=by
 refine propext ⟨λ⟨x,h,h1,h2⟩=>?_,λh=>⟨l,.inr (.inl rfl),h⟩⟩
 rcases h with h | h | h
 .simp [ws]at h
 .have:=ZS (x:=l) (y:=x) (by simpa using h);subst this;exact ⟨h1,h2⟩
 .simp at h
theorem waM (k:List Nat->Prop):onWx k (.one .emp)=k []:=by
 refine propext ⟨λ⟨x,h,h1,h2⟩=>?_,λh=>⟨[],.inr (.inr ⟨rfl,rfl⟩),Qc,h⟩⟩
 rcases h with h | h | h
 .simp [ws]at h
 .simp at h
 .obtain ⟨_,rfl⟩:=h;exact h2
attribute [go_sem] uac WaI waM
attribute [go_sem ↓] uac WaI waM
theorem vbv {β:Type} {T:List Nat->(β->Prop)->Prop} (h:∀l,GoodT (T l)) {a:AV}:GoodT λK=>onWx (λl=>T l K) a:=
 .of λK hx=>by
  obtain ⟨l,ha,hw,hk⟩:=hx
  rcases ha with ha | ha | ⟨ha,rfl⟩
  .have:(λK=>onWx (λl=>T l K) a)=λK=>WL l/\T l K:=funext λK=>by rw [ha];exact uac _ l
   rw [this];exact .and λ_=>h l
  .have:(λK=>onWx (λl=>T l K) a)=λK=>WL l/\T l K:=funext λK=>by rw [ha];exact WaI _ l
   rw [this];exact .and λ_=>h l
  .have:(λK=>onWx (λl=>T l K) a)=T []:=funext λK=>by rw [ha];exact waM _
   rw [this];exact h []
def vu (l:List AV) (K:List (List C)->Prop):Prop:=
 match l with
 | [a]=>onWx (λl=>l.length<=68719476736/\K ((digs (val l)).map wc)) a
 | _=>False
theorem Ya3 (a:AV) (K:List (List C)->Prop):vu [a] K=(onWx (λl=>l.length<=68719476736/\K ((digs (val l)).map wc)) a):=propext Iff.rfl
@[congr] theorem ubO {K:List (List C)->Prop} {l l' : List AV} (h:l=l'):vu l K=vu l' K:=by subst h;rfl
attribute [go_sem] Ya3
attribute [go_sem ↓] Ya3
theorem XaL:Good vu:=ka λas=>by
 unfold vu
 split
 .exact (vbv λ_=>(.and λ_=>(.ret _)))
 .exact .of λK hk=>hk.elim
def Jt (l:List AV) (K:AV->Prop):Prop:=
 match l with
 | [a,b]=>onWs (λx=>onWs (λy=>K (.one (.lit (.int .i64 (ordN (val x) (val y)))))) b) a
 | _=>False
theorem zaA (a b:AV) (K:AV->Prop):Jt [a,b] K=(onWs (λx=>onWs (λy=>K (.one (.lit (.int .i64 (ordN (val x) (val y)))))) b) a):=propext Iff.rfl
@[congr] theorem YbE {K:AV->Prop} {l l' : List AV} (h:l=l'):Jt l K=Jt l' K:=by subst h;rfl
attribute [go_sem] zaA
attribute [go_sem ↓] zaA
theorem ZaB:Good Jt:=ka λas=>by
 unfold Jt
 split
 .exact (ue λ_=>(ue λ_=>(.ret _)))
 .exact .of λK hk=>hk.elim
def Yx (l:List AV) (K:AV->Prop):Prop:=
 match l with
 | [a,b]=>onWs (λx=>onWs (λy=>x.length<=17179869184/\y.length<=17179869184/\K (.one (.slice ((digs (Nat.gcd (val x) (val y))).map wc)))) b) a
 | _=>False
theorem Zap (a b:AV) (K:AV->Prop):Yx [a,b] K=(onWs (λx=>onWs (λy=>x.length<=17179869184/\y.length<=17179869184/\K (.one (.slice ((digs (Nat.gcd (val x) (val y))).map wc)))) b) a):=propext Iff.rfl
@[congr] theorem ZbI {K:AV->Prop} {l l' : List AV} (h:l=l'):Yx l K=Yx l' K:=by subst h;rfl
attribute [go_sem] Zap
attribute [go_sem ↓] Zap
theorem WaF:Good Yx:=ka λas=>by
 unfold Yx
 split
 .exact (ue λ_=>(ue λ_=>(.and λ_=>(.and λ_=>(.ret _)))))
 .exact .of λK hk=>hk.elim
def xq (l:List AV) (K:AV->Prop):Prop:=
 match l with
 | [a]=>onWs (λx=>x.length<=68719476736/\K (.one (.lit (.int .i64 ((if x.length=0 then 0 else 32*(x.length-1)+bln (x.getD (x.length-1) 0):Nat):Int))))) a
 | _=>False
theorem Z1 (a:AV) (K:AV->Prop):xq [a] K=(onWs (λx=>x.length<=68719476736/\K (.one (.lit (.int .i64 ((if x.length=0 then 0 else 32*(x.length-1)+bln (x.getD (x.length-1) 0):Nat):Int))))) a):=propext Iff.rfl
@[congr] theorem zbB {K:AV->Prop} {l l' : List AV} (h:l=l'):xq l K=xq l' K:=by subst h;rfl
attribute [go_sem] Z1
attribute [go_sem ↓] Z1
theorem zak:Good xq:=ka λas=>by
 unfold xq
 split
 .exact (ue λ_=>(.and λ_=>(.ret _)))
 .exact .of λK hk=>hk.elim
def VF (l:List AV) (K:AV->Prop):Prop:=
 match l with
 | [a,b]=>onW (λv=>onW (λw=>zs (zv v)<=17179869184/\zs (zv w)<=17179869184/\K (.agg [zb (zcan (zv v-zv w)),zm (zcan (zv v-zv w))])) b) a
 | _=>False
theorem JaH (a b:AV) (K:AV->Prop):VF [a,b] K=(onW (λv=>onW (λw=>zs (zv v)<=17179869184/\zs (zv w)<=17179869184/\K (.agg [zb (zcan (zv v-zv w)),zm (zcan (zv v-zv w))])) b) a):=propext Iff.rfl
@[congr] theorem ZbN {K:AV->Prop} {l l' : List AV} (h:l=l'):VF l K=VF l' K:=by subst h;rfl
attribute [go_sem] JaH
attribute [go_sem ↓] JaH
theorem YaQ:Good VF:=ka λas=>by
 unfold VF
 split
 .exact (ym λ_=>(ym λ_=>(.and λ_=>(.and λ_=>(.ret _)))))
 .exact .of λK hk=>hk.elim
def xr (l:List AV) (K:AV->Prop):Prop:=
 match l with
 | [a,b]=>onW (λv=>onW (λw=>zs (zv v)<=17179869184/\zs (zv w)<=17179869184/\zs (zv v-zv w)<=17179869184/\K (.one (.lit (.int .i64 (ordI (zv v) (zv w)))))) b) a
 | _=>False
theorem qab (a b:AV) (K:AV->Prop):xr [a,b] K=(onW (λv=>onW (λw=>zs (zv v)<=17179869184/\zs (zv w)<=17179869184/\zs (zv v-zv w)<=17179869184/\K (.one (.lit (.int .i64 (ordI (zv v) (zv w)))))) b) a):=propext Iff.rfl
@[congr] theorem xbz {K:AV->Prop} {l l' : List AV} (h:l=l'):xr l K=xr l' K:=by subst h;rfl
attribute [go_sem] qab
attribute [go_sem ↓] qab
theorem Yae:Good xr:=ka λas=>by
 unfold xr
 split
 .exact (ym λ_=>(ym λ_=>(.and λ_=>(.and λ_=>(.and λ_=>(.ret _))))))
 .exact .of λK hk=>hk.elim
def Qr (l:List AV) (K:AV->Prop):Prop:=
 match l with
 | [a,b]=>onW (λv=>onW (λw=>zs (zv v)<=17179869184/\zs (zv w)<=17179869184/\zv w≠0/\K (.tup [.agg [zb (zcan (zv v / zv w)),zm (zcan (zv v / zv w))],.agg [zb (zcan (zv v % zv w)),zm (zcan (zv v % zv w))],.one (.lit (.int .i64 0))])) b) a
 | _=>False
theorem W7 (a b:AV) (K:AV->Prop):Qr [a,b] K=(onW (λv=>onW (λw=>zs (zv v)<=17179869184/\zs (zv w)<=17179869184/\zv w≠0/\K (.tup [.agg [zb (zcan (zv v / zv w)),zm (zcan (zv v / zv w))],.agg [zb (zcan (zv v % zv w)),zm (zcan (zv v % zv w))],.one (.lit (.int .i64 0))])) b) a):=propext Iff.rfl
@[congr] theorem yby {K:AV->Prop} {l l' : List AV} (h:l=l'):Qr l K=Qr l' K:=by subst h;rfl
attribute [go_sem] W7
attribute [go_sem ↓] W7
theorem Vaj:Good Qr:=ka λas=>by
 unfold Qr
 split
 .exact (ym λ_=>(ym λ_=>(.and λ_=>(.and λ_=>(.and λ_=>(.ret _))))))
 .exact .of λK hk=>hk.elim
def kZ (d:Option Nat) (args:List AV) (h:Nat->HB) (K:AV->(Nat->HB)->Prop):Prop:=
 match args with
 | [.one (.own r ver 1 0 len)]=>∃l post,len=l.length/\h r=⟨ver,some ⟨(l++post).map wc,1,true⟩⟩/\WL l/\len<=68719476736/\
   ∀post',K (.one (.own r ver 1 0 (digs (val l)).length)) (upd h r ⟨ver,some ⟨(digs (val l)++post').map wc,1,true⟩⟩)
 | _=>False
@[congr] theorem kbT {d:Option Nat} {l l' : List AV} {h h' : Nat->HB} {K:AV->(Nat->HB)->Prop} (e1:l=l') (e2:h=h'):kZ d l h K=kZ d l' h' K:=by subst e1;subst e2;rfl
def kp (d:Option Nat) (args:List AV) (h:Nat->HB) (K:AV->(Nat->HB)->Prop):Prop:=
 match args with
 | [.one (.own r ver 1 0 len)]=>∃l post,len=l.length/\h r=⟨ver,some ⟨(l++post).map wc,1,true⟩⟩/\WL l/\len<=68719476736/\
   ∀post',K (.one (.own r ver 1 0 (digs (val l / 2)).length)) (upd h r ⟨ver,some ⟨(digs (val l / 2)++post').map wc,1,true⟩⟩)
 | _=>False
@[congr] theorem JbF {d:Option Nat} {l l' : List AV} {h h' : Nat->HB} {K:AV->(Nat->HB)->Prop} (e1:l=l') (e2:h=h'):kp d l h K=kp d l' h' K:=by subst e1;subst e2;rfl
def xw (d:Option Nat) (args:List AV) (h:Nat->HB) (K:AV->(Nat->HB)->Prop):Prop:=
 match args with
 | [.one (.own r ver 1 0 len),.one (.own r2 ver2 1 0 len2)]=>∃l post y posty,r≠r2/\len=l.length/\h r=⟨ver,some ⟨(l++post).map wc,1,true⟩⟩/\WL l/\len<=68719476736/\
   len2=y.length/\h r2=⟨ver2,some ⟨(y++posty).map wc,1,true⟩⟩/\WL y/\val y<=val l/\
   K (.tup []) (upd (upd h r2 ⟨ver2,some ⟨(y++posty).map wc,1,true⟩⟩) r ⟨ver,some ⟨(dig l.length (val l-val y)++post).map wc,1,true⟩⟩)
 | [.one (.own r ver 1 0 len),b]=>onWs (λy=>∃l post,len=l.length/\h r=⟨ver,some ⟨(l++post).map wc,1,true⟩⟩/\WL l/\len<=68719476736/\val y<=val l/\
   K (.tup []) (upd h r ⟨ver,some ⟨(dig l.length (val l-val y)++post).map wc,1,true⟩⟩)) b
 | _=>False
@[congr] theorem ubP {d:Option Nat} {l l' : List AV} {h h' : Nat->HB} {K:AV->(Nat->HB)->Prop} (e1:l=l') (e2:h=h'):xw d l h K=xw d l' h' K:=by subst e1;subst e2;rfl
end Go.Abs
end
section
namespace Go.Abs
open Go.Num
variable {P:Program} {Γ:Nat->Spec}
def Jg (f0 f1 f2 f3:Nat):AC:=(.seq (.ops false [.u 1 (.box 3 (.t 0)),.m 2 .fa])
 (.fg [1] (.seq (.seq (.ops false [.u 3 (.fa 1 (.t 1)),.u 4 (.ld none 1 false (.t 3)),.u 5 (.len (.t 4)),.u 6 (.bin .eql (.t 5) (.i 0)),.m 7 (.t 6),.w 8 7 true (.fa 2 (.t 1)),.w 9 7 true (.ld none 1 false (.t 8)),.w 10 7 true (.len (.t 9)),.w 11 7 true (.bin .eql (.t 10) (.i 0)),.u 12 (.pick (.t 7) (.t 11) .fa)])
 (.fg [1,12] (.cond (.t 12) (.seq (.ops false [.u 13 (.fa 0 (.t 1)),.u 14 (.ld none 1 false (.t 13)),.u 15 (.un .not (.t 14)),.m 2 (.t 15)])
 .ret) .skip)))
 (.fg [1] (.seq (.ops false [.u 16 (.fa 1 (.t 1)),.u 17 (.ld none 1 false (.t 16)),.u 18 (.call f0 [(.t 17)]),.m 19 (.t 18),.w 20 19 true (.fa 2 (.t 1)),.w 21 19 true (.ld none 1 false (.t 20)),.w 22 19 true (.call f0 [(.t 21)]),.u 23 (.pick (.t 19) (.t 22) .fa),.m 24 (.t 23),.w 25 24 true (.fa 1 (.t 1)),.w 26 24 true (.ld none 1 false (.t 25)),.w 27 24 true (.build [.z [(.lit (.bool false))],.x 1 (.t 26)]),.w 28 24 true (.fa 2 (.t 1)),.w 29 24 true (.ld none 1 false (.t 28)),.w 30 24 true (.build [.z [(.lit (.bool false))],.x 1 (.t 29)]),.w 31 24 true (.call f1 [(.t 27),(.t 30)]),.w 32 24 true (.call f2 []),.w 33 24 true (.call f3 [(.t 31),(.t 32)]),.w 34 24 true (.bin .eql (.t 33) (.i 0)),.u 35 (.pick (.t 24) (.t 34) .fa),.m 2 (.t 35)])
 .ret)))))
def vg (f0 f1:Nat):AC:=(.seq (.ops false [.u 1 (.box 3 (.t 0)),.u 2 (.alloc [(.lit (.bool false)),.emp]),.u 3 (.alloc [(.lit (.bool false)),.emp])])
 (.fg [1,2,3] (.seq (.seq (.ops false [.u 4 (.ld none 3 true (.t 1)),.u 5 (.call f0 [(.t 4)]),.u 6 (.un .not (.t 5)),.m 7 (.t 6),.w 8 7 false (.fa 1 (.t 1)),.w 9 7 false (.ld none 1 false (.t 8)),.w 10 7 false (.len (.t 9)),.w 11 7 false (.bin .eql (.t 10) (.i 0)),.u 12 (.pick (.t 7) .tr (.t 11))])
 (.fg [1,2,3,12] (.cond (.t 12) (.seq (.ops false [.u 13 (.build [.z [(.lit (.bool false)),.emp]]),.u 14 (.call f1 []),.n (.st none 2 (.t 2) (.t 13)),.n (.st none 2 (.t 3) (.t 14))])
 .ret) .skip)))
 (.fg [1,2,3] (.seq (.ops true [.u 15 (.fa 0 (.t 1)),.u 16 (.ld (some 1) 1 false (.t 15)),.u 17 (.fa 1 (.t 1)),.u 18 (.ld (some 1) 1 false (.t 17)),.u 19 (.build [.x 1 (.t 16),.x 1 (.t 18)]),.u 20 (.fa 2 (.t 1)),.u 21 (.ld (some 1) 1 false (.t 20)),.u 22 (.build [.z [(.lit (.bool false))],.x 1 (.t 21)]),.n (.st (some 2) 2 (.t 2) (.t 19)),.n (.st (some 3) 2 (.t 3) (.t 22))])
 .ret)))))
def Yh (f0 f1 f2 f3:Nat):AC:=(.seq (.ops false [.u 2 (.box 2 (.t 0)),.u 3 (.box 2 (.t 1)),.u 4 (.alloc [(.lit (.bool false)),.emp,.emp])])
 (.fg [2,3,4] (.seq (.seq (.ops false [.u 12 (.ld none 2 true (.t 2)),.u 13 (.call f0 [(.t 12)]),.u 14 (.bin .eql (.t 13) (.i 0))])
 (.fg [2,3,4,14] (.cond (.t 14) (.seq (.ops false [.u 15 (.build [.z [(.lit (.bool false)),.emp,.emp]]),.n (.st none 3 (.t 4) (.t 15))])
 .ret) .skip)))
 (.fg [2,3,4] (.seq (.seq (.ops false [.u 16 (.ld none 2 true (.t 3)),.u 17 (.call f0 [(.t 16)]),.u 18 (.bin .lss (.t 17) (.i 0))])
 (.fg [2,3,4,18] (.cond (.t 18) (.ops true [.u 19 (.ld none 2 true (.t 2)),.u 20 (.call f1 [(.t 19)]),.u 21 (.ld none 2 true (.t 3)),.u 22 (.call f1 [(.t 21)]),.n (.st none 2 (.t 2) (.t 20)),.n (.st none 2 (.t 3) (.t 22))]) .skip)))
 (.fg [2,3,4] (.seq (.ops false [.u 23 (.ld none 2 true (.t 2)),.u 24 (.ld none 2 true (.t 3)),.u 25 (.call f2 [(.t 23),(.t 24)]),.u 5 (.alloc [(.lit (.bool false)),.emp]),.n (.st none 2 (.t 5) (.t 25))])
 (.fg [2,3,4,5] (.seq (.ops false [.u 27 (.ld none 2 true (.t 2)),.u 28 (.ld none 2 true (.t 5)),.u 29 (.call f3 [(.t 27),(.t 28)]),.m 26 (.t 29),.u 30 (.ext 0 (.t 26)),.u 31 (.ext 1 (.t 26)),.u 32 (.ext 2 (.t 26)),.u 6 (.alloc [(.lit (.bool false)),.emp]),.u 7 (.alloc [(.lit (.bool false)),.emp]),.n (.st none 2 (.t 6) (.t 30)),.n (.st none 2 (.t 7) (.t 31)),.m 8 (.t 32)])
 (.fg [3,4,5,6] (.seq (.ops false [.u 34 (.ld none 2 true (.t 3)),.u 35 (.ld none 2 true (.t 5)),.u 36 (.call f3 [(.t 34),(.t 35)]),.m 33 (.t 36),.u 37 (.ext 0 (.t 33)),.u 38 (.ext 1 (.t 33)),.u 39 (.ext 2 (.t 33)),.u 9 (.alloc [(.lit (.bool false)),.emp]),.u 10 (.alloc [(.lit (.bool false)),.emp]),.n (.st none 2 (.t 9) (.t 37)),.n (.st none 2 (.t 10) (.t 38)),.m 11 (.t 39)])
 (.fg [4,6,9] (.seq (.ops false [.u 40 (.fa 0 (.t 6)),.u 41 (.ld none 1 false (.t 40)),.u 42 (.fa 1 (.t 6)),.u 43 (.ld none 1 false (.t 42)),.u 44 (.fa 1 (.t 9)),.u 45 (.ld none 1 false (.t 44)),.u 46 (.build [.x 1 (.t 41),.x 1 (.t 43),.x 1 (.t 45)]),.n (.st none 3 (.t 4) (.t 46))])
 .ret)))))))))))))
def ki (f0 f1:Nat):AC:=(.seq (.ops false [.u 2 (.box 2 (.t 0)),.u 3 (.box 2 (.t 1)),.u 4 (.alloc [(.lit (.bool false)),.emp,.emp]),.m 5 (.i 0)])
 (.fg [2,3,4] (.seq (.seq (.ops false [.u 6 (.ld none 2 true (.t 3)),.u 7 (.call f0 [(.t 6)]),.u 8 (.bin .eql (.t 7) (.i 0))])
 (.fg [2,3,4,8] (.cond (.t 8) (.seq (.ops false [.u 9 (.build [.z [(.lit (.bool false)),.emp,.emp]]),.n (.st none 3 (.t 4) (.t 9)),.m 5 (.i 8)])
 .ret) .skip)))
 (.fg [2,3,4] (.seq (.ops false [.u 10 (.ld none 2 true (.t 2)),.u 11 (.ld none 2 true (.t 3)),.u 12 (.call f1 [(.t 10),(.t 11)]),.n (.st none 3 (.t 4) (.t 12)),.m 5 (.i 0)])
 .ret)))))
def Xg:AC:=(.seq (.ops false [.m 2 .fa])
 (.fg [0] (.seq (.ops false [.m 3 (.t 0),.u 4 (.len (.t 3)),.u 5 (.bin .gtr (.t 4) (.i 0)),.m 6 (.t 5),.w 7 6 true (.mv (.t 0)),.w 8 6 true (.mv (.t 0)),.w 9 6 true (.len (.t 8)),.w 10 6 true (.bin .sub (.t 9) (.i 1)),.w 11 6 true (.idx 1 (.t 7) (.t 10)),.w 12 6 true (.ld none 1 false (.t 11)),.w 13 6 true (.bin .neq (.t 12) (.c (.one (.lit (.int .u32 0))))),.u 14 (.pick (.t 6) (.t 13) .fa),.m 2 (.t 14)])
 .ret)))
def Qi (f0 f1:Nat):AC:=(.seq (.ops false [.u 4 (.alloc [(.lit (.bool false)),.emp,.emp]),.m 5 (.i 0)])
 (.fg [0,1,4] (.seq (.ops false [.m 6 (.t 0),.u 7 (.call f0 [(.t 6)]),.m 8 (.t 1),.u 9 (.call f0 [(.t 8)]),.u 10 (.call f1 [(.t 7),(.t 9)]),.u 11 (.ext 0 (.t 10)),.u 12 (.ext 1 (.t 10)),.n (.st none 3 (.t 4) (.t 11)),.m 5 (.t 12)])
 .ret)))
theorem ZL {n d N D:Int} {g:Nat} (hd:d≠0) (hn:n≠0) (hN:N=d.sign*n) (hD:0<=D) (e2:D.natAbs=d.natAbs) (eg:g=Int.gcd n d) :
  AV.agg [zb (zcan (N / (g:Int))),zm (zcan (N / (g:Int))),zm (zcan (D / (g:Int)))]=.agg [cb (rcan (Rat.divInt n d)),cn (rcan (Rat.divInt n d)),cd (rcan (Rat.divInt n d))]:=by
 obtain ⟨D',rfl⟩:=Int.eq_ofNat_of_zero_le hD
 simp only [Int.natAbs_natCast]at e2
 subst e2 eg hN
 have hg:0<Int.gcd n d:=Int.gcd_pos_of_ne_zero_left _ hn
 rw [jaF,UaE,QaE,jL hd hn,vaA,vaA,Qbm]
 have hdv:((Int.gcd n d:Nat):Int) ∣ d.sign*n:=Int.dvd_mul_of_dvd_right (Int.gcd_dvd_left _ _)
 obtain ⟨k,hk⟩:=hdv
 have hs:(d.sign*n).natAbs=n.natAbs:=by
  rw [Int.natAbs_mul,Int.natAbs_sign_of_ne_zero hd,Nat.one_mul]
 have e:(d.sign*n / ((Int.gcd n d:Nat):Int))=k:=by rw [hk,Int.mul_ediv_cancel_left _ (by omega)]
 rw [e,<-Int.natCast_ediv]
 simp only [zcan,Int.natAbs_natCast]
 have hk2:k.natAbs=n.natAbs / Int.gcd n d:=by
  rw [<-hs,hk,Int.natAbs_mul]
  simp only [Int.natAbs_natCast]
  rw [Nat.mul_div_cancel_left _ hg]
 have:decide (k<0)=decide (d.sign*n<0):=by
  rw [decide_eq_decide,hk]
  constructor
  .intro h;exact Int.mul_neg_of_pos_of_neg (by omega) h
  .intro h
   rcases Int.lt_or_le k 0 with h' | h'
   .exact h'
   .have:=Int.mul_nonneg (show (0:Int)<=((Int.gcd n d:Nat):Int) by omega) h';omega
 rw [hk2,this]
theorem jM (hΓ:Holds P Γ) {f:Nat} (hc:check P f=some (15,Xg.strip,[.tmp 2])):Sound P f (.dat true Wr):=by
 refine Va hc jai hΓ (λargs K hcl hfi hG=>?_)
 match args,hG with
 | [a],hG=>
  obtain ⟨l,rfl,hl,hK⟩:=hG
  refine ⟨by simp,?_⟩
  simp only [go_sem,Xg]
  intro _
  refine ⟨λh _=>⟨by omega,by omega,by omega,?_⟩,λh=>?_⟩
  .have hne:l≠[]:=λe=>by rw [e]at h;simp at h
   rw [show ((l.length:Int)-1).toNat=l.length-1 by omega]
   have e:(!decide (l.getD (l.length-1) 0=0))=decide (l≠[]/\NZ l):=by
    rw [<-decide_not,decide_eq_decide]
    unfold NZ
    rw [List.getLast?_eq_getElem?,List.getElem?_eq_getElem (by omega),List.getD_eq_getElem?_getD,List.getElem?_eq_getElem (by omega)]
    simp [hne]
   rw [e];exact hK
  .have hne:l=[]:=List.eq_nil_of_length_eq_zero (by omega)
   rw [decide_eq_false (λe=>e.1 hne)]at hK;exact hK
theorem JM (hΓ:Holds P Γ) {f fv fg fo fc:Nat} (hv:Γ fv=.dat true Wr) (hg:Γ fg=.dat false zu) (ho:Γ fo=.dat false Xo) (hc' : Γ fc=.dat true xr) (hc:check P f=some (36,(Jg fv fg fo fc).strip,[.tmp 2])):Sound P f (.dat true Ze):=by
 refine Va hc vJ hΓ (λargs K hcl hfi hG=>?_)
 match args,hG with
 | [a],hG=>
  obtain ⟨x,rfl,hx,hl,hK⟩:=hG
  refine ⟨by simp,?_⟩
  simp only [go_sem,Jg,hv,hg,ho,hc',jaF,UaE,QaE]
  have hl1:x.2.1.length<=4294967296:=Nat.le_trans (Nat.le_max_left _ _) hl
  have hl2:x.2.2.length<=4294967296:=Nat.le_trans (Nat.le_max_right _ _) hl
  have e0:∀{l:List Nat},¬l.length=0->l≠[]:=λh e=>h (by rw [e];rfl)
  have key:¬(x.2.1=[]/\x.2.2=[])->WL x.2.1/\(x.2.1≠[]/\NZ x.2.1->WL x.2.2/\(x.2.2≠[]/\NZ x.2.2->WL x.2.1/\WL x.2.2/\zs (zv (false,x.2.1))<=17179869184/\zs (zv (false,x.2.2))<=17179869184/\
    zs (((zv (false,x.2.1)).gcd (zv (false,x.2.2)):Nat):Int)<=17179869184/\zs 1<=17179869184/\zs ((((zv (false,x.2.1)).gcd (zv (false,x.2.2)):Nat):Int)-1)<=17179869184/\
    K (AV.one (C.lit (Value.bool (decide (ordI (((zv (false,x.2.1)).gcd (zv (false,x.2.2)):Nat):Int) 1=0))))))/\(¬(x.2.2≠[]/\NZ x.2.2)->K (AV.one (C.lit (Value.bool false)))))/\(¬(x.2.1≠[]/\NZ x.2.1)->K (AV.one (C.lit (Value.bool false)))):=by
   intro hnd
   unfold vldR at hK
   rw [if_neg hnd]at hK
   refine ⟨hx.1,λh1=>⟨hx.2,λh2=>?_,λh2=>?_⟩,λh1=>?_⟩
   .have s2:zs (zv (false,x.2.2))<=4294967296:=by rw [zv_f h2.2,Z5,Xd hx.2 h2.2];exact hl2
    have hne:zv (false,x.2.2)≠0:=by
     rw [zv_f h2.2];have:=vc h2.2 h2.1;omega
    have s3:=QaM (v:=zv (false,x.2.1)) hne s2
    have s4:zs 1<=2:=zY (by decide)
    have s5:=zK ((((zv (false,x.2.1)).gcd (zv (false,x.2.2)):Nat):Int)) (-1)
    rw [Z7,<-Int.sub_eq_add_neg]at s5
    refine ⟨hx.1,hx.2,?_,by omega,by omega,by omega,by omega,?_⟩
    .rw [zv_f h1.2,Z5,Xd hx.1 h1.2];omega
    .rw [zv_f h1.2,zv_f h2.2]
     have e:decide (ordI (((((val x.2.1:Nat):Int)).gcd ((val x.2.2:Nat):Int):Nat):Int) 1=0)=decide (x.2.1≠[]/\x.2.2≠[]/\NZ x.2.1/\NZ x.2.2/\Nat.gcd (val x.2.1) (val x.2.2)=1):=by
      rw [decide_eq_decide,Q0,Int.gcd_natCast_natCast]
      constructor
      .intro h;exact ⟨h1.1,h2.1,h1.2,h2.2,by omega⟩
      .rintro ⟨_,_,_,_,h⟩;omega
     rw [e];exact hK
   .rw [decide_eq_false (λh=>h2 ⟨h.2.1,h.2.2.2.1⟩)]at hK;exact hK
   .rw [decide_eq_false (λh=>h1 ⟨h.1,h.2.2.1⟩)]at hK;exact hK
  refine λ_=>⟨λhn _=>⟨λhd=>?_,λhd=>key (λh=>e0 hd h.2)⟩,λhn=>key (λh=>e0 hn h.1)⟩
  unfold vldR at hK
  rw [if_pos ⟨List.eq_nil_of_length_eq_zero hn,List.eq_nil_of_length_eq_zero hd⟩]at hK;exact hK
theorem vM (hΓ:Holds P Γ) {f fv fo:Nat} (hv:Γ fv=.dat true Ze) (ho:Γ fo=.dat false Xo) (hc:check P f=some (23,(vg fv fo).strip,[.cell 2 2 true,.cell 3 2 true])):Sound P f (.dat false xd):=by
 refine Va hc UI hΓ (λargs K hcl hfi hG=>?_)
 match args,hG with
 | [a],hG=>
  obtain ⟨x,rfl,hx,hl,hK⟩:=hG
  refine ⟨by simp,?_⟩
  simp only [go_sem,vg,hv,ho,jaF,UaE,QaE]
  have hl1:x.2.1.length<=4294967296:=Nat.le_trans (Nat.le_max_left _ _) hl
  have hl2:x.2.2.length<=4294967296:=Nat.le_trans (Nat.le_max_right _ _) hl
  have e0:(zcan 0)=(false,[]):=by simp [zcan,vb]
  have h0:rv x=0->K (AV.tup [AV.agg [C.lit (Value.bool false),C.slice []],AV.agg [zb (zcan 1),zm (zcan 1)]]):=by
   intro h
   rw [h]at hK
   have e1:((0:Rat).num)=0:=rfl
   have e2:((0:Rat).den:Int)=1:=rfl
   rw [e1,e2,e0]at hK;exact hK
  refine ⟨hx,hl,λhv _=>⟨λhn=>h0 ?_,λhn=>?_⟩,λhv=>h0 (uag hv)⟩
  .unfold rv;rw [if_pos hv,List.eq_nil_of_length_eq_zero hn];simp [val,sg]
  .obtain ⟨p1,p2,p3,p4,p5,p6⟩:=XS hx hv (λe=>hn (by rw [e];rfl))
   have hn0:=vc p4 (λe=>hn (by rw [e];rfl))
   rw [p1,p2]at hK
   have e1:zcan (sg x.1 (val x.2.1))=(x.1,x.2.1):=by
    rw [<-yR,Xd hx.1 p4]
    have:decide (0<x.2.1.length)=true:=by simp only [decide_eq_true_eq];omega
    rw [this,Bool.and_true]
   have e2:zcan ((val x.2.2:Nat):Int)=(false,x.2.2):=by
    have:=yR false (val x.2.2)
    rw [Xd hx.2 p5,Bool.false_and]at this
    exact this.symm
   rw [e1,e2]at hK;exact hK
theorem YS (hΓ:Holds P Γ) {f fs fn fg fd:Nat} (hs:Γ fs=.dat true Jf) (hn:Γ fn=.dat false Zu) (hg:Γ fg=.dat false zu) (hd:Γ fd=.dat false Qr) (hc:check P f=some (47,(Yh fs fn fg fd).strip,[.cell 4 3 true])):Sound P f (.dat false uh):=by
 refine Va hc XO hΓ (λargs K hcl hfi hG=>?_)
 match args,hG with
 | [a,b],hG=>
  obtain ⟨v,rfl,hv,w,rfl,hw,hz,hz',h0,hK⟩:=hG
  refine ⟨by simp,?_⟩
  simp only [go_sem,Yh,hs,hn,hg,hd,hv,hw]
  generalize zv v=n at *
  generalize zv w=d at *
  have hd0:=h0
  refine ⟨λh=>?_,λh=>?_⟩
  .rw [Int.sign_eq_zero_iff_zero.1 h,Rat.zero_divInt,Xc]at hK;exact hK
  have hn0:n≠0:=λe=>h (by rw [e];rfl)
  have hg0:((Int.gcd n d:Nat):Int)≠0:=by
   have:=Int.gcd_pos_of_ne_zero_left d hn0;omega
  have hgz:zs ((Int.gcd n d:Nat):Int)<=17179869184:=QaM hd0 hz'
  simp only [Int.gcd_neg,Int.neg_gcd,Z7,va3]
  refine ⟨λhdn=>⟨by omega,by omega,hz,hz',hz,hgz,hg0,hz',hgz,hg0,?_⟩,λhdn=>⟨hz,hz',hz,hgz,hg0,hz',hgz,hg0,?_⟩⟩
  .rw [ZL hd0 hn0 (by rw [Int.sign_eq_neg_one_of_neg hdn];omega) (by omega) (by omega) rfl];exact hK
  .rw [ZL hd0 hn0 (by rw [Int.sign_eq_one_of_pos (by omega)];omega) (by omega) (by omega) rfl];exact hK
end Go.Abs
end
section
namespace Go.Num
open Go.Abs
theorem rz_0:rz 0=0:=by unfold rz;rw [Xc];rfl
theorem rz_1:rz 1<=2:=by
 have:=vba 1
 have h1:zs 1<=2:=zY (by decide)
 have e:((1:Int):Rat)=1:=rfl
 rw [e]at this
 omega
theorem uc (p q:Rat):rz (p*q)<=rz p+rz q+2:=by
 rw [<-waa]
 have n1:=YL p
 have n2:=YL q
 have d1:=yI p
 have d2:=yI q
 have m1:=kt p.num q.num
 have m2:=kt (p.den:Int) (q.den:Int)
 refine kJ (by exact Int.mul_ne_zero (yz _) (yz _)) (by omega) (by omega)
theorem Q6 {p q:Rat} (hq:q≠0):Rat.divInt (p.num*q.den) (p.den*q.num)=p / q:=by
 have hn:q.num≠0:=qaO hq
 have e1:(p.num:Rat) / (p.den:Rat)=p:=by have:=Rat.num_divInt_den p;rw [Rat.divInt_eq_div]at this;exact this
 have e2:(q.num:Rat) / (q.den:Rat)=q:=by have:=Rat.num_divInt_den q;rw [Rat.divInt_eq_div]at this;exact this
 have d1:(p.den:Rat)≠0:=by exact_mod_cast p.den_nz
 have d2:(q.den:Rat)≠0:=by exact_mod_cast q.den_nz
 have d3:(q.num:Rat)≠0:=by exact_mod_cast hn
 rw [Rat.divInt_eq_div]
 simp only [Rat.intCast_mul,Rat.intCast_natCast]
 have f1:(p.num:Rat)=p*(p.den:Rat):=by grind
 have f2:(q.num:Rat)=q*(q.den:Rat):=by grind
 rw [f1,f2]
 grind
theorem Qbe (p q:Rat):rz (p / q)<=rz p+rz q+2:=by
 by_cases hq:q=0
 .subst hq
  rw [Rat.div_def,Rat.inv_zero,Rat.mul_zero,rz_0];omega
 .rw [<-Q6 hq]
  have n1:=YL p
  have n2:=YL q
  have d1:=yI p
  have d2:=yI q
  have m1:=kt p.num (q.den:Int)
  have m2:=kt (p.den:Int) q.num
  refine kJ (by exact Int.mul_ne_zero (yz _) (qaO hq)) (by omega) (by omega)
theorem Ubz (p q:Rat):Rat.divInt (p.num*q.den) (p.den*q.num)=p / q:=by
 by_cases hq:q=0
 .subst hq
  rw [show (0:Rat).num=0 from rfl,Int.mul_zero,Rat.divInt_zero,Rat.div_def,Rat.inv_zero,Rat.mul_zero]
 .exact Q6 hq
end Go.Num
namespace Go.Abs
open Go.Num
variable {P:Program} {Γ:Nat->Spec}
def rQ (q:Rat):AV:=.agg [cb (rcan q),cn (rcan q),cd (rcan q)]
theorem qa8 (q:Rat):rQ q=.agg [cb (rcan q),cn (rcan q),cd (rcan q)]:=eq_of_heq (HEq.refl _)
attribute [go_sem] qa8
attribute [go_sem ↓] qa8
def Xm (l:List AV) (K:AV->Prop):Prop:=
 match l with
 | [a,b]=>onR (λx=>onR (λy=>rl x<=4294967296/\rl y<=4294967296/\K (rQ (rv x*rv y))) b) a
 | _=>False
theorem Wa2 (a b:AV) (K:AV->Prop):Xm [a,b] K=(onR (λx=>onR (λy=>rl x<=4294967296/\rl y<=4294967296/\K (rQ (rv x*rv y))) b) a):=propext Iff.rfl
@[congr] theorem JbI {K:AV->Prop} {l l' : List AV} (h:l=l'):Xm l K=Xm l' K:=by subst h;rfl
attribute [go_sem] Wa2
attribute [go_sem ↓] Wa2
theorem uaK:Good Xm:=ka λas=>by
 unfold Xm
 split
 .exact (Ji λ_=>(Ji λ_=>(.and λ_=>(.and λ_=>(.ret _)))))
 .exact .of λK hk=>hk.elim
def yr (tE:Nat) (l:List AV) (K:AV->Prop):Prop:=
 match l with
 | [a,b]=>onW (λv=>onW (λw=>zs (zv v)<=17179869184/\zs (zv w)<=17179869184/\K (.tup [rQ (Rat.divInt (zv v) (zv w)),errV tE (if zv w=0 then 8 else 0)])) b) a
 | _=>False
theorem xZ (tE:Nat) (a b:AV) (K:AV->Prop):yr tE [a,b] K=(onW (λv=>onW (λw=>zs (zv v)<=17179869184/\zs (zv w)<=17179869184/\K (.tup [rQ (Rat.divInt (zv v) (zv w)),errV tE (if zv w=0 then 8 else 0)])) b) a):=propext Iff.rfl
@[congr] theorem xby (tE:Nat) {K:AV->Prop} {l l' : List AV} (h:l=l'):yr tE l K=yr tE l' K:=by subst h;rfl
attribute [go_sem] xZ
attribute [go_sem ↓] xZ
theorem Vak (tE:Nat):Good (yr tE):=ka λas=>by
 unfold yr
 split
 .exact (ym λ_=>(ym λ_=>(.and λ_=>(.and λ_=>(.ret _)))))
 .exact .of λK hk=>hk.elim
def jx (tE:Nat) (l:List AV) (K:AV->Prop):Prop:=
 match l with
 | [a,b]=>onR (λx=>onR (λy=>rl x<=4294967296/\rl y<=4294967296/\K (.tup [rQ (rv x / rv y),errV tE (if rv y=0 then 8 else 0)])) b) a
 | _=>False
theorem xap (tE:Nat) (a b:AV) (K:AV->Prop):jx tE [a,b] K=(onR (λx=>onR (λy=>rl x<=4294967296/\rl y<=4294967296/\K (.tup [rQ (rv x / rv y),errV tE (if rv y=0 then 8 else 0)])) b) a):=propext Iff.rfl
@[congr] theorem ybF (tE:Nat) {K:AV->Prop} {l l' : List AV} (h:l=l'):jx tE l K=jx tE l' K:=by subst h;rfl
attribute [go_sem] xap
attribute [go_sem ↓] xap
theorem ZaC (tE:Nat):Good (jx tE):=ka λas=>by
 unfold jx
 split
 .exact (Ji λ_=>(Ji λ_=>(.and λ_=>(.and λ_=>(.ret _)))))
 .exact .of λK hk=>hk.elim
def vr (l:List AV) (K:AV->Prop):Prop:=
 match l with
 | [a,b]=>onW (λv=>onW (λw=>zs (zv v)<=17179869184/\zs (zv w)<=17179869184/\K (.tup [rQ (Rat.divInt (zv v) (zv w)),.one (.lit (.int .i64 (if zv w=0 then 8 else 0)))])) b) a
 | _=>False
theorem Xad (a b:AV) (K:AV->Prop):vr [a,b] K=(onW (λv=>onW (λw=>zs (zv v)<=17179869184/\zs (zv w)<=17179869184/\K (.tup [rQ (Rat.divInt (zv v) (zv w)),.one (.lit (.int .i64 (if zv w=0 then 8 else 0)))])) b) a):=propext Iff.rfl
@[congr] theorem Qbz {K:AV->Prop} {l l' : List AV} (h:l=l'):vr l K=vr l' K:=by subst h;rfl
attribute [go_sem] Xad
attribute [go_sem ↓] Xad
theorem Yak:Good vr:=ka λas=>by
 unfold vr
 split
 .exact (ym λ_=>(ym λ_=>(.and λ_=>(.and λ_=>(.ret _)))))
 .exact .of λK hk=>hk.elim
def Qai (l:List AV) (K:AV->Prop):Prop:=
 match l with
 | [a,b]=>onR (λx=>onR (λy=>rl x<=1073741824/\rl y<=1073741824/\K (.tup [rQ (rv x / rv y),.one (.lit (.int .i64 (if rv y=0 then 8 else 0)))])) b) a
 | _=>False
theorem Vam (a b:AV) (K:AV->Prop):Qai [a,b] K=(onR (λx=>onR (λy=>rl x<=1073741824/\rl y<=1073741824/\K (.tup [rQ (rv x / rv y),.one (.lit (.int .i64 (if rv y=0 then 8 else 0)))])) b) a):=propext Iff.rfl
@[congr] theorem UbE {K:AV->Prop} {l l' : List AV} (h:l=l'):Qai l K=Qai l' K:=by subst h;rfl
attribute [go_sem] Vam
attribute [go_sem ↓] Vam
def xl (f0 f1 f2:Nat):AC:=(.seq (.ops false [.u 2 (.box 3 (.t 0)),.u 3 (.box 3 (.t 1)),.u 4 (.alloc [(.lit (.bool false)),.emp,.emp])])
 (.fg [2,3,4] (.seq (.ops false [.u 10 (.ld none 3 true (.t 2)),.u 11 (.call f0 [(.t 10)]),.m 9 (.t 11),.u 12 (.ext 0 (.t 9)),.u 13 (.ext 1 (.t 9)),.u 5 (.alloc [(.lit (.bool false)),.emp]),.u 6 (.alloc [(.lit (.bool false)),.emp]),.n (.st none 2 (.t 5) (.t 12)),.n (.st none 2 (.t 6) (.t 13))])
 (.fg [3,4,5,6] (.seq (.ops false [.u 15 (.ld none 3 true (.t 3)),.u 16 (.call f0 [(.t 15)]),.m 14 (.t 16),.u 17 (.ext 0 (.t 14)),.u 18 (.ext 1 (.t 14)),.u 7 (.alloc [(.lit (.bool false)),.emp]),.u 8 (.alloc [(.lit (.bool false)),.emp]),.n (.st none 2 (.t 7) (.t 17)),.n (.st none 2 (.t 8) (.t 18))])
 (.fg [4,5,6,7,8] (.seq (.ops true [.u 19 (.ld none 2 true (.t 5)),.u 20 (.ld none 2 true (.t 7)),.u 21 (.call f1 [(.t 19),(.t 20)]),.u 22 (.ld none 2 true (.t 6)),.u 23 (.ld none 2 true (.t 8)),.u 24 (.call f1 [(.t 22),(.t 23)]),.u 25 (.call f2 [(.t 21),(.t 24)]),.n (.st none 3 (.t 4) (.t 25))])
 .ret)))))))
def xt (f0 f1 f2:Nat):AC:=(.seq (.ops false [.u 2 (.box 3 (.t 0)),.u 3 (.box 3 (.t 1)),.u 4 (.alloc [(.lit (.bool false)),.emp,.emp]),.m 5 (.c (.one (.lit .nilIface)))])
 (.fg [2,3,4] (.seq (.ops false [.u 11 (.ld none 3 true (.t 2)),.u 12 (.call f0 [(.t 11)]),.m 10 (.t 12),.u 13 (.ext 0 (.t 10)),.u 14 (.ext 1 (.t 10)),.u 6 (.alloc [(.lit (.bool false)),.emp]),.u 7 (.alloc [(.lit (.bool false)),.emp]),.n (.st none 2 (.t 6) (.t 13)),.n (.st none 2 (.t 7) (.t 14))])
 (.fg [3,4,6,7] (.seq (.ops false [.u 16 (.ld none 3 true (.t 3)),.u 17 (.call f0 [(.t 16)]),.m 15 (.t 17),.u 18 (.ext 0 (.t 15)),.u 19 (.ext 1 (.t 15)),.u 8 (.alloc [(.lit (.bool false)),.emp]),.u 9 (.alloc [(.lit (.bool false)),.emp]),.n (.st none 2 (.t 8) (.t 18)),.n (.st none 2 (.t 9) (.t 19))])
 (.fg [4,6,7,8,9] (.seq (.ops true [.u 20 (.ld none 2 true (.t 6)),.u 21 (.ld none 2 true (.t 9)),.u 22 (.call f1 [(.t 20),(.t 21)]),.u 23 (.ld none 2 true (.t 7)),.u 24 (.ld none 2 true (.t 8)),.u 25 (.call f1 [(.t 23),(.t 24)]),.u 26 (.call f2 [(.t 22),(.t 25)]),.u 27 (.ext 0 (.t 26)),.u 28 (.ext 1 (.t 26)),.n (.st none 3 (.t 4) (.t 27)),.m 5 (.t 28)])
 .ret)))))))
theorem vN (hΓ:Holds P Γ) {f fp fm ff:Nat} (hp:Γ fp=.dat false xd) (hm:Γ fm=.dat false yu) (hf:Γ ff=.dat false uh) (hc:check P f=some (26,(xl fp fm ff).strip,[.cell 4 3 true])):Sound P f (.dat false Xm):=by
 refine Va hc uaK hΓ (λargs K hcl hfi hG=>?_)
 match args,hG with
 | [a,b],hG=>
  obtain ⟨x,rfl,hx,y,rfl,hy,hl,hl',hK⟩:=hG
  refine ⟨by simp,?_⟩
  simp only [go_sem,xl,hp,hm,hf,hx,hy]
  have n1:=xC hx
  have d1:=JF hx
  have n2:=xC hy
  have d2:=JF hy
  have m1:=kt (rv x).num (rv y).num
  have m3:=kt ((rv x).den:Int) (rv y).den
  rw [Int.natCast_mul,waa]
  exact ⟨hl,hl',by omega,by omega,by omega,by omega,by omega,by omega,Int.mul_ne_zero (yz _) (yz _),hK⟩
theorem zab (hΓ:Holds P Γ) {f fs ff tE:Nat} (hs:Γ fs=.dat true Jf) (hf:Γ ff=.dat false uh) (hc:check P f=some (14,(Zq fs ff tE).strip,[.cell 4 3 true,.tmp 5])):Sound P f (.dat false (yr tE)):=by
 refine Va hc (Vak tE) hΓ (λargs K hcl hfi hG=>?_)
 match args,hG with
 | [a,b],hG=>
  obtain ⟨v,rfl,hv,w,rfl,hw,hz,hz',hK⟩:=hG
  refine ⟨by simp,?_⟩
  simp only [go_sem,Zq,hs,hf,hv,hw]
  refine ⟨λe=>?_,λe=>?_⟩
  .have h0:=Int.sign_eq_zero_iff_zero.1 e
   rw [if_pos h0,h0,Rat.divInt_zero,Zc tE (by decide),qa8,Xc]at hK
   exact hK
  .have h0:zv w≠0:=λh=>e (by rw [h];rfl)
   rw [if_neg h0,zc]at hK
   exact ⟨hz,hz',h0,hK⟩
theorem yae (hΓ:Holds P Γ) {f fp fm ff tE:Nat} (hp:Γ fp=.dat false xd) (hm:Γ fm=.dat false yu) (hf:Γ ff=.dat false (yr tE)) (hc:check P f=some (29,(xt fp fm ff).strip,[.cell 4 3 true,.tmp 5])):Sound P f (.dat false (jx tE)):=by
 refine Va hc (ZaC tE) hΓ (λargs K hcl hfi hG=>?_)
 match args,hG with
 | [a,b],hG=>
  obtain ⟨x,rfl,hx,y,rfl,hy,hl,hl',hK⟩:=hG
  refine ⟨by simp,?_⟩
  simp only [go_sem,xt,hp,hm,hf,hx,hy]
  have n1:=xC hx
  have d1:=JF hx
  have n2:=xC hy
  have d2:=JF hy
  have m1:=kt (rv x).num ((rv y).den:Int)
  have m3:=kt ((rv x).den:Int) (rv y).num
  have e:((((rv x).den:Int)*(rv y).num=0))=(rv y=0):=propext ⟨λh=>by
   rcases Int.mul_eq_zero.1 h with h | h
   .exact absurd h (yz _)
   .exact Rat.num_eq_zero.1 h,λh=>by rw [h];exact Int.mul_zero _⟩
  simp only [e]
  rw [Ubz]
  exact ⟨hl,hl',by omega,by omega,by omega,by omega,by omega,by omega,hK⟩
theorem Z4 (hΓ:Holds P Γ) {f fs ff:Nat} (hs:Γ fs=.dat true Jf) (hf:Γ ff=.dat false uh) (hc:check P f=some (13,(ki fs ff).strip,[.cell 4 3 true,.tmp 5])):Sound P f (.dat false vr):=by
 refine Va hc Yak hΓ (λargs K hcl hfi hG=>?_)
 match args,hG with
 | [a,b],hG=>
  obtain ⟨v,rfl,hv,w,rfl,hw,hz,hz',hK⟩:=hG
  refine ⟨by simp,?_⟩
  simp only [go_sem,ki,hs,hf,hv,hw]
  refine ⟨λe=>?_,λe=>?_⟩
  .have h0:=Int.sign_eq_zero_iff_zero.1 e
   rw [if_pos h0,h0,Rat.divInt_zero,qa8,Xc]at hK
   exact hK
  .have h0:zv w≠0:=λh=>e (by rw [h];rfl)
   rw [if_neg h0]at hK
   exact ⟨hz,hz',h0,hK⟩
end Go.Abs
end
section
namespace Go.Num
open Go.Abs
abbrev V2:=Rat×Rat
abbrev TnQ:=Rat×Bool
abbrev PsQ:=TnQ×V2
def tv (t:Tn):TnQ:=(rv t.1,t.2)
def pv (p:Ps):PsQ:=(tv p.1,av p.2)
def subQ (a b:V2):V2:=(a.1-b.1,a.2-b.2)
def addQ (a b:V2):V2:=(a.1+b.1,a.2+b.2)
def negQ (a:V2):V2:=(-a.1,-a.2)
def crossQ (a b:V2):Rat:=a.1*b.2-a.2*b.1
def sqQ (a:V2):Rat:=a.1*a.1+a.2*a.2
def cosQ (t:TnQ):Rat:=if t.2=true then -1 else (1-t.1*t.1) / (1+t.1*t.1)
def sinQ (t:TnQ):Rat:=if t.2=true then 0 else (t.1+t.1) / (1+t.1*t.1)
def rotQ (t:TnQ) (q:V2):V2:=(cosQ t*q.1-sinQ t*q.2,sinQ t*q.1+cosQ t*q.2)
def appQ (p:PsQ) (q:V2):V2:=addQ (rotQ p.1 q) p.2
def backQ (t:TnQ):TnQ:=(-t.1,t.2)
def invQ (p:PsQ):PsQ:=(backQ p.1,rotQ (backQ p.1) (negQ p.2))
def tchk (t:Tn):Nat:=if vldR t.1=true/\¬(t.2=true/\rv t.1≠0) then 0 else 2
def avld (a:Arc):Bool:=vldR a.1 && vldR a.2
def pvld (p:Ps):Bool:=decide (tchk p.1=0) && avld p.2
def zq (a:V2):Nat:=max (rz a.1) (rz a.2)
theorem Vm (a b:V2):zq (subQ a b)<=zq a+zq b+2:=by
 have h1:=VE a.1 b.1
 have h2:=VE a.2 b.2
 unfold zq subQ;simp only;omega
theorem JP (a b:V2):zq (addQ a b)<=zq a+zq b+2:=by
 have h1:=UC a.1 b.1
 have h2:=UC a.2 b.2
 unfold zq addQ;simp only;omega
theorem XG (a:V2):rz (sqQ a)<=4*zq a+6:=by
 have h1:=uc a.1 a.1
 have h2:=uc a.2 a.2
 have h3:=UC (a.1*a.1) (a.2*a.2)
 unfold zq sqQ;omega
theorem Wbl:rz (-1)<=2:=by rw [show (-1:Rat) = -(1:Rat) from rfl,ZB];exact rz_1
theorem Wy {a:Arc} (h:WLA a):zq (av a)<=al a:=by
 have h1:=Xf h.1
 have h2:=Xf h.2
 unfold zq av al;simp only;omega
end Go.Num
end
section
namespace Go.Abs
open Go.Num
variable {P:Program} {Γ:Nat->Spec}
def pQ (x:V2):AV:=.agg [cb (rcan x.1),cn (rcan x.1),cd (rcan x.1),cb (rcan x.2),cn (rcan x.2),cd (rcan x.2)]
theorem vaW (x:V2):pQ x=.agg [cb (rcan x.1),cn (rcan x.1),cd (rcan x.1),cb (rcan x.2),cn (rcan x.2),cd (rcan x.2)]:=eq_of_heq (HEq.refl _)
def tQ (t:TnQ):AV:=.agg [cb (rcan t.1),cn (rcan t.1),cd (rcan t.1),.lit (.bool t.2)]
theorem wbD (t:TnQ):tQ t=.agg [cb (rcan t.1),cn (rcan t.1),cd (rcan t.1),.lit (.bool t.2)]:=eq_of_heq (HEq.refl _)
theorem qbd (a b:Rat):al (rcan a,rcan b)=max (rz a) (rz b):=rfl
theorem xbd (a b:Rat):WLA (rcan a,rcan b)=True:=eq_true ⟨zd _,zd _⟩
attribute [go_sem] vaW wbD xbd
attribute [go_sem ↓] vaW wbD xbd
def qj (l:List AV) (K:AV->Prop):Prop:=
 match l with
 | [a]=>onA (λp=>al p<=100000000/\K (.one (.lit (.bool (avld p))))) a
 | _=>False
theorem uab (a:AV) (K:AV->Prop):qj [a] K=(onA (λp=>al p<=100000000/\K (.one (.lit (.bool (avld p))))) a):=propext Iff.rfl
@[congr] theorem Jbv {K:AV->Prop} {l l' : List AV} (h:l=l'):qj l K=qj l' K:=by subst h;rfl
attribute [go_sem] uab
attribute [go_sem ↓] uab
theorem Xaj:Good qj:=ka λas=>by
 unfold qj
 split
 .exact (xo λ_=>(.and λ_=>(.ret _)))
 .exact .of λK hk=>hk.elim
def Yg (l:List AV) (K:AV->Prop):Prop:=
 match l with
 | [a,b]=>onA (λp=>onA (λq=>al p<=100000000/\al q<=100000000/\K (pQ (subQ (av p) (av q)))) b) a
 | _=>False
theorem uar (a b:AV) (K:AV->Prop):Yg [a,b] K=(onA (λp=>onA (λq=>al p<=100000000/\al q<=100000000/\K (pQ (subQ (av p) (av q)))) b) a):=propext Iff.rfl
@[congr] theorem WbF {K:AV->Prop} {l l' : List AV} (h:l=l'):Yg l K=Yg l' K:=by subst h;rfl
attribute [go_sem] uar
attribute [go_sem ↓] uar
theorem kaD:Good Yg:=ka λas=>by
 unfold Yg
 split
 .exact (xo λ_=>(xo λ_=>(.and λ_=>(.and λ_=>(.ret _)))))
 .exact .of λK hk=>hk.elim
def Yl (l:List AV) (K:AV->Prop):Prop:=
 match l with
 | [a,b]=>onA (λp=>onA (λq=>al p<=100000000/\al q<=100000000/\K (pQ (addQ (av p) (av q)))) b) a
 | _=>False
theorem Var (a b:AV) (K:AV->Prop):Yl [a,b] K=(onA (λp=>onA (λq=>al p<=100000000/\al q<=100000000/\K (pQ (addQ (av p) (av q)))) b) a):=propext Iff.rfl
@[congr] theorem QbF {K:AV->Prop} {l l' : List AV} (h:l=l'):Yl l K=Yl l' K:=by subst h;rfl
attribute [go_sem] Var
attribute [go_sem ↓] Var
theorem kaB:Good Yl:=ka λas=>by
 unfold Yl
 split
 .exact (xo λ_=>(xo λ_=>(.and λ_=>(.and λ_=>(.ret _)))))
 .exact .of λK hk=>hk.elim
def xX (l:List AV) (K:AV->Prop):Prop:=
 match l with
 | [a,b]=>onA (λp=>onA (λq=>al p<=100000000/\al q<=100000000/\K (rQ (crossQ (av p) (av q)))) b) a
 | _=>False
theorem kaa (a b:AV) (K:AV->Prop):xX [a,b] K=(onA (λp=>onA (λq=>al p<=100000000/\al q<=100000000/\K (rQ (crossQ (av p) (av q)))) b) a):=propext Iff.rfl
@[congr] theorem qbD {K:AV->Prop} {l l' : List AV} (h:l=l'):xX l K=xX l' K:=by subst h;rfl
attribute [go_sem] kaa
attribute [go_sem ↓] kaa
def yF (l:List AV) (K:AV->Prop):Prop:=
 match l with
 | [a]=>onA (λp=>al p<=100000000/\K (rQ (sqQ (av p)))) a
 | _=>False
theorem Xbe (a:AV) (K:AV->Prop):yF [a] K=(onA (λp=>al p<=100000000/\K (rQ (sqQ (av p)))) a):=propext Iff.rfl
@[congr] theorem ubT {K:AV->Prop} {l l' : List AV} (h:l=l'):yF l K=yF l' K:=by subst h;rfl
attribute [go_sem] Xbe
attribute [go_sem ↓] Xbe
theorem Xa4:Good yF:=ka λas=>by
 unfold yF
 split
 .exact (xo λ_=>(.and λ_=>(.ret _)))
 .exact .of λK hk=>hk.elim
def zaf (l:List AV) (K:AV->Prop):Prop:=
 match l with
 | [a,b]=>onA (λp=>onA (λq=>al p<=100000000/\al q<=100000000/\K (.one (.lit (.bool (decide (av p=av q)))))) b) a
 | _=>False
theorem vas (a b:AV) (K:AV->Prop):zaf [a,b] K=(onA (λp=>onA (λq=>al p<=100000000/\al q<=100000000/\K (.one (.lit (.bool (decide (av p=av q)))))) b) a):=propext Iff.rfl
@[congr] theorem VbF {K:AV->Prop} {l l' : List AV} (h:l=l'):zaf l K=zaf l' K:=by subst h;rfl
attribute [go_sem] vas
attribute [go_sem ↓] vas
def XaH (l:List AV) (K:AV->Prop):Prop:=
 match l with
 | [a]=>onA (λp=>al p<=100000000/\K (pQ (negQ (av p)))) a
 | _=>False
theorem JaV (a:AV) (K:AV->Prop):XaH [a] K=(onA (λp=>al p<=100000000/\K (pQ (negQ (av p)))) a):=propext Iff.rfl
@[congr] theorem WbM {K:AV->Prop} {l l' : List AV} (h:l=l'):XaH l K=XaH l' K:=by subst h;rfl
attribute [go_sem] JaV
attribute [go_sem ↓] JaV
def VS (l:List AV) (K:AV->Prop):Prop:=
 match l with
 | [a]=>onA (λp=>al p<=100000000/\K (pQ (av p))) a
 | _=>False
theorem Yac (a:AV) (K:AV->Prop):VS [a] K=(onA (λp=>al p<=100000000/\K (pQ (av p))) a):=propext Iff.rfl
@[congr] theorem kby {K:AV->Prop} {l l' : List AV} (h:l=l'):VS l K=VS l' K:=by subst h;rfl
attribute [go_sem] Yac
attribute [go_sem ↓] Yac
def Zak (l:List AV) (K:AV->Prop):Prop:=
 match l with
 | [a]=>onR (λx=>rl x<=4294967296/\K (.one (.lit (.bool (decide (rv x=0)))))) a
 | _=>False
theorem jam (a:AV) (K:AV->Prop):Zak [a] K=(onR (λx=>rl x<=4294967296/\K (.one (.lit (.bool (decide (rv x=0)))))) a):=propext Iff.rfl
@[congr] theorem qbG {K:AV->Prop} {l l' : List AV} (h:l=l'):Zak l K=Zak l' K:=by subst h;rfl
attribute [go_sem] jam
attribute [go_sem ↓] jam
def vai (l:List AV) (K:AV->Prop):Prop:=
 match l with
 | [a,b]=>onR (λx=>onR (λy=>rl x<=1073741824/\rl y<=1073741824/\K (rQ (rv x / rv y))) b) a
 | _=>False
theorem jaz (a b:AV) (K:AV->Prop):vai [a,b] K=(onR (λx=>onR (λy=>rl x<=1073741824/\rl y<=1073741824/\K (rQ (rv x / rv y))) b) a):=propext Iff.rfl
@[congr] theorem kbE {K:AV->Prop} {l l' : List AV} (h:l=l'):vai l K=vai l' K:=by subst h;rfl
attribute [go_sem] jaz
attribute [go_sem ↓] jaz
def kW (tE:Nat) (l:List AV) (K:AV->Prop):Prop:=
 match l with
 | [a]=>onT (λt=>rl t.1<=100000000/\K (errV tE (tchk t))) a
 | _=>False
theorem qad (tE:Nat) (a:AV) (K:AV->Prop):kW tE [a] K=(onT (λt=>rl t.1<=100000000/\K (errV tE (tchk t))) a):=propext Iff.rfl
@[congr] theorem jbB (tE:Nat) {K:AV->Prop} {l l' : List AV} (h:l=l'):kW tE l K=kW tE l' K:=by subst h;rfl
attribute [go_sem] qad
attribute [go_sem ↓] qad
def YW (l:List AV) (K:AV->Prop):Prop:=
 match l with
 | [a]=>onT (λt=>rl t.1<=100000000/\K (.one (.lit (.bool (decide (tchk t=0)))))) a
 | _=>False
theorem JZ (a:AV) (K:AV->Prop):YW [a] K=(onT (λt=>rl t.1<=100000000/\K (.one (.lit (.bool (decide (tchk t=0)))))) a):=propext Iff.rfl
@[congr] theorem xbu {K:AV->Prop} {l l' : List AV} (h:l=l'):YW l K=YW l' K:=by subst h;rfl
attribute [go_sem] JZ
attribute [go_sem ↓] JZ
def Ya2 (l:List AV) (K:AV->Prop):Prop:=
 match l with
 | [a]=>onPo (λp=>pl p<=100000000/\K (.one (.lit (.bool (pvld p))))) a
 | _=>False
theorem uaZ (a:AV) (K:AV->Prop):Ya2 [a] K=(onPo (λp=>pl p<=100000000/\K (.one (.lit (.bool (pvld p))))) a):=propext Iff.rfl
@[congr] theorem YbQ {K:AV->Prop} {l l' : List AV} (h:l=l'):Ya2 l K=Ya2 l' K:=by subst h;rfl
attribute [go_sem] uaZ
attribute [go_sem ↓] uaZ
def qaV (l:List AV) (K:AV->Prop):Prop:=
 match l with
 | [a]=>onT (λt=>rl t.1<=100000000/\K (tQ (backQ (tv t)))) a
 | _=>False
theorem qaG (a:AV) (K:AV->Prop):qaV [a] K=(onT (λt=>rl t.1<=100000000/\K (tQ (backQ (tv t)))) a):=propext Iff.rfl
@[congr] theorem wbR {K:AV->Prop} {l l' : List AV} (h:l=l'):qaV l K=qaV l' K:=by subst h;rfl
attribute [go_sem] qaG
attribute [go_sem ↓] qaG
def WaT (l:List AV) (K:AV->Prop):Prop:=
 match l with
 | [a]=>onT (λt=>rl t.1<=10000000/\K (.tup [rQ (cosQ (tv t)),rQ (sinQ (tv t))])) a
 | _=>False
theorem ZaZ (a:AV) (K:AV->Prop):WaT [a] K=(onT (λt=>rl t.1<=10000000/\K (.tup [rQ (cosQ (tv t)),rQ (sinQ (tv t))])) a):=propext Iff.rfl
@[congr] theorem xbR {K:AV->Prop} {l l' : List AV} (h:l=l'):WaT l K=WaT l' K:=by subst h;rfl
attribute [go_sem] ZaZ
attribute [go_sem ↓] ZaZ
def Zx (l:List AV) (K:AV->Prop):Prop:=
 match l with
 | [a,b]=>onA (λp=>onA (λq=>al p<=4294967296/\K (.one (.lit (.bool (decide (p=q)))))) b) a
 | _=>False
theorem Zat (a b:AV) (K:AV->Prop):Zx [a,b] K=(onA (λp=>onA (λq=>al p<=4294967296/\K (.one (.lit (.bool (decide (p=q)))))) b) a):=propext Iff.rfl
@[congr] theorem xbG {K:AV->Prop} {l l' : List AV} (h:l=l'):Zx l K=Zx l' K:=by subst h;rfl
attribute [go_sem] Zat
attribute [go_sem ↓] Zat
theorem yaA:Good Zx:=ka λas=>by
 unfold Zx
 split
 .exact (xo λ_=>(xo λ_=>(.and λ_=>(.ret _))))
 .exact .of λK hk=>hk.elim
def kh (f0 f1:Nat):AC:=(.seq (.ops false [.u 1 (.box 6 (.t 0)),.u 2 (.alloc [(.lit (.bool false)),.emp,.emp])])
 (.fg [1,2] (.seq (.ops true [.u 3 (.fa 0 (.t 1)),.u 4 (.ld none 3 true (.t 3)),.u 5 (.fa 0 (.t 1)),.u 6 (.ld none 3 true (.t 5)),.u 7 (.call f0 [(.t 4),(.t 6)]),.u 8 (.fa 3 (.t 1)),.u 9 (.ld none 3 true (.t 8)),.u 10 (.fa 3 (.t 1)),.u 11 (.ld none 3 true (.t 10)),.u 12 (.call f0 [(.t 9),(.t 11)]),.u 13 (.call f1 [(.t 7),(.t 12)]),.n (.st none 3 (.t 2) (.t 13))])
 .ret)))
def ve (f0:Nat):AC:=(.seq (.ops false [.u 2 (.box 6 (.t 0)),.u 3 (.box 6 (.t 1)),.m 4 .fa])
 (.fg [2,3] (.seq (.ops false [.u 5 (.fa 0 (.t 2)),.u 6 (.ld none 3 true (.t 5)),.u 7 (.fa 0 (.t 3)),.u 8 (.ld none 3 true (.t 7)),.u 9 (.call f0 [(.t 6),(.t 8)]),.m 10 (.t 9),.w 11 10 true (.fa 3 (.t 2)),.w 12 10 true (.ld none 3 true (.t 11)),.w 13 10 true (.fa 3 (.t 3)),.w 14 10 true (.ld none 3 true (.t 13)),.w 15 10 true (.call f0 [(.t 12),(.t 14)]),.u 16 (.pick (.t 10) (.t 15) .fa),.m 4 (.t 16)])
 .ret)))
theorem kb {α β:Type} (p:α×β):(p.1,p.2)=p:=rfl
theorem al1 {p:Arc} {b:Nat} (h:al p<=b):rl p.1<=b/\rl p.2<=b:=⟨Nat.le_trans (Nat.le_max_left _ _) h,Nat.le_trans (Nat.le_max_right _ _) h⟩
theorem X9 (hΓ:Holds P Γ) {f fm fs:Nat} (hm:Γ fm=.dat false Xm) (hs:Γ fs=.dat false qn) (hc:check P f=some (14,(kh fm fs).strip,[.cell 2 3 true])):Sound P f (.dat false yF):=by
 refine Va hc Xa4 hΓ (λargs K hcl hfi hG=>?_)
 match args,hG with
 | [a],hG=>
  obtain ⟨p,rfl,hp,hl,hK⟩:=hG
  refine ⟨by simp,?_⟩
  obtain ⟨l1,l2⟩:=al1 hl
  have r1:=Xf hp.1
  have r2:=Xf hp.2
  have m1:=uc (rv p.1) (rv p.1)
  have m2:=uc (rv p.2) (rv p.2)
  simp only [go_sem,kh,hm,hs,je,hp.1,hp.2]
  exact ⟨by omega,by omega,by omega,by omega,by omega,by omega,hK⟩
theorem uaj (hΓ:Holds P Γ) {f fb:Nat} (hb:Γ fb=.dat true yD) (hc:check P f=some (17,(ve fb).strip,[.tmp 4])):Sound P f (.dat true Zx):=by
 refine Va hc yaA hΓ (λargs K hcl hfi hG=>?_)
 match args,hG with
 | [a,b],hG=>
  obtain ⟨p,rfl,hp,q,rfl,hq,hl,hK⟩:=hG
  refine ⟨by simp,?_⟩
  obtain ⟨l1,l2⟩:=al1 hl
  have e:decide (p=q)=(decide (p.1=q.1) && decide (p.2=q.2)):=by
   rw [<-Bool.decide_and,decide_eq_decide]
   exact Prod.ext_iff
  rw [e]at hK
  by_cases h1:p.1=q.1
  .rw [decide_eq_true h1,Bool.true_and]at hK
   simp only [go_sem,ve,hb,je,hp.1,hp.2,hq.1,hq.2,h1,decide_true]
   exact ⟨by rw [<-h1];exact l1,l2,hK⟩
  .rw [decide_eq_false h1,Bool.false_and]at hK
   simp only [go_sem,ve,hb,je,hp.1,hp.2,hq.1,hq.2,h1,decide_false]
   exact ⟨l1,hK⟩
end Go.Abs
end
section
namespace Go.Num
open Go.Abs
def aok (p:Ps) (q:Arc):Bool:=pvld p && avld q
def plchk (l:List Ps):Nat:=if l.length<2 then 10 else if 5<l.length then 4 else if l.all pvld then 0 else 2
def threeC (l:List Ps):Nat:=if plchk l≠0 then plchk l else if l.length=3 then 0 else 10
def imgs (l:List Ps) (q:Arc):List V2:=l.map λp=>appQ (pv p) (av q)
def imgC (l:List Ps) (q:Arc):Nat:=if l.all (λp=>aok p q) then 0 else 2
end Go.Num
namespace Go.Abs
open Go.Num
variable {P:Program} {Γ:Nat->Spec}
def psQ (p:PsQ):AV:=.agg [cb (rcan p.1.1),cn (rcan p.1.1),cd (rcan p.1.1),.lit (.bool p.1.2),cb (rcan p.2.1),cn (rcan p.2.1),cd (rcan p.2.1),cb (rcan p.2.2),cn (rcan p.2.2),cd (rcan p.2.2)]
theorem vbb (p:PsQ):psQ p=.agg [cb (rcan p.1.1),cn (rcan p.1.1),cd (rcan p.1.1),.lit (.bool p.1.2),cb (rcan p.2.1),cn (rcan p.2.1),cd (rcan p.2.1),cb (rcan p.2.2),cn (rcan p.2.2),cd (rcan p.2.2)]:=eq_of_heq (HEq.refl _)
attribute [go_sem] vbb
attribute [go_sem ↓] vbb
def Wa0 (tE:Nat) (l:List AV) (K:AV->Prop):Prop:=
 match l with
 | [a]=>onT (λt=>rl t.1<=10000000/\K (.tup [rQ (if tchk t=0 then cosQ (tv t) else 0),errV tE (tchk t)])) a
 | _=>False
theorem XaO (tE:Nat) (a:AV) (K:AV->Prop):Wa0 tE [a] K=(onT (λt=>rl t.1<=10000000/\K (.tup [rQ (if tchk t=0 then cosQ (tv t) else 0),errV tE (tchk t)])) a):=propext Iff.rfl
@[congr] theorem WbN (tE:Nat) {K:AV->Prop} {l l' : List AV} (h:l=l'):Wa0 tE l K=Wa0 tE l' K:=by subst h;rfl
attribute [go_sem] XaO
attribute [go_sem ↓] XaO
def vaP (tE:Nat) (l:List AV) (K:AV->Prop):Prop:=
 match l with
 | [a]=>onT (λt=>rl t.1<=10000000/\K (.tup [rQ (if tchk t=0 then sinQ (tv t) else 0),errV tE (tchk t)])) a
 | _=>False
theorem qa0 (tE:Nat) (a:AV) (K:AV->Prop):vaP tE [a] K=(onT (λt=>rl t.1<=10000000/\K (.tup [rQ (if tchk t=0 then sinQ (tv t) else 0),errV tE (tchk t)])) a):=propext Iff.rfl
@[congr] theorem ubJ (tE:Nat) {K:AV->Prop} {l l' : List AV} (h:l=l'):vaP tE l K=vaP tE l' K:=by subst h;rfl
attribute [go_sem] qa0
attribute [go_sem ↓] qa0
def xaJ (tE:Nat) (l:List AV) (K:AV->Prop):Prop:=
 match l with
 | [a]=>onT (λt=>rl t.1<=10000000/\K (.tup [rQ (if tchk t=0 then cosQ (tv t) else 0),rQ (if tchk t=0 then sinQ (tv t) else 0),errV tE (tchk t)])) a
 | _=>False
theorem Xa3 (tE:Nat) (a:AV) (K:AV->Prop):xaJ tE [a] K=(onT (λt=>rl t.1<=10000000/\K (.tup [rQ (if tchk t=0 then cosQ (tv t) else 0),rQ (if tchk t=0 then sinQ (tv t) else 0),errV tE (tchk t)])) a):=propext Iff.rfl
@[congr] theorem VbQ (tE:Nat) {K:AV->Prop} {l l' : List AV} (h:l=l'):xaJ tE l K=xaJ tE l' K:=by subst h;rfl
attribute [go_sem] Xa3
attribute [go_sem ↓] Xa3
def kaZ (tE:Nat) (l:List AV) (K:AV->Prop):Prop:=
 match l with
 | [a,b]=>onT (λt=>onA (λq=>rl t.1<=10000000/\al q<=10000000/\K (.tup [pQ (if tchk t=0 then rotQ (tv t) (av q) else (0,0)),errV tE (tchk t)])) b) a
 | _=>False
theorem jaJ (tE:Nat) (a b:AV) (K:AV->Prop):kaZ tE [a,b] K=(onT (λt=>onA (λq=>rl t.1<=10000000/\al q<=10000000/\K (.tup [pQ (if tchk t=0 then rotQ (tv t) (av q) else (0,0)),errV tE (tchk t)])) b) a):=propext Iff.rfl
@[congr] theorem ZbJ (tE:Nat) {K:AV->Prop} {l l' : List AV} (h:l=l'):kaZ tE l K=kaZ tE l' K:=by subst h;rfl
attribute [go_sem] jaJ
attribute [go_sem ↓] jaJ
def qa4 (l:List AV) (K:AV->Prop):Prop:=
 match l with
 | [a,b]=>onT (λt=>onA (λq=>rl t.1<=10000000/\al q<=10000000/\K (pQ (rotQ (tv t) (av q)))) b) a
 | _=>False
theorem jaS (a b:AV) (K:AV->Prop):qa4 [a,b] K=(onT (λt=>onA (λq=>rl t.1<=10000000/\al q<=10000000/\K (pQ (rotQ (tv t) (av q)))) b) a):=propext Iff.rfl
@[congr] theorem xbN {K:AV->Prop} {l l' : List AV} (h:l=l'):qa4 l K=qa4 l' K:=by subst h;rfl
attribute [go_sem] jaS
attribute [go_sem ↓] jaS
def wa3 (tE:Nat) (l:List AV) (K:AV->Prop):Prop:=
 match l with
 | [a,b]=>onPo (λp=>onA (λq=>pl p<=1000000/\al q<=1000000/\K (.tup [pQ (if aok p q=true then appQ (pv p) (av q) else (0,0)),errV tE (if aok p q=true then 0 else 2)])) b) a
 | _=>False
theorem Ua3 (tE:Nat) (a b:AV) (K:AV->Prop):wa3 tE [a,b] K=(onPo (λp=>onA (λq=>pl p<=1000000/\al q<=1000000/\K (.tup [pQ (if aok p q=true then appQ (pv p) (av q) else (0,0)),errV tE (if aok p q=true then 0 else 2)])) b) a):=propext Iff.rfl
@[congr] theorem VbL (tE:Nat) {K:AV->Prop} {l l' : List AV} (h:l=l'):wa3 tE l K=wa3 tE l' K:=by subst h;rfl
attribute [go_sem] Ua3
attribute [go_sem ↓] Ua3
def UaT (l:List AV) (K:AV->Prop):Prop:=
 match l with
 | [a,b]=>onPo (λp=>onA (λq=>pl p<=1000000/\al q<=1000000/\K (pQ (appQ (pv p) (av q)))) b) a
 | _=>False
theorem YaZ (a b:AV) (K:AV->Prop):UaT [a,b] K=(onPo (λp=>onA (λq=>pl p<=1000000/\al q<=1000000/\K (pQ (appQ (pv p) (av q)))) b) a):=propext Iff.rfl
@[congr] theorem zbN {K:AV->Prop} {l l' : List AV} (h:l=l'):UaT l K=UaT l' K:=by subst h;rfl
attribute [go_sem] YaZ
attribute [go_sem ↓] YaZ
def jaf (tE:Nat) (l:List AV) (K:AV->Prop):Prop:=
 match l with
 | [a]=>onT (λt=>rl t.1<=10000000/\K (.tup [tQ (if tchk t=0 then backQ (tv t) else (0,false)),errV tE (tchk t)])) a
 | _=>False
theorem qay (tE:Nat) (a:AV) (K:AV->Prop):jaf tE [a] K=(onT (λt=>rl t.1<=10000000/\K (.tup [tQ (if tchk t=0 then backQ (tv t) else (0,false)),errV tE (tchk t)])) a):=propext Iff.rfl
@[congr] theorem jbF (tE:Nat) {K:AV->Prop} {l l' : List AV} (h:l=l'):jaf tE l K=jaf tE l' K:=by subst h;rfl
attribute [go_sem] qay
attribute [go_sem ↓] qay
def WaW (tE:Nat) (l:List AV) (K:AV->Prop):Prop:=
 match l with
 | [a]=>onPo (λp=>pl p<=1000000/\K (.tup [psQ (if pvld p=true then invQ (pv p) else ((0,false),(0,0))),errV tE (if pvld p=true then 0 else 2)])) a
 | _=>False
theorem va4 (tE:Nat) (a:AV) (K:AV->Prop):WaW tE [a] K=(onPo (λp=>pl p<=1000000/\K (.tup [psQ (if pvld p=true then invQ (pv p) else ((0,false),(0,0))),errV tE (if pvld p=true then 0 else 2)])) a):=propext Iff.rfl
@[congr] theorem JbJ (tE:Nat) {K:AV->Prop} {l l' : List AV} (h:l=l'):WaW tE l K=WaW tE l' K:=by subst h;rfl
attribute [go_sem] va4
attribute [go_sem ↓] va4
def vaH (l:List AV) (K:AV->Prop):Prop:=
 match l with
 | [a]=>onPo (λp=>pl p<=1000000/\K (psQ (invQ (pv p)))) a
 | _=>False
theorem ZaG (a:AV) (K:AV->Prop):vaH [a] K=(onPo (λp=>pl p<=1000000/\K (psQ (invQ (pv p)))) a):=propext Iff.rfl
@[congr] theorem ZbQ {K:AV->Prop} {l l' : List AV} (h:l=l'):vaH l K=vaH l' K:=by subst h;rfl
attribute [go_sem] ZaG
attribute [go_sem ↓] ZaG
end Go.Abs
end
section
namespace Go.Num
def inA (y:Rat) (x:Arc):Bool:=decide (rv x.1<=y) && decide (y<rv x.2)
def idxOf (y:Rat) (l:List Arc):Int:=match l.findIdx? (inA y) with | some i=>i | none=>-1
end Go.Num
namespace Go.Abs
open Go.Num
variable {P:Program} {Γ:Nat->Spec}
def pA (y:R):AV:=.one (.ref [cb y,cn y,cd y])
def kA (f:Nat) (y:R):AV:=.one (.clo f [.ref [cb y,cn y,cd y]])
theorem jbx (x y:R) (h:pA x=pA y):x=y:=Vs x y (by simpa [pA,rA] using h)
theorem qbv (f:Nat) (x y:R) (h:kA f x=kA f y):x=y:=Vs x y (by simpa [kA,rA] using h)
def onP (k:R->Prop) (a:AV):Prop:=onE pA (λx=>WLR x/\k x) a
@[congr] theorem qbT {k:R->Prop} {a a' : AV} (h:a=a'):onP k a=onP k a':=by subst h;rfl
theorem zbD (k:R->Prop) (x:R):onP k (.one (.ref [cb x,cn x,cd x]))=(WLR x/\k x):=Zn jbx (λx=>WLR x/\k x) x
def onKl (f:Nat) (k:R->Prop) (a:AV):Prop:=onE (kA f) (λx=>WLR x/\k x) a
@[congr] theorem xbM {f:Nat} {k:R->Prop} {a a' : AV} (h:a=a'):onKl f k a=onKl f k a':=by subst h;rfl
theorem vbg (f:Nat) (k:R->Prop) (x:R):onKl f k (.one (.clo f [.ref [cb x,cn x,cd x]]))=(WLR x/\k x):=Zn (qbv f) (λx=>WLR x/\k x) x
attribute [go_sem] zbD vbg
attribute [go_sem ↓] zbD vbg
theorem UaC (y:R):CleanL [cb y,cn y,cd y]:=by
 intro c hc
 simp only [List.mem_cons,List.not_mem_nil,or_false]at hc
 rcases hc with rfl | rfl | rfl
 .exact of_eq_true (Qh _)
 .exact of_eq_true (vh _)
 .exact of_eq_true (Ug _)
def uai (l:List AV) (K:AV->Prop):Prop:=
 match l with
 | [a,b]=>onA (λx=>onP (λy=>al x<=4294967296/\rl y<=4294967296/\K (.one (.lit (.bool (inA (rv y) x))))) b) a
 | _=>False
theorem qas (a b:AV) (K:AV->Prop):uai [a,b] K=(onA (λx=>onP (λy=>al x<=4294967296/\rl y<=4294967296/\K (.one (.lit (.bool (inA (rv y) x))))) b) a):=propext Iff.rfl
@[congr] theorem kbG {K:AV->Prop} {l l' : List AV} (h:l=l'):uai l K=uai l' K:=by subst h;rfl
attribute [go_sem] qas
attribute [go_sem ↓] qas
def yaI (fc:Nat) (l:List AV) (K:AV->Prop):Prop:=
 match l with
 | [a,c]=>onAs (λl=>onKl fc (λy=>okAs 4294967296 l/\rl y<=4294967296/\K (.one (.lit (.int .i64 (idxOf (rv y) l))))) c) a
 | _=>False
theorem JaS (fc:Nat) (a c:AV) (K:AV->Prop):yaI fc [a,c] K=(onAs (λl=>onKl fc (λy=>okAs 4294967296 l/\rl y<=4294967296/\K (.one (.lit (.int .i64 (idxOf (rv y) l))))) c) a):=propext Iff.rfl
@[congr] theorem XbR (fc:Nat) {K:AV->Prop} {l l' : List AV} (h:l=l'):yaI fc l K=yaI fc l' K:=by subst h;rfl
attribute [go_sem] JaS
attribute [go_sem ↓] JaS
def qai (fc:Nat) (l:List AV) (K:AV->Prop):Prop:=
 match l with
 | [a,c]=>onAs (λl=>onKl fc (λy=>okAs 4294967296 l/\rl y<=4294967296/\K (.one (.lit (.bool (l.any (inA (rv y))))))) c) a
 | _=>False
theorem Uan (fc:Nat) (a c:AV) (K:AV->Prop):qai fc [a,c] K=(onAs (λl=>onKl fc (λy=>okAs 4294967296 l/\rl y<=4294967296/\K (.one (.lit (.bool (l.any (inA (rv y))))))) c) a):=propext Iff.rfl
@[congr] theorem jbI (fc:Nat) {K:AV->Prop} {l l' : List AV} (h:l=l'):qai fc l K=qai fc l' K:=by subst h;rfl
attribute [go_sem] Uan
attribute [go_sem ↓] Uan
def YaI (tE:Nat) (l:List AV) (K:AV->Prop):Prop:=
 match l with
 | [a,b]=>onAs (λl=>onR (λy=>okAs 4294967296 l/\rl y<=1000000000/\K (.tup [.one (.lit (.bool (decide (chk [l]=0) && (vldR y && l.any (inA (frac (rv y))))))),errV tE (if chk [l]=0 then (if vldR y then 0 else 3) else chk [l])])) b) a
 | _=>False
theorem JaR (tE:Nat) (a b:AV) (K:AV->Prop):YaI tE [a,b] K=(onAs (λl=>onR (λy=>okAs 4294967296 l/\rl y<=1000000000/\K (.tup [.one (.lit (.bool (decide (chk [l]=0) && (vldR y && l.any (inA (frac (rv y))))))),errV tE (if chk [l]=0 then (if vldR y then 0 else 3) else chk [l])])) b) a):=propext Iff.rfl
@[congr] theorem xbP (tE:Nat) {K:AV->Prop} {l l' : List AV} (h:l=l'):YaI tE l K=YaI tE l' K:=by subst h;rfl
attribute [go_sem] JaR
attribute [go_sem ↓] JaR
end Go.Abs
end
section
namespace Go.Num
def longR (x:R):Bool:=decide (4<x.2.1.length+x.2.2.length)
def largeL (l:List Arc):Bool:=if 20<l.length then (decide (l.length<=64) || decide (200<l.length)) else l.any λx=>longR x.1 || longR x.2
def validL (l:List Arc):Bool:=!largeL l && decide (chk1 l=0)
end Go.Num
namespace Go.Abs
open Go.Num
variable {P:Program} {Γ:Nat->Spec}
def JX (l:List AV) (K:AV->Prop):Prop:=
 match l with
 | [a]=>onAs (λl=>okAs 1073741824 l/\K (.one (.lit (.int .i64 (chk1 l:Nat))))) a
 | _=>False
theorem Y8 (a:AV) (K:AV->Prop):JX [a] K=(onAs (λl=>okAs 1073741824 l/\K (.one (.lit (.int .i64 (chk1 l:Nat))))) a):=propext Iff.rfl
@[congr] theorem Zbw {K:AV->Prop} {l l' : List AV} (h:l=l'):JX l K=JX l' K:=by subst h;rfl
attribute [go_sem] Y8
attribute [go_sem ↓] Y8
def vah (l:List AV) (K:AV->Prop):Prop:=
 match l with
 | [a,b]=>onAs (λl=>onAs (λm=>okAs 1073741824 l/\okAs 1073741824 m/\K (.one (.lit (.bool (decide (vals l=vals m)))))) b) a
 | _=>False
theorem qaz (a b:AV) (K:AV->Prop):vah [a,b] K=(onAs (λl=>onAs (λm=>okAs 1073741824 l/\okAs 1073741824 m/\K (.one (.lit (.bool (decide (vals l=vals m)))))) b) a):=propext Iff.rfl
@[congr] theorem ubG {K:AV->Prop} {l l' : List AV} (h:l=l'):vah l K=vah l' K:=by subst h;rfl
attribute [go_sem] qaz
attribute [go_sem ↓] qaz
def Yaj (l:List AV) (K:AV->Prop):Prop:=
 match l with
 | [a]=>onR (λx=>rl x<=1000000000/\K (.agg [cb (rcan (frac (rv x))),cn (rcan (frac (rv x))),cd (rcan (frac (rv x)))])) a
 | _=>False
theorem Zar (a:AV) (K:AV->Prop):Yaj [a] K=(onR (λx=>rl x<=1000000000/\K (.agg [cb (rcan (frac (rv x))),cn (rcan (frac (rv x))),cd (rcan (frac (rv x)))])) a):=propext Iff.rfl
@[congr] theorem WbE {K:AV->Prop} {l l' : List AV} (h:l=l'):Yaj l K=Yaj l' K:=by subst h;rfl
attribute [go_sem] Zar
attribute [go_sem ↓] Zar
def Uaj (l:List AV) (K:AV->Prop):Prop:=
 match l with
 | [a,b]=>asInt (λk n=>asInt (λk' d=>k=.i64/\k' = .i64/\(-9223372036854775808<=n/\n<=9223372036854775807)/\(-9223372036854775808<=d/\d<=9223372036854775807)/\d≠0/\K (.agg [cb (rcan (Rat.divInt n d)),cn (rcan (Rat.divInt n d)),cd (rcan (Rat.divInt n d))])) b) a
 | _=>False
theorem jar (a b:AV) (K:AV->Prop):Uaj [a,b] K=(asInt (λk n=>asInt (λk' d=>k=.i64/\k' = .i64/\(-9223372036854775808<=n/\n<=9223372036854775807)/\(-9223372036854775808<=d/\d<=9223372036854775807)/\d≠0/\K (.agg [cb (rcan (Rat.divInt n d)),cn (rcan (Rat.divInt n d)),cd (rcan (Rat.divInt n d))])) b) a):=propext Iff.rfl
@[congr] theorem qbF {K:AV->Prop} {l l' : List AV} (h:l=l'):Uaj l K=Uaj l' K:=by subst h;rfl
attribute [go_sem] jar
attribute [go_sem ↓] jar
def Yai (l:List AV) (K:AV->Prop):Prop:=
 match l with
 | [a]=>onR (λx=>rl x<=4294967296/\K (.one (.lit (.bool (longR x))))) a
 | _=>False
theorem Was (a:AV) (K:AV->Prop):Yai [a] K=(onR (λx=>rl x<=4294967296/\K (.one (.lit (.bool (longR x))))) a):=propext Iff.rfl
@[congr] theorem zbI {K:AV->Prop} {l l' : List AV} (h:l=l'):Yai l K=Yai l' K:=by subst h;rfl
attribute [go_sem] Was
attribute [go_sem ↓] Was
def WW (l:List AV) (K:AV->Prop):Prop:=
 match l with
 | [a]=>onAs (λl=>okAs 1073741824 l/\K (.one (.lit (.bool (largeL l))))) a
 | _=>False
theorem Uad (a:AV) (K:AV->Prop):WW [a] K=(onAs (λl=>okAs 1073741824 l/\K (.one (.lit (.bool (largeL l))))) a):=propext Iff.rfl
@[congr] theorem kbC {K:AV->Prop} {l l' : List AV} (h:l=l'):WW l K=WW l' K:=by subst h;rfl
attribute [go_sem] Uad
attribute [go_sem ↓] Uad
def xH (l:List AV) (K:AV->Prop):Prop:=
 match l with
 | [a]=>onAs (λl=>okAs 1073741824 l/\K (.one (.lit (.bool (validL l))))) a
 | _=>False
theorem QP (a:AV) (K:AV->Prop):xH [a] K=(onAs (λl=>okAs 1073741824 l/\K (.one (.lit (.bool (validL l))))) a):=propext Iff.rfl
@[congr] theorem Zbr {K:AV->Prop} {l l' : List AV} (h:l=l'):xH l K=xH l' K:=by subst h;rfl
attribute [go_sem] QP
attribute [go_sem ↓] QP
def vV (tE:Nat) (l:List AV) (K:AV->Prop):Prop:=
 match l with
 | [a]=>onAs (λl=>K (.tup [.one (.slice ((if 64<l.length then [] else l).map aC)),errV tE (if 64<l.length then 4 else 0)])) a
 | _=>False
theorem VY (tE:Nat) (a:AV) (K:AV->Prop):vV tE [a] K=(onAs (λl=>K (.tup [.one (.slice ((if 64<l.length then [] else l).map aC)),errV tE (if 64<l.length then 4 else 0)])) a):=propext Iff.rfl
@[congr] theorem zby (tE:Nat) {K:AV->Prop} {l l' : List AV} (h:l=l'):vV tE l K=vV tE l' K:=by subst h;rfl
attribute [go_sem] VY
attribute [go_sem ↓] VY
end Go.Abs
end
