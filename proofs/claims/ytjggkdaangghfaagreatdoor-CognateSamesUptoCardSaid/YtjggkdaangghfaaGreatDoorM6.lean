/-
  Parts of the proof, merged: ArgD, RatC, RefA, RatD, RatE, PoseP, PoseB, PoseC, ChartE, ChartF.
-/
import Derived.Test.YtjggkdaangghfaaGreatDoorM5
set_option linter.unusedVariables false
set_option linter.unusedSimpArgs false
set_option maxRecDepth 100000
section
namespace Go.Abs
open Go.Num
variable {H:Type} {enc:TypeId×Value->H} {bulk:DataW H->Nat} {P:Program} {w:World} {α:Type}
structure TnT (P:Program) (t:TypeId):Prop where
 ex:∃f0 f1:Field,P.underlying t=some (.struct #[f0,f1])/\f0.offset=0/\f1.offset=3/\P.cellsOf t=4/\P.cellsOf f0.type=3/\P.cellsOf f1.type=1/\RatT P f0.type/\P.underlying f1.type=some .bool
structure PsT (P:Program) (t:TypeId):Prop where
 ex:∃f0 f1:Field,P.underlying t=some (.struct #[f0,f1])/\f0.offset=0/\f1.offset=4/\P.cellsOf t=10/\P.cellsOf f0.type=4/\P.cellsOf f1.type=6/\TnT P f0.type/\ArcT P f1.type
structure PosesT (P:Program) (t:TypeId):Prop where
 ex:∃u,P.underlying t=some (.slice u)/\P.cellsOf u=10/\PsT P u
structure DyT (P:Program) (t:TypeId):Prop where
 ex:∃f0 f1 f2:Field,P.underlying t=some (.struct #[f0,f1,f2])/\f0.offset=0/\f1.offset=6/\f2.offset=12/\P.cellsOf t=15/\P.cellsOf f0.type=6/\P.cellsOf f1.type=6/\P.cellsOf f2.type=3/\ArcT P f0.type/\ArcT P f1.type/\RatT P f2.type
end Go.Abs
end
section
namespace Go.Abs
open Go.Num
variable {P:Program} {Γ:Nat->Spec}
def Vo(f0 f1 f2 f3:Nat):AC:=(.seq (.ops false [.u 1 (.box 3 (.t 0)),.m 2 .fa])
 (.fg [1] (.seq (.seq (.ops false [.u 5 (.fa 1 (.t 1)),.u 6 (.ld none 1 false (.t 5)),.u 7 (.len (.t 6)),.u 8 (.bin .eql (.t 7) (.i 0)),.m 9 (.t 8),.w 10 9 true (.fa 2 (.t 1)),.w 11 9 true (.ld none 1 false (.t 10)),.w 12 9 true (.len (.t 11)),.w 13 9 true (.bin .eql (.t 12) (.i 0)),.u 14 (.pick (.t 9) (.t 13) .fa)])
 (.fg [1,14] (.cond (.t 14) (.seq (.ops false [.u 15 (.fa 0 (.t 1)),.u 16 (.ld none 1 false (.t 15)),.u 17 (.un .not (.t 16)),.m 2 (.t 17)])
 .ret) .skip)))
 (.fg [1] (.seq (.ops true [.u 18 (.fa 1 (.t 1)),.u 19 (.ld (some 1) 1 false (.t 18)),.u 20 (.build [.z [(.lit (.bool false))],.x 1 (.t 19)]),.u 21 (.fa 2 (.t 1)),.u 22 (.ld (some 1) 1 false (.t 21)),.u 23 (.build [.z [(.lit (.bool false))],.x 1 (.t 22)]),.u 3 (.alloc [(.lit (.bool false)),.emp]),.u 4 (.alloc [(.lit (.bool false)),.emp]),.n (.st (some 3) 2 (.t 3) (.t 20)),.n (.st (some 4) 2 (.t 4) (.t 23))])
 (.fg [1,3,4] (.seq (.seq (.ops false [.u 24 (.fa 1 (.t 1)),.u 25 (.ld none 1 false (.t 24)),.u 26 (.len (.t 25)),.u 27 (.bin .eql (.t 26) (.i 0)),.m 28 (.t 27),.w 29 28 false (.fa 2 (.t 1)),.w 30 28 false (.ld none 1 false (.t 29)),.w 31 28 false (.len (.t 30)),.w 32 28 false (.bin .eql (.t 31) (.i 0)),.u 33 (.pick (.t 28) .tr (.t 32)),.m 34 (.t 33),.w 35 34 false (.ld none 2 true (.t 3)),.w 36 34 false (.call f0 [(.t 35)]),.w 37 34 false (.un .not (.t 36)),.u 38 (.pick (.t 34) .tr (.t 37)),.m 39 (.t 38),.w 40 39 false (.ld none 2 true (.t 4)),.w 41 39 false (.call f0 [(.t 40)]),.w 42 39 false (.un .not (.t 41)),.u 43 (.pick (.t 39) .tr (.t 42))])
 (.fg [3,4,43] (.cond (.t 43) (.seq (.ops false [.m 2 .fa])
 .ret) .skip)))
 (.fg [3,4] (.seq (.ops false [.u 44 (.ld none 2 true (.t 3)),.u 45 (.ld none 2 true (.t 4)),.u 46 (.call f1 [(.t 44),(.t 45)]),.u 47 (.call f2 []),.u 48 (.call f3 [(.t 46),(.t 47)]),.u 49 (.bin .eql (.t 48) (.i 0)),.m 2 (.t 49)])
 .ret)))))))))
def uo(f0 f1:Nat):AC:=(.seq (.ops false [.u 1 (.box 3 (.t 0)),.u 2 (.alloc [(.lit (.bool false)),.emp]),.u 3 (.alloc [(.lit (.bool false)),.emp])])
 (.fg [1,2,3] (.seq (.seq (.ops false [.u 4 (.ld none 3 true (.t 1)),.u 5 (.call f0 [(.t 4)]),.u 6 (.un .not (.t 5)),.m 7 (.t 6),.w 8 7 false (.fa 1 (.t 1)),.w 9 7 false (.ld none 1 false (.t 8)),.w 10 7 false (.len (.t 9)),.w 11 7 false (.bin .eql (.t 10) (.i 0)),.u 12 (.pick (.t 7) .tr (.t 11))])
 (.fg [1,2,3,12] (.cond (.t 12) (.seq (.ops false [.u 13 (.build [.z [(.lit (.bool false)),.emp]]),.u 14 (.call f1 []),.n (.st none 2 (.t 2) (.t 13)),.n (.st none 2 (.t 3) (.t 14))])
 .ret) .skip)))
 (.fg [1,2,3] (.seq (.ops true [.u 15 (.fa 0 (.t 1)),.u 16 (.ld none 1 false (.t 15)),.m 17 (.c (.one .emp)),.u 18 (.fa 1 (.t 1)),.u 19 (.ld none 1 false (.t 18)),.u 20 (.app0 1 (.t 17) (.t 19)),.u 21 (.build [.x 1 (.t 16),.x 1 (.t 20)]),.n (.st none 2 (.t 2) (.t 21))])
 (.fg [1,2,3] (.seq (.ops true [.u 22 (.ld none 2 true (.t 2)),.m 23 (.c (.one .emp)),.u 24 (.fa 2 (.t 1)),.u 25 (.ld none 1 false (.t 24)),.u 26 (.app0 1 (.t 23) (.t 25)),.u 27 (.build [.z [(.lit (.bool false))],.x 1 (.t 26)]),.n (.st none 2 (.t 2) (.t 22)),.n (.st none 2 (.t 3) (.t 27))])
 .ret)))))))
def Wq(f0 f1 f2 f3:Nat):AC:=(.seq (.ops false [.u 2 (.box 2 (.t 0)),.u 3 (.box 2 (.t 1)),.u 4 (.alloc [(.lit (.bool false)),.emp,.emp])])
 (.fg [2,3,4] (.seq (.seq (.ops false [.u 7 (.ld none 2 true (.t 2)),.u 8 (.call f0 [(.t 7)]),.u 9 (.bin .eql (.t 8) (.i 0))])
 (.fg [2,3,4,9] (.cond (.t 9) (.seq (.ops false [.u 10 (.build [.z [(.lit (.bool false)),.emp,.emp]]),.n (.st none 3 (.t 4) (.t 10))])
 .ret) .skip)))
 (.fg [2,3,4] (.seq (.seq (.ops false [.u 11 (.ld none 2 true (.t 3)),.u 12 (.call f0 [(.t 11)]),.u 13 (.bin .lss (.t 12) (.i 0))])
 (.fg [2,3,4,13] (.cond (.t 13) (.ops true [.u 14 (.ld none 2 true (.t 2)),.u 15 (.call f1 [(.t 14)]),.u 16 (.ld none 2 true (.t 3)),.u 17 (.call f1 [(.t 16)]),.n (.st none 2 (.t 2) (.t 15)),.n (.st none 2 (.t 3) (.t 17))]) .skip)))
 (.fg [2,3,4] (.seq (.ops false [.u 18 (.ld none 2 true (.t 2)),.u 19 (.ld none 2 true (.t 3)),.u 20 (.call f2 [(.t 18),(.t 19)]),.u 5 (.alloc [(.lit (.bool false)),.emp]),.n (.st none 2 (.t 5) (.t 20))])
 (.fg [2,3,4,5] (.seq (.ops false [.u 21 (.ld none 2 true (.t 2)),.u 22 (.call f0 [(.t 21)]),.u 23 (.bin .lss (.t 22) (.i 0)),.m 6 (.t 23)])
 (.fg [2,3,4,5,6] (.seq (.seq (.ops false [.m 24 (.t 6)])
 (.fg [2,3,4,5,6,24] (.cond (.t 24) (.ops false [.u 25 (.ld none 2 true (.t 2)),.u 26 (.call f1 [(.t 25)]),.n (.st none 2 (.t 2) (.t 26))]) .skip)))
 (.fg [2,3,4,5,6] (.seq (.ops false [.u 28 (.ld none 2 true (.t 2)),.u 29 (.ld none 2 true (.t 5)),.u 30 (.call f3 [(.t 28),(.t 29)]),.m 27 (.t 30),.u 31 (.ext 0 (.t 27)),.u 32 (.ext 1 (.t 27)),.u 33 (.ext 2 (.t 27)),.n (.st none 2 (.t 2) (.t 31))])
 (.fg [2,3,4,5,6] (.seq (.ops false [.u 35 (.ld none 2 true (.t 3)),.u 36 (.ld none 2 true (.t 5)),.u 37 (.call f3 [(.t 35),(.t 36)]),.m 34 (.t 37),.u 38 (.ext 0 (.t 34)),.u 39 (.ext 1 (.t 34)),.u 40 (.ext 2 (.t 34)),.n (.st none 2 (.t 3) (.t 38))])
 (.fg [2,3,4,6] (.seq (.ops false [.m 41 (.t 6),.u 42 (.fa 1 (.t 2)),.u 43 (.ld none 1 false (.t 42)),.u 44 (.fa 1 (.t 3)),.u 45 (.ld none 1 false (.t 44)),.u 46 (.build [.x 1 (.t 41),.x 1 (.t 43),.x 1 (.t 45)]),.n (.st none 3 (.t 4) (.t 46))])
 .ret)))))))))))))))))
def qo(f0:Nat):AC:=(.seq (.ops false [.u 0 (.alloc [(.lit (.bool false)),.emp])])
 (.fg [0] (.seq (.ops false [.u 1 (.call f0 [(.i 1)]),.n (.st none 2 (.t 0) (.t 1))])
 .ret)))
def Yp(f0 f1 f2:Nat):AC:=(.seq (.ops false [.u 2 (.alloc [(.lit (.bool false)),.emp,.emp])])
 (.fg [0,2] (.seq (.ops false [.m 3 (.t 0),.u 4 (.call f0 [(.t 3)]),.u 5 (.call f1 []),.u 6 (.call f2 [(.t 4),(.t 5)]),.n (.st none 3 (.t 2) (.t 6))])
 .ret)))
def xn(f0 f1 f2:Nat):AC:=(.seq (.ops false [.u 1 (.box 3 (.t 0)),.u 2 (.alloc [(.lit (.bool false)),.emp,.emp])])
 (.fg [1,2] (.seq (.ops false [.u 6 (.ld none 3 true (.t 1)),.u 7 (.call f0 [(.t 6)]),.m 5 (.t 7),.u 8 (.ext 0 (.t 5)),.u 9 (.ext 1 (.t 5)),.u 3 (.alloc [(.lit (.bool false)),.emp]),.u 4 (.alloc [(.lit (.bool false)),.emp]),.n (.st none 2 (.t 3) (.t 8)),.n (.st none 2 (.t 4) (.t 9))])
 (.fg [2,3,4] (.seq (.ops true [.u 10 (.ld none 2 true (.t 3)),.u 11 (.call f1 [(.t 10)]),.u 12 (.ld none 2 true (.t 4)),.u 13 (.call f2 [(.t 11),(.t 12)]),.n (.st none 3 (.t 2) (.t 13))])
 .ret)))))
def Zm(f0 f1:Nat):AC:=(.seq (.ops false [.u 1 (.box 3 (.t 0)),.m 2 (.i 0)])
 (.fg [1] (.seq (.ops false [.u 6 (.ld none 3 true (.t 1)),.u 7 (.call f0 [(.t 6)]),.m 5 (.t 7),.u 8 (.ext 0 (.t 5)),.u 9 (.ext 1 (.t 5)),.u 3 (.alloc [(.lit (.bool false)),.emp]),.u 4 (.alloc [(.lit (.bool false)),.emp]),.n (.st none 2 (.t 3) (.t 8)),.n (.st none 2 (.t 4) (.t 9))])
 (.fg [3] (.seq (.ops false [.u 10 (.ld none 2 true (.t 3)),.u 11 (.call f1 [(.t 10)]),.m 2 (.t 11)])
 .ret)))))
def qu(f0 f1 f2:Nat):AC:=(.seq (.ops false [.u 2 (.box 3 (.t 0)),.u 3 (.box 3 (.t 1)),.m 4 (.i 0)])
 (.fg [2,3] (.seq (.ops false [.u 10 (.ld none 3 true (.t 2)),.u 11 (.call f0 [(.t 10)]),.m 9 (.t 11),.u 12 (.ext 0 (.t 9)),.u 13 (.ext 1 (.t 9)),.u 5 (.alloc [(.lit (.bool false)),.emp]),.u 6 (.alloc [(.lit (.bool false)),.emp]),.n (.st none 2 (.t 5) (.t 12)),.n (.st none 2 (.t 6) (.t 13))])
 (.fg [3,5,6] (.seq (.ops false [.u 15 (.ld none 3 true (.t 3)),.u 16 (.call f0 [(.t 15)]),.m 14 (.t 16),.u 17 (.ext 0 (.t 14)),.u 18 (.ext 1 (.t 14)),.u 7 (.alloc [(.lit (.bool false)),.emp]),.u 8 (.alloc [(.lit (.bool false)),.emp]),.n (.st none 2 (.t 7) (.t 17)),.n (.st none 2 (.t 8) (.t 18))])
 (.fg [5,6,7,8] (.seq (.ops true [.u 19 (.ld none 2 true (.t 5)),.u 20 (.ld none 2 true (.t 8)),.u 21 (.call f1 [(.t 19),(.t 20)]),.u 22 (.ld none 2 true (.t 7)),.u 23 (.ld none 2 true (.t 6)),.u 24 (.call f1 [(.t 22),(.t 23)]),.u 25 (.call f2 [(.t 21),(.t 24)]),.m 4 (.t 25)])
 .ret)))))))
def Xn(f0 f1 f2 f3:Nat):AC:=(.seq (.ops false [.u 2 (.box 3 (.t 0)),.u 3 (.box 3 (.t 1)),.u 4 (.alloc [(.lit (.bool false)),.emp,.emp])])
 (.fg [2,3,4] (.seq (.ops false [.u 10 (.ld none 3 true (.t 2)),.u 11 (.call f0 [(.t 10)]),.m 9 (.t 11),.u 12 (.ext 0 (.t 9)),.u 13 (.ext 1 (.t 9)),.u 5 (.alloc [(.lit (.bool false)),.emp]),.u 6 (.alloc [(.lit (.bool false)),.emp]),.n (.st none 2 (.t 5) (.t 12)),.n (.st none 2 (.t 6) (.t 13))])
 (.fg [3,4,5,6] (.seq (.ops false [.u 15 (.ld none 3 true (.t 3)),.u 16 (.call f0 [(.t 15)]),.m 14 (.t 16),.u 17 (.ext 0 (.t 14)),.u 18 (.ext 1 (.t 14)),.u 7 (.alloc [(.lit (.bool false)),.emp]),.u 8 (.alloc [(.lit (.bool false)),.emp]),.n (.st none 2 (.t 7) (.t 17)),.n (.st none 2 (.t 8) (.t 18))])
 (.fg [4,5,6,7,8] (.seq (.ops true [.u 19 (.ld none 2 true (.t 5)),.u 20 (.ld none 2 true (.t 8)),.u 21 (.call f1 [(.t 19),(.t 20)]),.u 22 (.ld none 2 true (.t 7)),.u 23 (.ld none 2 true (.t 6)),.u 24 (.call f1 [(.t 22),(.t 23)]),.u 25 (.call f2 [(.t 21),(.t 24)]),.u 26 (.ld none 2 true (.t 6)),.u 27 (.ld none 2 true (.t 8)),.u 28 (.call f1 [(.t 26),(.t 27)]),.u 29 (.call f3 [(.t 25),(.t 28)]),.n (.st none 3 (.t 4) (.t 29))])
 .ret)))))))
def kn(f0 f1:Nat):AC:=(.seq (.ops false [.u 2 (.box 3 (.t 0)),.u 3 (.box 3 (.t 1)),.u 4 (.alloc [(.lit (.bool false)),.emp,.emp])])
 (.fg [2,3,4] (.seq (.ops true [.u 5 (.ld none 3 true (.t 2)),.u 6 (.ld none 3 true (.t 3)),.u 7 (.call f0 [(.t 6)]),.u 8 (.call f1 [(.t 5),(.t 7)]),.n (.st none 3 (.t 4) (.t 8))])
 .ret)))
def yq(f0 f1 tE:Nat):AC:=(.seq (.ops false [.u 2 (.box 2 (.t 0)),.u 3 (.box 2 (.t 1)),.u 4 (.alloc [(.lit (.bool false)),.emp,.emp]),.m 5 (.c (.one (.lit .nilIface)))])
 (.fg [2,3,4] (.seq (.seq (.ops false [.u 6 (.ld none 2 true (.t 3)),.u 7 (.call f0 [(.t 6)]),.u 8 (.bin .eql (.t 7) (.i 0))])
 (.fg [2,3,4,8] (.cond (.t 8) (.seq (.ops false [.u 9 (.build [.z [(.lit (.bool false)),.emp,.emp]]),.u 10 (.iface tE (.i 8)),.n (.st none 3 (.t 4) (.t 9)),.m 5 (.t 10)])
 .ret) .skip)))
 (.fg [2,3,4] (.seq (.ops false [.u 11 (.ld none 2 true (.t 2)),.u 12 (.ld none 2 true (.t 3)),.u 13 (.call f1 [(.t 11),(.t 12)]),.n (.st none 3 (.t 4) (.t 13)),.m 5 (.c (.one (.lit .nilIface)))])
 .ret)))))
theorem Wa2{n:Int}:n.sign<0↔n<0:=by
 rcases Int.lt_trichotomy n 0 with h|h|h
 .rw [Int.sign_eq_neg_one_of_neg h];omega
 .subst h;simp
 .rw [Int.sign_eq_one_of_pos h];omega
theorem uB{n d N D:Int}{g:Nat}{m:Bool}(hd:d≠0)(hn:n≠0)(hN:0<=N)(hD:0<=D)(e1:N.natAbs=n.natAbs)(e2:D.natAbs=d.natAbs)(eg:g=Int.gcd n d)(em:m=decide (d.sign*n<0)) :
  AV.agg [.lit (.bool m),zm (zcan (N / (g:Int))),zm (zcan (D / (g:Int)))]=.agg [cb (rcan (Rat.divInt n d)),cn (rcan (Rat.divInt n d)),cd (rcan (Rat.divInt n d))]:=by
 obtain⟨N',rfl⟩:=Int.eq_ofNat_of_zero_le hN;obtain⟨D',rfl⟩:=Int.eq_ofNat_of_zero_le hD;simp only [Int.natAbs_natCast]at e1 e2;subst e1 e2 eg em;rw [yaG,xaH,JaJ,UM hd hn,xaI,xaI];simp only [zcan];rw [<-Int.natCast_ediv,<-Int.natCast_ediv];simp only [Int.natAbs_natCast]
theorem YaN{v w:Int}{s:Nat}(h:w≠0)(hw:zs w<=s):zs ((Int.gcd v w:Nat):Int)<=s:=by
 refine Nat.le_trans (Xam ?_) hw;simp only [Int.natAbs_natCast];exact Nat.le_of_dvd (by omega) (Int.gcd_dvd_natAbs_right _ _)
theorem Wag{a b:Int}:ordI a b=0↔a=b:=by unfold ordI;split <;> (try split) <;> omega
theorem ZaM{l:List Nat}(h:l≠[]):vldW (false,l)=decide (NZ l):=by unfold vldW;rw [if_neg h]
theorem zv_f{l:List Nat}(h:NZ l):zv (false,l)=(val l:Int):=by
 unfold zv;by_cases e:l=[]
 .subst e;simp [vldW]
 .rw [ZaM e];simp [h]
theorem qR(hΓ:Holds P Γ){f fo:Nat}(ho:Γ fo=.dat false zH)(hc:check P f=some (2,(qo fo).strip,[.cell 0 2 true])):Sound P f (.dat false Qq):=by
 refine ka hc yaR hΓ (λargs K hcl hfi hG=>?_);match args,hG with
 | [],hG=>
  have hK:=hG;simp only [Qq]at hK;refine⟨by simp,?_⟩
  simp only [go_sem,qo,ho];refine⟨by omega,by omega,hK⟩
theorem V9(hΓ:Holds P Γ){f fv fg fo fc:Nat}(hv:Γ fv=.dat true Vk)(hg:Γ fg=.dat false zu)(ho:Γ fo=.dat false Qq)(hc' : Γ fc=.dat true uA)(hc:check P f=some (50,(Vo fv fg fo fc).strip,[.tmp 2])):Sound P f (.dat true je):=by
 refine ka hc zK hΓ (λargs K hcl hfi hG=>?_);match args,hG with
 | [a],hG=>
  obtain⟨x,rfl,hx,hl,hK⟩:=hG;refine⟨by simp,?_⟩
  simp only [go_sem,Vo,hv,hg,ho,hc',yaG,xaH,JaJ];have hl1:x.2.1.length<=4294967296:=Nat.le_trans (Nat.le_max_left _ _) hl;have hl2:x.2.2.length<=4294967296:=Nat.le_trans (Nat.le_max_right _ _) hl;have key:x.2.1≠[]->x.2.2≠[]->WL x.2.1/\(vldW (false,x.2.1)=true->WL x.2.2/\(vldW (false,x.2.2)=true->WL x.2.1/\WL x.2.2/\zs (zv (false,x.2.1))<=17179869184/\zs (zv (false,x.2.2))<=17179869184/\
    K (AV.one (C.lit (Value.bool (decide (ordI (((zv (false,x.2.1)).gcd (zv (false,x.2.2)):Nat):Int) 1=0))))))/\(vldW (false,x.2.2)=false->K (AV.one (C.lit (Value.bool false)))))/\(vldW (false,x.2.1)=false->K (AV.one (C.lit (Value.bool false)))):=by
   intro hn hd;unfold vldR at hK;rw [if_neg (λe=>hn e.1)]at hK;rw [ZaM hn,ZaM hd];refine⟨hx.1,λh1=>⟨hx.2,λh2=>⟨hx.1,hx.2,?_,?_,?_⟩,λh2=>?_⟩,λh1=>?_⟩
   .rw [zv_f (of_decide_eq_true h1),Zag,Je hx.1 (of_decide_eq_true h1)];omega
   .rw [zv_f (of_decide_eq_true h2),Zag,Je hx.2 (of_decide_eq_true h2)];omega
   .rw [zv_f (of_decide_eq_true h1),zv_f (of_decide_eq_true h2)];have e:decide (ordI (((((val x.2.1:Nat):Int)).gcd ((val x.2.2:Nat):Int):Nat):Int) 1=0)=decide (x.2.1≠[]/\x.2.2≠[]/\NZ x.2.1/\NZ x.2.2/\Nat.gcd (val x.2.1) (val x.2.2)=1):=by
     rw [decide_eq_decide,Wag,Int.gcd_natCast_natCast];have h1':=of_decide_eq_true h1;have h2':=of_decide_eq_true h2;constructor
     .intro h;exact⟨hn,hd,h1',h2',by omega⟩
     .rintro⟨_,_,_,_,h⟩;omega
    rw [e];exact hK
   .rw [decide_eq_false (λh=>of_decide_eq_false h2 h.2.2.2.1)]at hK;exact hK
   .rw [decide_eq_false (λh=>of_decide_eq_false h1 h.2.2.1)]at hK;exact hK
  have e0:∀{l:List Nat},¬l.length=0->l≠[]:=λh e=>h (by rw [e];rfl)
  have key0:¬(x.2.1=[]/\x.2.2=[])->(x.2.1=[]∨x.2.2=[])->K (AV.one (C.lit (Value.bool false))):=by
   intro h1 h2;unfold vldR at hK;rw [if_neg h1,decide_eq_false (λh=>h2.elim h.1 h.2.1)]at hK;exact hK
  refine λ_=>⟨λhn _=>⟨λhd=>?_,λhd _=>⟨λh=>?_,λh=>absurd hn h⟩⟩,λhn _=>⟨λh=>absurd h hn,λ_ _=>⟨λhd=>?_,λhd=>key (e0 hn) (e0 hd)⟩⟩⟩
  .unfold vldR at hK;rw [if_pos ⟨List.eq_nil_of_length_eq_zero hn,List.eq_nil_of_length_eq_zero hd⟩]at hK;exact hK
  .exact key0 (λh=>e0 hd h.2) (.inl (List.eq_nil_of_length_eq_zero hn))
  .exact key0 (λh=>e0 hn h.1) (.inr (List.eq_nil_of_length_eq_zero hd))
theorem Xaa(hΓ:Holds P Γ){f fv fo:Nat}(hv:Γ fv=.dat true je)(ho:Γ fo=.dat false Qq)(hc:check P f=some (28,(uo fv fo).strip,[.cell 2 2 true,.cell 3 2 true])):Sound P f (.dat false Qe):=by
 refine ka hc vK hΓ (λargs K hcl hfi hG=>?_);match args,hG with
 | [a],hG=>
  obtain⟨x,rfl,hx,hl,hK⟩:=hG;refine⟨by simp,?_⟩
  simp only [go_sem,uo,hv,ho,yaG,xaH,JaJ];have hl1:x.2.1.length<=4294967296:=Nat.le_trans (Nat.le_max_left _ _) hl;have hl2:x.2.2.length<=4294967296:=Nat.le_trans (Nat.le_max_right _ _) hl;have e0:(zcan 0)=(false,[]):=by simp [zcan,Yb]
  have h0:rv x=0->K (AV.tup [AV.agg [C.lit (Value.bool false),C.slice []],AV.agg [zb (zcan 1),zm (zcan 1)]]):=by
   intro h;rw [h]at hK;have e1:((0:Rat).num)=0:=rfl;have e2:((0:Rat).den:Int)=1:=rfl;rw [e1,e2,e0]at hK;exact hK
  refine⟨hx,hl,λhv _=>⟨λhn=>h0 ?_,λhn=>⟨by omega,by omega,?_⟩⟩,λhv=>h0 (xao hv)⟩
  .unfold rv;rw [if_pos hv,List.eq_nil_of_length_eq_zero hn];simp [val,sg]
  .obtain⟨p1,p2,p3,p4,p5,p6⟩:=Z0 hx hv (λe=>hn (by rw [e];rfl))
   have hn0:=Xc p4 (λe=>hn (by rw [e];rfl))
   rw [p1,p2]at hK;have e1:zcan (sg x.1 (val x.2.1))=(x.1,x.2.1):=by
    rw [<-zQ,Je hx.1 p4];have:decide (0<x.2.1.length)=true:=by simp only [decide_eq_true_eq];omega
    rw [this,Bool.and_true]
   have e2:zcan ((val x.2.2:Nat):Int)=(false,x.2.2):=by
    have:=zQ false (val x.2.2);rw [Je hx.2 p5,Bool.false_and]at this;exact this.symm
   rw [e1,e2]at hK;exact hK
theorem wam(hΓ:Holds P Γ){f fs fn fg fd:Nat}(hs:Γ fs=.dat true Qg)(hn:Γ fn=.dat false Jv)(hg:Γ fg=.dat false zu)(hd:Γ fd=.dat false VE)(hc:check P f=some (47,(Wq fs fn fg fd).strip,[.cell 4 3 true])):Sound P f (.dat false qj):=by
 refine ka hc jS hΓ (λargs K hcl hfi hG=>?_);match args,hG with
 | [a,b],hG=>
  obtain⟨v,rfl,hv,w,rfl,hw,hz,hz',h0,hK⟩:=hG;refine⟨by simp,?_⟩
  simp only [go_sem,Wq,hs,hn,hg,hd,hv,hw];generalize zv v=n at *
  generalize zv w=d at *
  have hd0:=h0;refine⟨λh=>?_,λh=>?_⟩
  .rw [Int.sign_eq_zero_iff_zero.1 h,Rat.zero_divInt,Qd]at hK;exact hK
  have hn0:n≠0:=λe=>h (by rw [e];rfl)
  have hg0:((Int.gcd n d:Nat):Int)≠0:=by
   have:=Int.gcd_pos_of_ne_zero_left d hn0;omega
  have hgz:zs ((Int.gcd n d:Nat):Int)<=17179869184:=YaN hd0 hz';simp only [Int.gcd_neg,Int.neg_gcd,Xab,Wa2];refine⟨λhdn=>⟨by omega,by omega,hz,hz',λhnn=>⟨by omega,hz,hgz,hg0,hz',hgz,hg0,?_⟩,λhnn=>⟨hz,hgz,hg0,hz',hgz,hg0,?_⟩⟩,λhdn=>⟨hz,hz',λhnn=>⟨by omega,hz,hgz,hg0,hz',hgz,hg0,?_⟩,λhnn=>⟨hz,hgz,hg0,hz',hgz,hg0,?_⟩⟩⟩
  .rw [uB hd0 hn0 (by omega) (by omega) (by omega) (by omega) rfl (by rw [decide_eq_decide,Int.sign_eq_neg_one_of_neg hdn];omega)];exact hK
  .rw [uB hd0 hn0 (by omega) (by omega) (by omega) (by omega) rfl (by rw [decide_eq_decide,Int.sign_eq_neg_one_of_neg hdn];omega)];exact hK
  .rw [uB hd0 hn0 (by omega) (by omega) (by omega) (by omega) rfl (by rw [decide_eq_decide,Int.sign_eq_one_of_pos (by omega)];omega)];exact hK
  .rw [uB hd0 hn0 (by omega) (by omega) (by omega) (by omega) rfl (by rw [decide_eq_decide,Int.sign_eq_one_of_pos (by omega)];omega)];exact hK
theorem Vah(hΓ:Holds P Γ){f fo fn ff:Nat}(ho:Γ fo=.dat false zH)(hn:Γ fn=.dat false Qq)(hf:Γ ff=.dat false qj)(hc:check P f=some (7,(Yp fo fn ff).strip,[.cell 2 3 true])):Sound P f (.dat false Wx):=by
 refine ka hc yba hΓ (λargs K hcl hfi hG=>?_);match args,hG with
 | [a],hG=>
  obtain⟨k,n,rfl,rfl,hn1,hn2,hK⟩:=Vb hG;refine⟨by simp,?_⟩
  simp only [go_sem,Yp,ho,hn,hf];have e:Rat.divInt n 1=(n:Rat):=Rat.num_divInt_den (n:Rat);rw [e];have h1:zs 1<=2:=uV (by decide)
  have h2:zs n<=2:=uV (by omega)
  exact⟨hn1,hn2,by omega,by omega,by decide,hK⟩
theorem zS(hΓ:Holds P Γ){f fp fn ff:Nat}(hp:Γ fp=.dat false Qe)(hn:Γ fn=.dat false Jv)(hf:Γ ff=.dat false qj)(hc:check P f=some (14,(xn fp fn ff).strip,[.cell 2 3 true])):Sound P f (.dat false Xp):=by
 refine ka hc VaT hΓ (λargs K hcl hfi hG=>?_);match args,hG with
 | [a],hG=>
  obtain⟨x,rfl,hx,hl,hK⟩:=hG;refine⟨by simp,?_⟩
  simp only [go_sem,xn,hp,hn,hf,hx];have n1:=uE hx;have d1:=qE hx;rw [YaY,Xab];exact⟨hl,by omega,by omega,by omega,QA _,hK⟩
theorem zN(hΓ:Holds P Γ){f fp fs:Nat}(hp:Γ fp=.dat false Qe)(hs:Γ fs=.dat true Qg)(hc:check P f=some (12,(Zm fp fs).strip,[.tmp 2])):Sound P f (.dat true xk):=by
 refine ka hc WaE hΓ (λargs K hcl hfi hG=>?_);match args,hG with
 | [a],hG=>
  obtain⟨x,rfl,hx,hl,hK⟩:=hG;refine⟨by simp,?_⟩
  simp only [go_sem,Zm,hp,hs,hx];rw [<-JaR];exact⟨hl,hK⟩
theorem wU(hΓ:Holds P Γ){f fp fm fa ff:Nat}(hp:Γ fp=.dat false Qe)(hm:Γ fm=.dat false Uv)(ha:Γ fa=.dat false Xx)(hf:Γ ff=.dat false qj)(hc:check P f=some (30,(Xn fp fm fa ff).strip,[.cell 4 3 true])):Sound P f (.dat false Zn):=by
 refine ka hc wa6 hΓ (λargs K hcl hfi hG=>?_);match args,hG with
 | [a,b],hG=>
  obtain⟨x,rfl,hx,y,rfl,hy,hl,hl',hK⟩:=hG;refine⟨by simp,?_⟩
  simp only [go_sem,Xn,hp,hm,ha,hf,hx,hy];have n1:=uE hx;have d1:=qE hx;have n2:=uE hy;have d2:=qE hy;rw [Int.natCast_mul,vag];have m1:=Vu (rv x).num (rv y).den;have m2:=Vu (rv y).num (rv x).den;have m3:=Vu ((rv x).den:Int) (rv y).den;have a1:=UJ ((rv x).num*(rv y).den) ((rv y).num*(rv x).den);exact⟨hl,hl',by omega,by omega,by omega,by omega,by omega,by omega,by omega,by omega,by omega,by omega,Int.mul_ne_zero (QA _) (QA _),hK⟩
theorem UU(hΓ:Holds P Γ){f fn fa:Nat}(hn:Γ fn=.dat false Xp)(ha:Γ fa=.dat false Zn)(hc:check P f=some (9,(kn fn fa).strip,[.cell 4 3 true])):Sound P f (.dat false vr):=by
 refine ka hc VaU hΓ (λargs K hcl hfi hG=>?_);match args,hG with
 | [a,b],hG=>
  obtain⟨x,rfl,hx,y,rfl,hy,hl,hl',hK⟩:=hG;refine⟨by simp,?_⟩
  simp only [go_sem,kn,hn,ha,hx,hy];rw [<-Rat.sub_eq_add_neg,Vv];exact⟨hl',hl,Nat.le_trans (Ze hy) hl',hK⟩
end Go.Abs
end
section
namespace Go.Num
def bln(n:Nat):Nat:=if n=0 then 0 else bln (n / 2)+1
termination_by n
decreasing_by omega
theorem VI:bln 0=0:=by rw [bln];rfl
theorem xak{n:Nat}(h:n≠0):bln n=bln (n / 2)+1:=by rw [bln,if_neg h]
theorem wbD(n:Nat):n<2 ^ bln n:=by
 induction n using Nat.strongRecOn with
 | _ n ih=>
  by_cases h:n=0
  .subst h;rw [VI];decide
  .rw [xak h,Nat.pow_succ];have:=ih (n / 2) (by omega)
   omega
theorem vbm{n k:Nat}(h:n<2 ^ k):bln n<=k:=by
  induction k generalizing n with
  | zero => have : n = 0 := by omega
            subst this;rw [VI];exact Nat.le_refl _
  | succ k ih=>
    by_cases h0:n=0
    . subst h0;rw [VI];omega
    . rw [xak h0]
      have:=ih (n:=n / 2) (by rw [Nat.pow_succ]at h;omega)
      omega
theorem uW(l:List Nat)(m:Nat):val l=val (l.take m)+4294967296 ^ m*val (l.drop m):=by
 by_cases h:m<=l.length
 .conv=>lhs;rw [<-List.take_append_drop m l,Qc,List.length_take,Nat.min_eq_left h]
 .rw [List.take_of_length_le (by omega),List.drop_of_length_le (by omega)];simp [val]
theorem UB(l:List Nat)(m:Nat):val (l.drop m)=l.getD m 0+4294967296*val (l.drop (m+1)):=by
 by_cases h:m<l.length
 .have:=WO l (n:=m+1) (by omega) (by omega)
  exact this
 .rw [List.drop_of_length_le (by omega),List.drop_of_length_le (by omega),List.getD_eq_getElem?_getD,List.getElem?_eq_none (by omega)];simp [val]
theorem uak{l:List Nat}(h:WL l)(m:Nat):val (l.take m)<4294967296 ^ m:=
 Nat.lt_of_lt_of_le (Vn (uz h m)) (Nat.pow_le_pow_right (by omega) (by rw [List.length_take];omega))
theorem Jbn{x y:List Nat}{m:Nat}(hx:WL x)(hd:val (x.drop (m+1))=val (y.drop (m+1)))(h:x.getD m 0<y.getD m 0):val x<val y:=by
 have h1:=uW x m;have h2:=uW y m;have h3:=uak hx m;rw [UB,hd]at h1;rw [UB]at h2;generalize 4294967296 ^ m=p at *
 have:p*(x.getD m 0+4294967296*val (y.drop (m+1))+1)<=p*(y.getD m 0+4294967296*val (y.drop (m+1))):=Nat.mul_le_mul_left _ (by omega)
 rw [Nat.mul_add p _ 1]at this;omega
theorem jZ{x y c:Nat}(hx:x<4294967296)(hy:y<4294967296)(hc:c<=1):∃s:Nat,((((4294967296+(x:Int)) % 18446744073709551616-(y:Int)) % 18446744073709551616-(c:Int)) % 18446744073709551616)=(s:Int)/\
  (1-(s:Int) / 4294967296) % 18446744073709551616=((1-s / 4294967296:Nat):Int)/\s % 4294967296+y+c=x+4294967296*(1-s / 4294967296)/\1-s / 4294967296<=1:=by
 exact⟨4294967296+x-y-c,by omega,by omega,by omega,by omega⟩
theorem jba{V Q c xa ya a b u w B:Nat}(h:V+Q*c=xa+ya)(hs:u+B*w=a+b+c):V+Q*u+Q*B*w=xa+Q*a+(ya+Q*b):=by
 have:=congrArg (Q * ·) hs;simp only [Nat.mul_add]at this;rw [Nat.mul_assoc Q B w];omega
theorem qaL{o l post:List Nat}(h:o.length<=l.length):(o++(l.drop o.length++post)).length=l.length+post.length:=by simp;omega
theorem Ual{o l post:List Nat}(h:o.length<=l.length):(o++(l.drop o.length++post)).take l.length=o++l.drop o.length:=by
 rw [<-List.append_assoc,List.take_append_of_le_length (by simp;omega),List.take_of_length_le (by simp;omega)]
theorem zav(o l:List Nat)(k:Nat):(o++l.drop o.length).getD (o.length+k) 0=l.getD (o.length+k) 0:=by
 simp only [List.getD_eq_getElem?_getD];rw [List.getElem?_append_right (by omega),List.getElem?_drop,show o.length+(o.length+k-o.length)=o.length+k by omega]
theorem jY(o l:List Nat):(o++l.drop o.length).getD o.length 0=l.getD o.length 0:=zav o l 0
theorem Var{o l post:List Nat}(v:Nat)(h:o.length<l.length):(o++(l.drop o.length++post)).set o.length v=(o++[v])++(l.drop (o++[v]).length++post):=by
 have:=jan [] o l post v h;simpa using this
theorem Xbu{o l:List Nat}(h:o.length<=l.length):(o++l.drop o.length).length=l.length:=by simp;omega
theorem Zbp{o l:List Nat}(v:Nat)(h:o.length<l.length):(o++l.drop o.length).set o.length v=(o++[v])++l.drop (o++[v]).length:=by
 have:=Var (post:=[]) v h;simpa using this
theorem jbr{o l:List Nat}(ho:WL o)(hl:WL l):WL (o++l.drop o.length):=ye.2 ⟨ho,kbs hl _⟩
theorem vbd{a b:Nat}(ha:a<4294967296)(hb:b<4294967296):(a / 2 ||| b*2147483648 % 18446744073709551616) % 4294967296=(a+4294967296*b) / 2 ^ 1 % 4294967296:=by
 have:=Nat.two_pow_add_eq_or_of_lt (i:=31) (b:=a / 2) (by omega) b
 rw [Nat.mod_eq_of_lt (show b*2147483648<18446744073709551616 by omega),Nat.or_comm,show b*2147483648=2 ^ 31*b by omega,<-this]
 omega
theorem zaM{l post:List Nat}{i:Nat}(h:i<l.length):(l++post).getD i 0=l.getD i 0:=by
 simp only [List.getD_eq_getElem?_getD];rw [List.getElem?_append_left h]
theorem xm{a:Nat}(h:a≠0):0<(digs a).length:=by rw [vt h];simp
theorem xx{a:Nat}(h:a≠0)(p:List Nat):(digs a++p).getD 0 0=a % 4294967296:=by rw [vt h];rfl
theorem zy{a:Nat}:(digs a).length=0↔a=0:=by rw [List.length_eq_zero_iff,Zg]
theorem ybL{a b k g:Nat}(ha:a % 2=0)(hb:b % 2=0)(h:Nat.gcd a b*2 ^ k=g):Nat.gcd (a / 2) (b / 2)*2 ^ (k+1)=g:=by
 obtain⟨a',rfl⟩:∃a',a=2*a':=⟨a / 2,by omega⟩
 obtain⟨b',rfl⟩:∃b',b=2*b':=⟨b / 2,by omega⟩
 rw [Nat.gcd_mul_left]at h;rw [Nat.mul_div_cancel_left _ (by omega),Nat.mul_div_cancel_left _ (by omega),Nat.pow_succ,<-h]
 rw [Nat.mul_comm (2 ^ k) 2,<-Nat.mul_assoc,Nat.mul_comm _ 2]
theorem Za2{a b:Nat}(ha:a % 2=0)(hb:b % 2≠0):Nat.gcd (a / 2) b=Nat.gcd a b:=by
 obtain⟨a',rfl⟩:∃a',a=2*a':=⟨a / 2,by omega⟩
 rw [Nat.mul_div_cancel_left _ (by omega)]
 have:Nat.Coprime 2 b:=by
  rw [Nat.coprime_iff_gcd_eq_one,Nat.gcd_rec,show b % 2=1 by omega];rfl
 exact(Nat.Coprime.gcd_mul_left_cancel a' this).symm
theorem Xbi{a b:Nat}(ha:a % 2≠0)(hb:b % 2=0):Nat.gcd a (b / 2)=Nat.gcd a b:=by
 rw [Nat.gcd_comm a,Nat.gcd_comm a];exact Za2 hb ha
theorem uY{a b:Nat}(h:b<=a):Nat.gcd (a-b) b=Nat.gcd a b:=Nat.gcd_sub_self_left h
theorem Zbs{k n:Nat}(h:2 ^ k<=n){s:Nat}(hn:n<4294967296 ^ s):k<32*s:=by
 have e:(4294967296:Nat) ^ s=2 ^ (32*s):=by rw [Nat.pow_mul]
 rw [e]at hn;exact(Nat.pow_lt_pow_iff_right (by omega)).1 (Nat.lt_of_le_of_lt h hn)
theorem xI{a b:Nat}:ordN a b<0↔a<b:=by unfold ordN;split <;> (try split) <;> omega
theorem Ubu{x:List Nat}(hx:WL x)(h:x.length≠0):val x<2 ^ (32*(x.length-1)+bln (x.getD (x.length-1) 0)):=by
 have h1:=uW x (x.length-1);have h2:=UB x (x.length-1);rw [show x.length-1+1=x.length by omega,List.drop_length]at h2
 have h3:=uak hx (x.length-1);have h4:=wbD (x.getD (x.length-1) 0);have e:(4294967296:Nat) ^ (x.length-1)=2 ^ (32*(x.length-1)):=by rw [Nat.pow_mul]
 rw [h2,show val []=0 from rfl,Nat.mul_zero,Nat.add_zero]at h1;rw [Nat.pow_add,<-e];generalize 4294967296 ^ (x.length-1)=p at *
 generalize 2 ^ bln (x.getD (x.length-1) 0)=q at *
 have:p*(x.getD (x.length-1) 0+1)<=p*q:=Nat.mul_le_mul_left _ h4;rw [Nat.mul_add,Nat.mul_one]at this;omega
theorem digit(x:List Nat){m:Nat}(hx:WL x):val x / 4294967296 ^ m=x.getD m 0+4294967296*val (x.drop (m+1)):=by
 rw [uW x m,UB,Nat.add_mul_div_left _ _ (Nat.pow_pos (by omega)),Nat.div_eq_of_lt (uak hx m),Nat.zero_add]
theorem VN(i:Nat):(2:Nat) ^ i=4294967296 ^ (i / 32)*2 ^ (i % 32):=by
 have e:(4294967296:Nat) ^ (i / 32)=2 ^ (32*(i / 32)):=by rw [Nat.pow_mul]
 rw [e,<-Nat.pow_add,Nat.div_add_mod]
theorem qbB{x:List Nat}(hx:WL x)(i:Nat):x.getD (i / 32) 0 / 2 ^ (i % 32) % 2=val x / 2 ^ i % 2:=by
 rw [VN i,<-Nat.div_div_eq_div_mul,digit x hx];have hs:i % 32<32:=Nat.mod_lt _ (by omega)
 generalize i % 32=s at *
 generalize val (x.drop (i / 32+1))=r;have e:(4294967296:Nat)=2 ^ s*(2*2 ^ (31-s)):=by
  rw [Nat.mul_left_comm,<-Nat.pow_add,show s+(31-s)=31 by omega]
 rw [e,Nat.mul_assoc,Nat.add_mul_div_left _ _ (Nat.pow_pos (by omega)),Nat.mul_assoc,Nat.add_mul_mod_self_left]
theorem waC(v i:Nat):v / 2 ^ i=2*(v / 2 ^ (i+1))+v / 2 ^ i % 2:=by
 rw [Nat.pow_succ,<-Nat.div_div_eq_div_mul];omega
theorem XbN{a c:Nat}(hc:c<=1):a*2 % 4294967296 ||| c=a*2 % 4294967296+c:=by
 have:=Nat.two_pow_add_eq_or_of_lt (i:=1) (b:=c) (by omega) (a*2 % 4294967296 / 2)
 rw [show 2 ^ 1*(a*2 % 4294967296 / 2)=a*2 % 4294967296 by omega]at this
 exact this.symm
theorem ybs{a s:Nat}(hs:s<32)(h:a % 2 ^ (s+1)=0):a ||| 2 ^ s=a+2 ^ s:=by
 have:=Nat.two_pow_add_eq_or_of_lt (i:=s+1) (b:=2 ^ s) (Nat.pow_lt_pow_right (by omega) (by omega)) (a / 2 ^ (s+1))
 rw [Nat.mul_div_cancel' (Nat.dvd_of_mod_eq_zero h)]at this;exact this.symm
theorem Qbf{q:List Nat}(hq:WL q){i Q:Nat}(h:val q=Q*2 ^ (i+1)):q.getD (i / 32) 0 % 2 ^ (i % 32+1)=0:=by
 have hs:i % 32<32:=Nat.mod_lt _ (by omega)
 have h1:=digit q hq (m:=i / 32);have e1:(2:Nat) ^ (i+1)=4294967296 ^ (i / 32)*2 ^ (i % 32+1):=by rw [Nat.pow_succ,VN,Nat.pow_succ,Nat.mul_assoc]
 rw [h,e1,Nat.mul_left_comm,Nat.mul_div_cancel_left _ (Nat.pow_pos (by omega))]at h1
 generalize i % 32=s at *
 generalize val (q.drop (i / 32+1))=r at *
 have e2:(4294967296:Nat)=2 ^ (s+1)*2 ^ (31-s):=by
  rw [<-Nat.pow_add,show s+1+(31-s)=32 by omega]
 have:(q.getD (i / 32) 0+4294967296*r) % 2 ^ (s+1)=0:=by rw [<-h1];exact Nat.mul_mod_left _ _
 rw [e2,Nat.mul_assoc,Nat.add_mul_mod_self_left]at this;exact this
theorem Xbb{vo p c tr bit x:Nat}(h:vo+p*c=2*tr+bit)(hx:x<4294967296):vo+p*(x*2 % 4294967296+c)+p*4294967296*(x / 2147483648)=2*(tr+p*x)+bit:=by
 have e:x*2 % 4294967296+4294967296*(x / 2147483648)=2*x:=by omega
 have:=congrArg (p * ·) e;simp only [Nat.mul_add]at this ⊢;rw [Nat.mul_assoc p 4294967296];have e2:p*(2*x)=2*(p*x):=by rw [Nat.mul_left_comm]
 omega
theorem Xa9{v y i q r bit:Nat}(hy:0<y)(hb:v / 2 ^ i % 2=bit)(hq:q=v / 2 ^ (i+1) / y*2 ^ (i+1))(hr:r=v / 2 ^ (i+1) % y)(h:y<=2*r+bit):q+2 ^ i=v / 2 ^ i / y*2 ^ i/\2*r+bit-y=v / 2 ^ i % y:=by
 have e:=waC v i;rw [hb]at e;have d:=Nat.div_add_mod (v / 2 ^ (i+1)) y;have hm:=Nat.mod_lt (v / 2 ^ (i+1)) hy;rw [<-hr]at d hm;generalize hQ:v / 2 ^ (i+1) / y=Q at *
 generalize v / 2 ^ (i+1)=X at *
 have hb1:bit<=1:=by omega
 have key:v / 2 ^ i=y*(2*Q+1)+(2*r+bit-y):=by
  have e2:y*(2*Q+1)=2*(y*Q)+y:=by rw [Nat.mul_add,Nat.mul_one,Nat.mul_left_comm y 2 Q]
  rw [e,<-d,e2];omega
 have hlt:2*r+bit-y<y:=by omega
 constructor
 .rw [key,Nat.mul_add_div hy,Nat.div_eq_of_lt hlt,Nat.add_zero,hq,Nat.pow_succ,Nat.add_mul,Nat.one_mul,Nat.mul_comm 2 Q,Nat.mul_assoc,Nat.mul_comm 2]
 .rw [key,Nat.mul_add_mod,Nat.mod_eq_of_lt hlt]
theorem ZaN{v y i q r bit:Nat}(hy:0<y)(hb:v / 2 ^ i % 2=bit)(hq:q=v / 2 ^ (i+1) / y*2 ^ (i+1))(hr:r=v / 2 ^ (i+1) % y)(h:2*r+bit<y):q=v / 2 ^ i / y*2 ^ i/\2*r+bit=v / 2 ^ i % y:=by
 have e:=waC v i;rw [hb]at e;have d:=Nat.div_add_mod (v / 2 ^ (i+1)) y;rw [<-hr]at d;generalize hQ:v / 2 ^ (i+1) / y=Q at *
 generalize v / 2 ^ (i+1)=X at *
 have key:v / 2 ^ i=y*(2*Q)+(2*r+bit):=by
  have e2:y*(2*Q)=2*(y*Q):=by rw [Nat.mul_left_comm y 2 Q]
  rw [e,<-d,e2];omega
 constructor
 .rw [key,Nat.mul_add_div hy,Nat.div_eq_of_lt h,Nat.add_zero,hq,Nat.pow_succ,Nat.mul_comm 2 Q,Nat.mul_assoc,Nat.mul_comm 2]
 .rw [key,Nat.mul_add_mod,Nat.mod_eq_of_lt h]
end Go.Num
namespace Go.Abs
open Go.Num
theorem share4{c1 c2 c3 p d1 d2 d3 q X L:Prop}(h1:c1)(h2:c2)(h3:c3)(k1:d1)(k2:d2)(k3:d3)(hx:p->q->X)(hl:¬p∨¬q->L):c1/\c2/\c3/\(p->d1/\d2/\d3/\(q->X)/\(¬q->L))/\(¬p->L):=
 ⟨h1,h2,h3,λhp=>⟨k1,k2,k3,hx hp,λhq=>hl (.inr hq)⟩,λhp=>hl (.inl hp)⟩
theorem Qn(K:AV->Prop)(a:Nat):arith K .and .u32 (a:Int) 1=(a<2 ^ IntKind.u32.bits/\intR K .u32 ((a % 2:Nat):Int)):=UaF K .u32 a rfl (by decide)
theorem Jab{h' : Nat->HB}{k v v' z:Nat}{b:Bool}{es:List (List C)}{l' : List Nat}{r:List (Nat×HB)}(e:es=l'.map wc):okH (mkH ((k,⟨v,some ⟨es,z,b⟩⟩)::r)) h' [(k,⟨v',some ⟨l'.map wc,z,b⟩⟩)]:=by
 subst e;exact Xg rfl
theorem uaO{h h' : Nat->HB}{z:Nat}{b:Bool}{es:List (List C)}{l' : List Nat}(e:es=l'.map wc):okB h h' (some ⟨es,z,b⟩) (some ⟨l'.map wc,z,b⟩):=by
 subst e;exact yb rfl
theorem QaR(L:List Nat)(i s:Nat):(L.map wc).set i [C.lit (.int .u32 ((s:Int) % 4294967296))]=(L.set i (s % 4294967296)).map wc:=by
 rw [List.map_set];simp [wc]
def onWx(k:List Nat->Prop)(a:AV):Prop:=∃l,(a=.one (ws l)∨a=.one (.full (l.map wc))∨(a=.one .emp/\l=[]))/\WL l/\k l
@[congr] theorem qbW {k:List Nat->Prop} {a a' : AV} (h:a=a'):onWx k a=onWx k a':=by subst h;rfl
theorem Jaa(k:List Nat->Prop)(l:List Nat):onWx k (.one (.slice (l.map wc)))=(WL l/\k l):=by
 refine propext ⟨λ⟨x,h,h1,h2⟩=>?_,λh=>⟨l,.inl rfl,h⟩⟩;rcases h with h|h|h
 .have:=Yz l x h;subst this;exact⟨h1,h2⟩
 .simp at h
 .simp at h
theorem XaM(k:List Nat->Prop)(l:List Nat):onWx k (.one (.full (l.map wc)))=(WL l/\k l):=by
 refine propext ⟨λ⟨x,h,h1,h2⟩=>?_,λh=>⟨l,.inr (.inl rfl),h⟩⟩;rcases h with h|h|h
 .simp [ws]at h
 .have:=qU (x:=l) (y:=x) (by simpa using h);subst this;exact⟨h1,h2⟩
 .simp at h
theorem zaX(k:List Nat->Prop):onWx k (.one .emp)=k []:=by
 refine propext ⟨λ⟨x,h,h1,h2⟩=>?_,λh=>⟨[],.inr (.inr ⟨rfl,rfl⟩),Wc,h⟩⟩;rcases h with h|h|h
 .simp [ws]at h
 .simp at h
 .obtain⟨_,rfl⟩:=h;exact h2
attribute [go_sem,go_sem ↓] Jaa XaM zaX
theorem XbF{β:Type}{T:List Nat->(β->Prop)->Prop}(h:∀l,GoodT (T l)){a:AV}:GoodT λK=>onWx (λl=>T l K) a:=
 .of λK hx=>by
  obtain⟨l,ha,hw,hk⟩:=hx;rcases ha with ha|ha|⟨ha,rfl⟩
  .have:(λK=>onWx (λl=>T l K) a)=λK=>WL l/\T l K:=funext λK=>by rw [ha];exact Jaa _ l
   rw [this];exact .and λ_=>h l
  .have:(λK=>onWx (λl=>T l K) a)=λK=>WL l/\T l K:=funext λK=>by rw [ha];exact XaM _ l
   rw [this];exact .and λ_=>h l
  .have:(λK=>onWx (λl=>T l K) a)=T []:=funext λK=>by rw [ha];exact zaX _
   rw [this];exact h []
def vv(l:List AV)(K:List (List C)->Prop):Prop:=
 match l with
 | [a]=>onWx (λl=>l.length<=68719476736/\K ((digs (val l)).map wc)) a
 | _=>False
theorem ua3(a:AV)(K:List (List C)->Prop):vv [a] K=(onWx (λl=>l.length<=68719476736/\K ((digs (val l)).map wc)) a):=propext Iff.rfl
@[congr] theorem yb1 {K:List (List C)->Prop} {l l' : List AV} (h:l=l'):vv l K=vv l' K:=by subst h;rfl
attribute [go_sem,go_sem ↓] ua3
theorem YaR:Good vv:=Wa λas=>by
 unfold vv;split
 .exact(XbF λ_=>(.and λ_=>(.ret _)))
 .exact .of λK hk=>hk.elim
def Qu(l:List AV)(K:AV->Prop):Prop:=
 match l with
 | [a,b]=>onWs (λx=>onWs (λy=>K (.one (.lit (.int .i64 (ordN (val x) (val y)))))) b) a
 | _=>False
theorem yax(a b:AV)(K:AV->Prop):Qu [a,b] K=(onWs (λx=>onWs (λy=>K (.one (.lit (.int .i64 (ordN (val x) (val y)))))) b) a):=propext Iff.rfl
@[congr] theorem kbQ {K:AV->Prop} {l l' : List AV} (h:l=l'):Qu l K=Qu l' K:=by subst h;rfl
attribute [go_sem,go_sem ↓] yax
theorem vaG:Good Qu:=Wa λas=>by
 unfold Qu;split
 .exact(Yg λ_=>(Yg λ_=>(.ret _)))
 .exact .of λK hk=>hk.elim
def ky(l:List AV)(K:AV->Prop):Prop:=
 match l with
 | [a,b]=>onWs (λx=>onWs (λy=>x.length<=17179869184/\y.length<=17179869184/\K (.one (.slice ((digs (Nat.gcd (val x) (val y))).map wc)))) b) a
 | _=>False
theorem yaq(a b:AV)(K:AV->Prop):ky [a,b] K=(onWs (λx=>onWs (λy=>x.length<=17179869184/\y.length<=17179869184/\K (.one (.slice ((digs (Nat.gcd (val x) (val y))).map wc)))) b) a):=propext Iff.rfl
@[congr] theorem XbO {K:AV->Prop} {l l' : List AV} (h:l=l'):ky l K=ky l' K:=by subst h;rfl
attribute [go_sem,go_sem ↓] yaq
theorem VaE:Good ky:=Wa λas=>by
 unfold ky;split
 .exact(Yg λ_=>(Yg λ_=>(.and λ_=>(.and λ_=>(.ret _)))))
 .exact .of λK hk=>hk.elim
def kr(l:List AV)(K:AV->Prop):Prop:=
 match l with
 | [a]=>onWs (λx=>x.length<=68719476736/\K (.one (.lit (.int .i64 ((if x.length=0 then 0 else 32*(x.length-1)+bln (x.getD (x.length-1) 0):Nat):Int))))) a
 | _=>False
theorem qad(a:AV)(K:AV->Prop):kr [a] K=(onWs (λx=>x.length<=68719476736/\K (.one (.lit (.int .i64 ((if x.length=0 then 0 else 32*(x.length-1)+bln (x.getD (x.length-1) 0):Nat):Int))))) a):=propext Iff.rfl
@[congr] theorem XbM {K:AV->Prop} {l l' : List AV} (h:l=l'):kr l K=kr l' K:=by subst h;rfl
attribute [go_sem,go_sem ↓] qad
theorem Uaj:Good kr:=Wa λas=>by
 unfold kr;split
 .exact(Yg λ_=>(.and λ_=>(.ret _)))
 .exact .of λK hk=>hk.elim
def ZF(l:List AV)(K:AV->Prop):Prop:=
 match l with
 | [a,b]=>onW (λv=>onW (λw=>zs (zv v)<=17179869184/\zs (zv w)<=17179869184/\K (.agg [zb (zcan (zv v-zv w)),zm (zcan (zv v-zv w))])) b) a
 | _=>False
theorem YaM(a b:AV)(K:AV->Prop):ZF [a,b] K=(onW (λv=>onW (λw=>zs (zv v)<=17179869184/\zs (zv w)<=17179869184/\K (.agg [zb (zcan (zv v-zv w)),zm (zcan (zv v-zv w))])) b) a):=propext Iff.rfl
@[congr] theorem jb0 {K:AV->Prop} {l l' : List AV} (h:l=l'):ZF l K=ZF l' K:=by subst h;rfl
attribute [go_sem,go_sem ↓] YaM
theorem va8:Good ZF:=Wa λas=>by
 unfold ZF;split
 .exact(Um λ_=>(Um λ_=>(.and λ_=>(.and λ_=>(.ret _)))))
 .exact .of λK hk=>hk.elim
def Xr(l:List AV)(K:AV->Prop):Prop:=
 match l with
 | [a,b]=>onW (λv=>onW (λw=>zs (zv v)<=17179869184/\zs (zv w)<=17179869184/\zs (zv v-zv w)<=17179869184/\K (.one (.lit (.int .i64 (ordI (zv v) (zv w)))))) b) a
 | _=>False
theorem Q9(a b:AV)(K:AV->Prop):Xr [a,b] K=(onW (λv=>onW (λw=>zs (zv v)<=17179869184/\zs (zv w)<=17179869184/\zs (zv v-zv w)<=17179869184/\K (.one (.lit (.int .i64 (ordI (zv v) (zv w)))))) b) a):=propext Iff.rfl
@[congr] theorem ZbN {K:AV->Prop} {l l' : List AV} (h:l=l'):Xr l K=Xr l' K:=by subst h;rfl
attribute [go_sem,go_sem ↓] Q9
theorem yam:Good Xr:=Wa λas=>by
 unfold Xr;split
 .exact(Um λ_=>(Um λ_=>(.and λ_=>(.and λ_=>(.and λ_=>(.ret _))))))
 .exact .of λK hk=>hk.elim
def Yr(l:List AV)(K:AV->Prop):Prop:=
 match l with
 | [a,b]=>onW (λv=>onW (λw=>zs (zv v)<=17179869184/\zs (zv w)<=17179869184/\zv w≠0/\K (.tup [.agg [zb (zcan (zv v / zv w)),zm (zcan (zv v / zv w))],.agg [zb (zcan (zv v % zv w)),zm (zcan (zv v % zv w))],.one (.lit (.int .i64 0))])) b) a
 | _=>False
theorem Wae(a b:AV)(K:AV->Prop):Yr [a,b] K=(onW (λv=>onW (λw=>zs (zv v)<=17179869184/\zs (zv w)<=17179869184/\zv w≠0/\K (.tup [.agg [zb (zcan (zv v / zv w)),zm (zcan (zv v / zv w))],.agg [zb (zcan (zv v % zv w)),zm (zcan (zv v % zv w))],.one (.lit (.int .i64 0))])) b) a):=propext Iff.rfl
@[congr] theorem QbF {K:AV->Prop} {l l' : List AV} (h:l=l'):Yr l K=Yr l' K:=by subst h;rfl
attribute [go_sem,go_sem ↓] Wae
theorem waj:Good Yr:=Wa λas=>by
 unfold Yr;split
 .exact(Um λ_=>(Um λ_=>(.and λ_=>(.and λ_=>(.and λ_=>(.ret _))))))
 .exact .of λK hk=>hk.elim
def U5(d:Option Nat)(args:List AV)(h:Nat->HB)(K:AV->(Nat->HB)->Prop):Prop:=
 match args with
 | [.one (.own r ver 1 0 len)]=>∃l post,len=l.length/\h r=⟨ver,some ⟨(l++post).map wc,1,true⟩⟩/\WL l/\len<=68719476736/\
   ∀post',K (.one (.own r ver 1 0 (digs (val l)).length)) (upd h r ⟨ver,some ⟨(digs (val l)++post').map wc,1,true⟩⟩)
 | _=>False
@[congr] theorem Xb2 {d:Option Nat} {l l' : List AV} {h h' : Nat->HB} {K:AV->(Nat->HB)->Prop} (e1:l=l') (e2:h=h'):U5 d l h K=U5 d l' h' K:=by subst e1;subst e2;rfl
def vq(d:Option Nat)(args:List AV)(h:Nat->HB)(K:AV->(Nat->HB)->Prop):Prop:=
 match args with
 | [.one (.own r ver 1 0 len)]=>∃l post,len=l.length/\h r=⟨ver,some ⟨(l++post).map wc,1,true⟩⟩/\WL l/\len<=68719476736/\
   ∀post',K (.one (.own r ver 1 0 (digs (val l / 2)).length)) (upd h r ⟨ver,some ⟨(digs (val l / 2)++post').map wc,1,true⟩⟩)
 | _=>False
@[congr] theorem jbP {d:Option Nat} {l l' : List AV} {h h' : Nat->HB} {K:AV->(Nat->HB)->Prop} (e1:l=l') (e2:h=h'):vq d l h K=vq d l' h' K:=by subst e1;subst e2;rfl
def jy(d:Option Nat)(args:List AV)(h:Nat->HB)(K:AV->(Nat->HB)->Prop):Prop:=
 match args with
 | [.one (.own r ver 1 0 len),.one (.own r2 ver2 1 0 len2)]=>∃l post y posty,r≠r2/\len=l.length/\h r=⟨ver,some ⟨(l++post).map wc,1,true⟩⟩/\WL l/\len<=68719476736/\
   len2=y.length/\h r2=⟨ver2,some ⟨(y++posty).map wc,1,true⟩⟩/\WL y/\val y<=val l/\
   K (.tup []) (upd (upd h r2 ⟨ver2,some ⟨(y++posty).map wc,1,true⟩⟩) r ⟨ver,some ⟨(dig l.length (val l-val y)++post).map wc,1,true⟩⟩)
 | [.one (.own r ver 1 0 len),b]=>onWs (λy=>∃l post,len=l.length/\h r=⟨ver,some ⟨(l++post).map wc,1,true⟩⟩/\WL l/\len<=68719476736/\val y<=val l/\
   K (.tup []) (upd h r ⟨ver,some ⟨(dig l.length (val l-val y)++post).map wc,1,true⟩⟩)) b
 | _=>False
@[congr] theorem QbW {d:Option Nat} {l l' : List AV} {h h' : Nat->HB} {K:AV->(Nat->HB)->Prop} (e1:l=l') (e2:h=h'):jy d l h K=jy d l' h' K:=by subst e1;subst e2;rfl
end Go.Abs
end
section
namespace Go.Abs
open Go.Num
variable {P:Program} {Γ:Nat->Spec}
def kh(f0 f1 f2 f3:Nat):AC:=(.seq (.ops false [.u 1 (.box 3 (.t 0)),.m 2 .fa])
 (.fg [1] (.seq (.seq (.ops false [.u 3 (.fa 1 (.t 1)),.u 4 (.ld none 1 false (.t 3)),.u 5 (.len (.t 4)),.u 6 (.bin .eql (.t 5) (.i 0)),.m 7 (.t 6),.w 8 7 true (.fa 2 (.t 1)),.w 9 7 true (.ld none 1 false (.t 8)),.w 10 7 true (.len (.t 9)),.w 11 7 true (.bin .eql (.t 10) (.i 0)),.u 12 (.pick (.t 7) (.t 11) .fa)])
 (.fg [1,12] (.cond (.t 12) (.seq (.ops false [.u 13 (.fa 0 (.t 1)),.u 14 (.ld none 1 false (.t 13)),.u 15 (.un .not (.t 14)),.m 2 (.t 15)])
 .ret) .skip)))
 (.fg [1] (.seq (.ops false [.u 16 (.fa 1 (.t 1)),.u 17 (.ld none 1 false (.t 16)),.u 18 (.call f0 [(.t 17)]),.m 19 (.t 18),.w 20 19 true (.fa 2 (.t 1)),.w 21 19 true (.ld none 1 false (.t 20)),.w 22 19 true (.call f0 [(.t 21)]),.u 23 (.pick (.t 19) (.t 22) .fa),.m 24 (.t 23),.w 25 24 true (.fa 1 (.t 1)),.w 26 24 true (.ld none 1 false (.t 25)),.w 27 24 true (.build [.z [(.lit (.bool false))],.x 1 (.t 26)]),.w 28 24 true (.fa 2 (.t 1)),.w 29 24 true (.ld none 1 false (.t 28)),.w 30 24 true (.build [.z [(.lit (.bool false))],.x 1 (.t 29)]),.w 31 24 true (.call f1 [(.t 27),(.t 30)]),.w 32 24 true (.call f2 []),.w 33 24 true (.call f3 [(.t 31),(.t 32)]),.w 34 24 true (.bin .eql (.t 33) (.i 0)),.u 35 (.pick (.t 24) (.t 34) .fa),.m 2 (.t 35)])
 .ret)))))
def Yh(f0 f1:Nat):AC:=(.seq (.ops false [.u 1 (.box 3 (.t 0)),.u 2 (.alloc [(.lit (.bool false)),.emp]),.u 3 (.alloc [(.lit (.bool false)),.emp])])
 (.fg [1,2,3] (.seq (.seq (.ops false [.u 4 (.ld none 3 true (.t 1)),.u 5 (.call f0 [(.t 4)]),.u 6 (.un .not (.t 5)),.m 7 (.t 6),.w 8 7 false (.fa 1 (.t 1)),.w 9 7 false (.ld none 1 false (.t 8)),.w 10 7 false (.len (.t 9)),.w 11 7 false (.bin .eql (.t 10) (.i 0)),.u 12 (.pick (.t 7) .tr (.t 11))])
 (.fg [1,2,3,12] (.cond (.t 12) (.seq (.ops false [.u 13 (.build [.z [(.lit (.bool false)),.emp]]),.u 14 (.call f1 []),.n (.st none 2 (.t 2) (.t 13)),.n (.st none 2 (.t 3) (.t 14))])
 .ret) .skip)))
 (.fg [1,2,3] (.seq (.ops true [.u 15 (.fa 0 (.t 1)),.u 16 (.ld (some 1) 1 false (.t 15)),.u 17 (.fa 1 (.t 1)),.u 18 (.ld (some 1) 1 false (.t 17)),.u 19 (.build [.x 1 (.t 16),.x 1 (.t 18)]),.u 20 (.fa 2 (.t 1)),.u 21 (.ld (some 1) 1 false (.t 20)),.u 22 (.build [.z [(.lit (.bool false))],.x 1 (.t 21)]),.n (.st (some 2) 2 (.t 2) (.t 19)),.n (.st (some 3) 2 (.t 3) (.t 22))])
 .ret)))))
def wj(f0 f1 f2 f3:Nat):AC:=(.seq (.ops false [.u 2 (.box 2 (.t 0)),.u 3 (.box 2 (.t 1)),.u 4 (.alloc [(.lit (.bool false)),.emp,.emp])])
 (.fg [2,3,4] (.seq (.seq (.ops false [.u 12 (.ld none 2 true (.t 2)),.u 13 (.call f0 [(.t 12)]),.u 14 (.bin .eql (.t 13) (.i 0))])
 (.fg [2,3,4,14] (.cond (.t 14) (.seq (.ops false [.u 15 (.build [.z [(.lit (.bool false)),.emp,.emp]]),.n (.st none 3 (.t 4) (.t 15))])
 .ret) .skip)))
 (.fg [2,3,4] (.seq (.seq (.ops false [.u 16 (.ld none 2 true (.t 3)),.u 17 (.call f0 [(.t 16)]),.u 18 (.bin .lss (.t 17) (.i 0))])
 (.fg [2,3,4,18] (.cond (.t 18) (.ops true [.u 19 (.ld none 2 true (.t 2)),.u 20 (.call f1 [(.t 19)]),.u 21 (.ld none 2 true (.t 3)),.u 22 (.call f1 [(.t 21)]),.n (.st none 2 (.t 2) (.t 20)),.n (.st none 2 (.t 3) (.t 22))]) .skip)))
 (.fg [2,3,4] (.seq (.ops false [.u 23 (.ld none 2 true (.t 2)),.u 24 (.ld none 2 true (.t 3)),.u 25 (.call f2 [(.t 23),(.t 24)]),.u 5 (.alloc [(.lit (.bool false)),.emp]),.n (.st none 2 (.t 5) (.t 25))])
 (.fg [2,3,4,5] (.seq (.ops false [.u 27 (.ld none 2 true (.t 2)),.u 28 (.ld none 2 true (.t 5)),.u 29 (.call f3 [(.t 27),(.t 28)]),.m 26 (.t 29),.u 30 (.ext 0 (.t 26)),.u 31 (.ext 1 (.t 26)),.u 32 (.ext 2 (.t 26)),.u 6 (.alloc [(.lit (.bool false)),.emp]),.u 7 (.alloc [(.lit (.bool false)),.emp]),.n (.st none 2 (.t 6) (.t 30)),.n (.st none 2 (.t 7) (.t 31)),.m 8 (.t 32)])
 (.fg [3,4,5,6] (.seq (.ops false [.u 34 (.ld none 2 true (.t 3)),.u 35 (.ld none 2 true (.t 5)),.u 36 (.call f3 [(.t 34),(.t 35)]),.m 33 (.t 36),.u 37 (.ext 0 (.t 33)),.u 38 (.ext 1 (.t 33)),.u 39 (.ext 2 (.t 33)),.u 9 (.alloc [(.lit (.bool false)),.emp]),.u 10 (.alloc [(.lit (.bool false)),.emp]),.n (.st none 2 (.t 9) (.t 37)),.n (.st none 2 (.t 10) (.t 38)),.m 11 (.t 39)])
 (.fg [4,6,9] (.seq (.ops false [.u 40 (.fa 0 (.t 6)),.u 41 (.ld none 1 false (.t 40)),.u 42 (.fa 1 (.t 6)),.u 43 (.ld none 1 false (.t 42)),.u 44 (.fa 1 (.t 9)),.u 45 (.ld none 1 false (.t 44)),.u 46 (.build [.x 1 (.t 41),.x 1 (.t 43),.x 1 (.t 45)]),.n (.st none 3 (.t 4) (.t 46))])
 .ret)))))))))))))
def uk(f0 f1:Nat):AC:=(.seq (.ops false [.u 2 (.box 3 (.t 0)),.u 3 (.box 3 (.t 1)),.m 4 (.i 0)])
 (.fg [2,3] (.seq (.ops false [.u 5 (.ld none 3 true (.t 2)),.u 6 (.ld none 3 true (.t 3)),.u 7 (.call f0 [(.t 5),(.t 6)]),.u 8 (.call f1 [(.t 7)]),.m 4 (.t 8)])
 .ret)))
def yj(f0 f1:Nat):AC:=(.seq (.ops false [.u 2 (.box 2 (.t 0)),.u 3 (.box 2 (.t 1)),.u 4 (.alloc [(.lit (.bool false)),.emp,.emp]),.m 5 (.i 0)])
 (.fg [2,3,4] (.seq (.seq (.ops false [.u 6 (.ld none 2 true (.t 3)),.u 7 (.call f0 [(.t 6)]),.u 8 (.bin .eql (.t 7) (.i 0))])
 (.fg [2,3,4,8] (.cond (.t 8) (.seq (.ops false [.u 9 (.build [.z [(.lit (.bool false)),.emp,.emp]]),.n (.st none 3 (.t 4) (.t 9)),.m 5 (.i 8)])
 .ret) .skip)))
 (.fg [2,3,4] (.seq (.ops false [.u 10 (.ld none 2 true (.t 2)),.u 11 (.ld none 2 true (.t 3)),.u 12 (.call f1 [(.t 10),(.t 11)]),.n (.st none 3 (.t 4) (.t 12)),.m 5 (.i 0)])
 .ret)))))
def qi:AC:=(.seq (.ops false [.m 2 .fa])
 (.fg [0] (.seq (.ops false [.m 3 (.t 0),.u 4 (.len (.t 3)),.u 5 (.bin .gtr (.t 4) (.i 0)),.m 6 (.t 5),.w 7 6 true (.mv (.t 0)),.w 8 6 true (.mv (.t 0)),.w 9 6 true (.len (.t 8)),.w 10 6 true (.bin .sub (.t 9) (.i 1)),.w 11 6 true (.idx 1 (.t 7) (.t 10)),.w 12 6 true (.ld none 1 false (.t 11)),.w 13 6 true (.bin .neq (.t 12) (.c (.one (.lit (.int .u32 0))))),.u 14 (.pick (.t 6) (.t 13) .fa),.m 2 (.t 14)])
 .ret)))
def Qj(f0 f1:Nat):AC:=(.seq (.ops false [.u 4 (.alloc [(.lit (.bool false)),.emp,.emp]),.m 5 (.i 0)])
 (.fg [0,1,4] (.seq (.ops false [.m 6 (.t 0),.u 7 (.call f0 [(.t 6)]),.m 8 (.t 1),.u 9 (.call f0 [(.t 8)]),.u 10 (.call f1 [(.t 7),(.t 9)]),.u 11 (.ext 0 (.t 10)),.u 12 (.ext 1 (.t 10)),.n (.st none 3 (.t 4) (.t 11)),.m 5 (.t 12)])
 .ret)))
theorem WM{n d N D:Int}{g:Nat}(hd:d≠0)(hn:n≠0)(hN:N=d.sign*n)(hD:0<=D)(e2:D.natAbs=d.natAbs)(eg:g=Int.gcd n d) :
  AV.agg [zb (zcan (N / (g:Int))),zm (zcan (N / (g:Int))),zm (zcan (D / (g:Int)))]=.agg [cb (rcan (Rat.divInt n d)),cn (rcan (Rat.divInt n d)),cd (rcan (Rat.divInt n d))]:=by
 obtain⟨D',rfl⟩:=Int.eq_ofNat_of_zero_le hD;simp only [Int.natAbs_natCast]at e2;subst e2 eg hN;have hg:0<Int.gcd n d:=Int.gcd_pos_of_ne_zero_left _ hn;rw [yaG,xaH,JaJ,UM hd hn,xaI,xaI,Vbw];have hdv:((Int.gcd n d:Nat):Int) ∣ d.sign*n:=Int.dvd_mul_of_dvd_right (Int.gcd_dvd_left _ _);obtain⟨k,hk⟩:=hdv;have hs:(d.sign*n).natAbs=n.natAbs:=by
  rw [Int.natAbs_mul,Int.natAbs_sign_of_ne_zero hd,Nat.one_mul]
 have e:(d.sign*n / ((Int.gcd n d:Nat):Int))=k:=by rw [hk,Int.mul_ediv_cancel_left _ (by omega)]
 rw [e,<-Int.natCast_ediv];simp only [zcan,Int.natAbs_natCast];have hk2:k.natAbs=n.natAbs / Int.gcd n d:=by
  rw [<-hs,hk,Int.natAbs_mul];simp only [Int.natAbs_natCast];rw [Nat.mul_div_cancel_left _ hg]
 have:decide (k<0)=decide (d.sign*n<0):=by
  rw [decide_eq_decide,hk];constructor
  .intro h;exact Int.mul_neg_of_pos_of_neg (by omega) h
  .intro h;rcases Int.lt_or_le k 0 with h'|h'
   .exact h'
   .have:=Int.mul_nonneg (show(0:Int)<=((Int.gcd n d:Nat):Int) by omega) h';omega
 rw [hk2,this]
theorem UO(hΓ:Holds P Γ){f:Nat}(hc:check P f=some (15,qi.strip,[.tmp 2])):Sound P f (.dat true Us):=by
 refine ka hc Wak hΓ (λargs K hcl hfi hG=>?_);match args,hG with
 | [a],hG=>
  obtain⟨l,rfl,hl,hK⟩:=hG;refine⟨by simp,?_⟩
  simp only [go_sem,qi];intro _;refine⟨λh _=>⟨by omega,by omega,by omega,?_⟩,λh=>?_⟩
  .have hne:l≠[]:=λe=>by rw [e]at h;simp at h
   rw [show((l.length:Int)-1).toNat=l.length-1 by omega]
   have e:(!decide (l.getD (l.length-1) 0=0))=decide (l≠[]/\NZ l):=by
    rw [<-decide_not,decide_eq_decide];unfold NZ;rw [List.getLast?_eq_getElem?,List.getElem?_eq_getElem (by omega),List.getD_eq_getElem?_getD,List.getElem?_eq_getElem (by omega)]
    simp [hne]
   rw [e];exact hK
  .have hne:l=[]:=List.eq_nil_of_length_eq_zero (by omega)
   rw [decide_eq_false (λe=>e.1 hne)]at hK;exact hK
theorem ZP(hΓ:Holds P Γ){f fv fg fo fc:Nat}(hv:Γ fv=.dat true Us)(hg:Γ fg=.dat false zu)(ho:Γ fo=.dat false Qq)(hc' : Γ fc=.dat true Xr)(hc:check P f=some (36,(kh fv fg fo fc).strip,[.tmp 2])):Sound P f (.dat true je):=by
 refine ka hc zK hΓ (λargs K hcl hfi hG=>?_);match args,hG with
 | [a],hG=>
  obtain⟨x,rfl,hx,hl,hK⟩:=hG;refine⟨by simp,?_⟩
  simp only [go_sem,kh,hv,hg,ho,hc',yaG,xaH,JaJ];have hl1:x.2.1.length<=4294967296:=Nat.le_trans (Nat.le_max_left _ _) hl;have hl2:x.2.2.length<=4294967296:=Nat.le_trans (Nat.le_max_right _ _) hl;have e0:∀{l:List Nat},¬l.length=0->l≠[]:=λh e=>h (by rw [e];rfl)
  have key:¬(x.2.1=[]/\x.2.2=[])->WL x.2.1/\(x.2.1≠[]/\NZ x.2.1->WL x.2.2/\(x.2.2≠[]/\NZ x.2.2->WL x.2.1/\WL x.2.2/\zs (zv (false,x.2.1))<=17179869184/\zs (zv (false,x.2.2))<=17179869184/\
    zs (((zv (false,x.2.1)).gcd (zv (false,x.2.2)):Nat):Int)<=17179869184/\zs 1<=17179869184/\zs ((((zv (false,x.2.1)).gcd (zv (false,x.2.2)):Nat):Int)-1)<=17179869184/\
    K (AV.one (C.lit (Value.bool (decide (ordI (((zv (false,x.2.1)).gcd (zv (false,x.2.2)):Nat):Int) 1=0))))))/\(¬(x.2.2≠[]/\NZ x.2.2)->K (AV.one (C.lit (Value.bool false)))))/\(¬(x.2.1≠[]/\NZ x.2.1)->K (AV.one (C.lit (Value.bool false)))):=by
   intro hnd;unfold vldR at hK;rw [if_neg hnd]at hK;refine⟨hx.1,λh1=>⟨hx.2,λh2=>?_,λh2=>?_⟩,λh1=>?_⟩
   .have s2:zs (zv (false,x.2.2))<=4294967296:=by rw [zv_f h2.2,Zag,Je hx.2 h2.2];exact hl2
    have hne:zv (false,x.2.2)≠0:=by
     rw [zv_f h2.2];have:=Xc h2.2 h2.1;omega
    have s3:=YaN (v:=zv (false,x.2.1)) hne s2;have s4:zs 1<=2:=uV (by decide)
    have s5:=UJ ((((zv (false,x.2.1)).gcd (zv (false,x.2.2)):Nat):Int)) (-1);rw [Xab,<-Int.sub_eq_add_neg]at s5;refine⟨hx.1,hx.2,?_,by omega,by omega,by omega,by omega,?_⟩
    .rw [zv_f h1.2,Zag,Je hx.1 h1.2];omega
    .rw [zv_f h1.2,zv_f h2.2];have e:decide (ordI (((((val x.2.1:Nat):Int)).gcd ((val x.2.2:Nat):Int):Nat):Int) 1=0)=decide (x.2.1≠[]/\x.2.2≠[]/\NZ x.2.1/\NZ x.2.2/\Nat.gcd (val x.2.1) (val x.2.2)=1):=by
      rw [decide_eq_decide,Wag,Int.gcd_natCast_natCast];constructor
      .intro h;exact⟨h1.1,h2.1,h1.2,h2.2,by omega⟩
      .rintro⟨_,_,_,_,h⟩;omega
     rw [e];exact hK
   .rw [decide_eq_false (λh=>h2 ⟨h.2.1,h.2.2.2.1⟩)]at hK;exact hK
   .rw [decide_eq_false (λh=>h1 ⟨h.1,h.2.2.1⟩)]at hK;exact hK
  refine λ_=>⟨λhn _=>⟨λhd=>?_,λhd=>key (λh=>e0 hd h.2)⟩,λhn=>key (λh=>e0 hn h.1)⟩;unfold vldR at hK;rw [if_pos ⟨List.eq_nil_of_length_eq_zero hn,List.eq_nil_of_length_eq_zero hd⟩]at hK;exact hK
theorem XO(hΓ:Holds P Γ){f fv fo:Nat}(hv:Γ fv=.dat true je)(ho:Γ fo=.dat false Qq)(hc:check P f=some (23,(Yh fv fo).strip,[.cell 2 2 true,.cell 3 2 true])):Sound P f (.dat false Qe):=by
 refine ka hc vK hΓ (λargs K hcl hfi hG=>?_);match args,hG with
 | [a],hG=>
  obtain⟨x,rfl,hx,hl,hK⟩:=hG;refine⟨by simp,?_⟩
  simp only [go_sem,Yh,hv,ho,yaG,xaH,JaJ];have hl1:x.2.1.length<=4294967296:=Nat.le_trans (Nat.le_max_left _ _) hl;have hl2:x.2.2.length<=4294967296:=Nat.le_trans (Nat.le_max_right _ _) hl;have e0:(zcan 0)=(false,[]):=by simp [zcan,Yb]
  have h0:rv x=0->K (AV.tup [AV.agg [C.lit (Value.bool false),C.slice []],AV.agg [zb (zcan 1),zm (zcan 1)]]):=by
   intro h;rw [h]at hK;have e1:((0:Rat).num)=0:=rfl;have e2:((0:Rat).den:Int)=1:=rfl;rw [e1,e2,e0]at hK;exact hK
  refine⟨hx,hl,λhv _=>⟨λhn=>h0 ?_,λhn=>?_⟩,λhv=>h0 (xao hv)⟩
  .unfold rv;rw [if_pos hv,List.eq_nil_of_length_eq_zero hn];simp [val,sg]
  .obtain⟨p1,p2,p3,p4,p5,p6⟩:=Z0 hx hv (λe=>hn (by rw [e];rfl))
   have hn0:=Xc p4 (λe=>hn (by rw [e];rfl))
   rw [p1,p2]at hK;have e1:zcan (sg x.1 (val x.2.1))=(x.1,x.2.1):=by
    rw [<-zQ,Je hx.1 p4];have:decide (0<x.2.1.length)=true:=by simp only [decide_eq_true_eq];omega
    rw [this,Bool.and_true]
   have e2:zcan ((val x.2.2:Nat):Int)=(false,x.2.2):=by
    have:=zQ false (val x.2.2);rw [Je hx.2 p5,Bool.false_and]at this;exact this.symm
   rw [e1,e2]at hK;exact hK
theorem X0(hΓ:Holds P Γ){f fs fn fg fd:Nat}(hs:Γ fs=.dat true Qg)(hn:Γ fn=.dat false Jv)(hg:Γ fg=.dat false zu)(hd:Γ fd=.dat false Yr)(hc:check P f=some (47,(wj fs fn fg fd).strip,[.cell 4 3 true])):Sound P f (.dat false qj):=by
 refine ka hc jS hΓ (λargs K hcl hfi hG=>?_);match args,hG with
 | [a,b],hG=>
  obtain⟨v,rfl,hv,w,rfl,hw,hz,hz',h0,hK⟩:=hG;refine⟨by simp,?_⟩
  simp only [go_sem,wj,hs,hn,hg,hd,hv,hw];generalize zv v=n at *
  generalize zv w=d at *
  have hd0:=h0;refine⟨λh=>?_,λh=>?_⟩
  .rw [Int.sign_eq_zero_iff_zero.1 h,Rat.zero_divInt,Qd]at hK;exact hK
  have hn0:n≠0:=λe=>h (by rw [e];rfl)
  have hg0:((Int.gcd n d:Nat):Int)≠0:=by
   have:=Int.gcd_pos_of_ne_zero_left d hn0;omega
  have hgz:zs ((Int.gcd n d:Nat):Int)<=17179869184:=YaN hd0 hz';simp only [Int.gcd_neg,Int.neg_gcd,Xab,Wa2];refine⟨λhdn=>⟨by omega,by omega,hz,hz',hz,hgz,hg0,hz',hgz,hg0,?_⟩,λhdn=>⟨hz,hz',hz,hgz,hg0,hz',hgz,hg0,?_⟩⟩
  .rw [WM hd0 hn0 (by rw [Int.sign_eq_neg_one_of_neg hdn];omega) (by omega) (by omega) rfl];exact hK
  .rw [WM hd0 hn0 (by rw [Int.sign_eq_one_of_pos (by omega)];omega) (by omega) (by omega) rfl];exact hK
theorem zad(hΓ:Holds P Γ){f fs fg:Nat}(hs:Γ fs=.dat false vr)(hg:Γ fg=.dat true xk)(hc:check P f=some (9,(uk fs fg).strip,[.tmp 4])):Sound P f (.dat true jg):=by
 refine ka hc vO hΓ (λargs K hcl hfi hG=>?_);match args,hG with
 | [a,b],hG=>
  obtain⟨x,rfl,hx,y,rfl,hy,hl,hl',hK⟩:=hG;refine⟨by simp,?_⟩
  simp only [go_sem,uk,hs,hg,hx,hy];have hs1:=zw (rv x) (rv y);have h1:=Ze hx;have h2:=Ze hy;have e:ordQ (rv x-rv y) 0=ordQ (rv x) (rv y):=by
   unfold ordQ;have e1:(rv x-rv y<0)=(rv x<rv y):=propext ⟨λh=>by have:=(Rat.sub_lt_iff (a:=rv x) (c:=rv y) (b:=0)).1 h;rwa [Rat.zero_add]at this,λh=>(Rat.sub_lt_iff (a:=rv x) (c:=rv y) (b:=0)).2 (by rwa [Rat.zero_add])⟩
   have e2:(0<rv x-rv y)=(rv y<rv x):=propext (Rat.lt_iff_sub_pos _ _).symm;simp only [e1,e2]
  rw [e];exact⟨by omega,by omega,by omega,hK⟩
end Go.Abs
end
section
namespace Go.Num
open Go.Abs
theorem rz_0:rz 0=0:=by unfold rz;rw [Qd];rfl
theorem rz_1:rz 1<=2:=by
 have:=zbh 1;have h1:zs 1<=2:=uV (by decide)
 have e:((1:Int):Rat)=1:=rfl;rw [e]at this;omega
theorem jc(p q:Rat):rz (p*q)<=rz p+rz q+2:=by
 rw [<-J6];have n1:=WN p;have n2:=WN q;have d1:=xO p;have d2:=xO q;have m1:=Vu p.num q.num;have m2:=Vu (p.den:Int) (q.den:Int);refine YK (by exact Int.mul_ne_zero (QA _) (QA _)) (by omega) (by omega)
theorem Z5{p q:Rat}(hq:q≠0):Rat.divInt (p.num*q.den) (p.den*q.num)=p / q:=by
 have hn:q.num≠0:=ZaU hq;have e1:(p.num:Rat) / (p.den:Rat)=p:=by have:=Rat.num_divInt_den p;rw [Rat.divInt_eq_div]at this;exact this
 have e2:(q.num:Rat) / (q.den:Rat)=q:=by have:=Rat.num_divInt_den q;rw [Rat.divInt_eq_div]at this;exact this
 have d1:(p.den:Rat)≠0:=by exact_mod_cast p.den_nz
 have d2:(q.den:Rat)≠0:=by exact_mod_cast q.den_nz
 have d3:(q.num:Rat)≠0:=by exact_mod_cast hn
 rw [Rat.divInt_eq_div];simp only [Rat.intCast_mul,Rat.intCast_natCast];have f1:(p.num:Rat)=p*(p.den:Rat):=by grind
 have f2:(q.num:Rat)=q*(q.den:Rat):=by grind
 rw [f1,f2];grind
theorem zbl(p q:Rat):rz (p / q)<=rz p+rz q+2:=by
 by_cases hq:q=0
 .subst hq;rw [Rat.div_def,Rat.inv_zero,Rat.mul_zero,rz_0];omega
 .rw [<-Z5 hq];have n1:=WN p;have n2:=WN q;have d1:=xO p;have d2:=xO q;have m1:=Vu p.num (q.den:Int);have m2:=Vu (p.den:Int) q.num;refine YK (by exact Int.mul_ne_zero (QA _) (ZaU hq)) (by omega) (by omega)
theorem YbJ(p q:Rat):Rat.divInt (p.num*q.den) (p.den*q.num)=p / q:=by
 by_cases hq:q=0
 .subst hq;rw [show(0:Rat).num=0 from rfl,Int.mul_zero,Rat.divInt_zero,Rat.div_def,Rat.inv_zero,Rat.mul_zero]
 .exact Z5 hq
end Go.Num
namespace Go.Abs
open Go.Num
variable {P:Program} {Γ:Nat->Spec}
def rQ(q:Rat):AV:=.agg [cb (rcan q),cn (rcan q),cd (rcan q)]
theorem jbe(q:Rat):rQ q=.agg [cb (rcan q),cn (rcan q),cd (rcan q)]:=eq_of_heq (HEq.refl _)
attribute [go_sem,go_sem ↓] jbe
def kj(l:List AV)(K:AV->Prop):Prop:=
 match l with
 | [a,b]=>onR (λx=>onR (λy=>rl x<=4294967296/\rl y<=4294967296/\K (rQ (rv x*rv y))) b) a
 | _=>False
theorem jaZ(a b:AV)(K:AV->Prop):kj [a,b] K=(onR (λx=>onR (λy=>rl x<=4294967296/\rl y<=4294967296/\K (rQ (rv x*rv y))) b) a):=propext Iff.rfl
@[congr] theorem xb0 {K:AV->Prop} {l l' : List AV} (h:l=l'):kj l K=kj l' K:=by subst h;rfl
attribute [go_sem,go_sem ↓] jaZ
theorem XaR:Good kj:=Wa λas=>by
 unfold kj;split
 .exact(yg λ_=>(yg λ_=>(.and λ_=>(.and λ_=>(.ret _)))))
 .exact .of λK hk=>hk.elim
def yr(tE:Nat)(l:List AV)(K:AV->Prop):Prop:=
 match l with
 | [a,b]=>onW (λv=>onW (λw=>zs (zv v)<=17179869184/\zs (zv w)<=17179869184/\K (.tup [rQ (Rat.divInt (zv v) (zv w)),errV tE (if zv w=0 then 8 else 0)])) b) a
 | _=>False
theorem Jag(tE:Nat)(a b:AV)(K:AV->Prop):yr tE [a,b] K=(onW (λv=>onW (λw=>zs (zv v)<=17179869184/\zs (zv w)<=17179869184/\K (.tup [rQ (Rat.divInt (zv v) (zv w)),errV tE (if zv w=0 then 8 else 0)])) b) a):=propext Iff.rfl
@[congr] theorem ybB (tE:Nat) {K:AV->Prop} {l l' : List AV} (h:l=l'):yr tE l K=yr tE l' K:=by subst h;rfl
attribute [go_sem,go_sem ↓] Jag
theorem xam(tE:Nat):Good (yr tE):=Wa λas=>by
 unfold yr;split
 .exact(Um λ_=>(Um λ_=>(.and λ_=>(.and λ_=>(.ret _)))))
 .exact .of λK hk=>hk.elim
def Uz(tE:Nat)(l:List AV)(K:AV->Prop):Prop:=
 match l with
 | [a,b]=>onR (λx=>onR (λy=>rl x<=4294967296/\rl y<=4294967296/\K (.tup [rQ (rv x / rv y),errV tE (if rv y=0 then 8 else 0)])) b) a
 | _=>False
theorem kaw(tE:Nat)(a b:AV)(K:AV->Prop):Uz tE [a,b] K=(onR (λx=>onR (λy=>rl x<=4294967296/\rl y<=4294967296/\K (.tup [rQ (rv x / rv y),errV tE (if rv y=0 then 8 else 0)])) b) a):=propext Iff.rfl
@[congr] theorem kbO (tE:Nat) {K:AV->Prop} {l l' : List AV} (h:l=l'):Uz tE l K=Uz tE l' K:=by subst h;rfl
attribute [go_sem,go_sem ↓] kaw
theorem QaJ(tE:Nat):Good (Uz tE):=Wa λas=>by
 unfold Uz;split
 .exact(yg λ_=>(yg λ_=>(.and λ_=>(.and λ_=>(.ret _)))))
 .exact .of λK hk=>hk.elim
def Ws(l:List AV)(K:AV->Prop):Prop:=
 match l with
 | [a,b]=>onW (λv=>onW (λw=>zs (zv v)<=17179869184/\zs (zv w)<=17179869184/\K (.tup [rQ (Rat.divInt (zv v) (zv w)),.one (.lit (.int .i64 (if zv w=0 then 8 else 0)))])) b) a
 | _=>False
theorem Xac(a b:AV)(K:AV->Prop):Ws [a,b] K=(onW (λv=>onW (λw=>zs (zv v)<=17179869184/\zs (zv w)<=17179869184/\K (.tup [rQ (Rat.divInt (zv v) (zv w)),.one (.lit (.int .i64 (if zv w=0 then 8 else 0)))])) b) a):=propext Iff.rfl
@[congr] theorem ubK {K:AV->Prop} {l l' : List AV} (h:l=l'):Ws l K=Ws l' K:=by subst h;rfl
attribute [go_sem,go_sem ↓] Xac
theorem Zai:Good Ws:=Wa λas=>by
 unfold Ws;split
 .exact(Um λ_=>(Um λ_=>(.and λ_=>(.and λ_=>(.ret _)))))
 .exact .of λK hk=>hk.elim
def Uam(l:List AV)(K:AV->Prop):Prop:=
 match l with
 | [a,b]=>onR (λx=>onR (λy=>rl x<=1073741824/\rl y<=1073741824/\K (.tup [rQ (rv x / rv y),.one (.lit (.int .i64 (if rv y=0 then 8 else 0)))])) b) a
 | _=>False
theorem yaC(a b:AV)(K:AV->Prop):Uam [a,b] K=(onR (λx=>onR (λy=>rl x<=1073741824/\rl y<=1073741824/\K (.tup [rQ (rv x / rv y),.one (.lit (.int .i64 (if rv y=0 then 8 else 0)))])) b) a):=propext Iff.rfl
@[congr] theorem xbQ {K:AV->Prop} {l l' : List AV} (h:l=l'):Uam l K=Uam l' K:=by subst h;rfl
attribute [go_sem,go_sem ↓] yaC
def yn(f0 f1 f2:Nat):AC:=(.seq (.ops false [.u 2 (.box 3 (.t 0)),.u 3 (.box 3 (.t 1)),.u 4 (.alloc [(.lit (.bool false)),.emp,.emp])])
 (.fg [2,3,4] (.seq (.ops false [.u 10 (.ld none 3 true (.t 2)),.u 11 (.call f0 [(.t 10)]),.m 9 (.t 11),.u 12 (.ext 0 (.t 9)),.u 13 (.ext 1 (.t 9)),.u 5 (.alloc [(.lit (.bool false)),.emp]),.u 6 (.alloc [(.lit (.bool false)),.emp]),.n (.st none 2 (.t 5) (.t 12)),.n (.st none 2 (.t 6) (.t 13))])
 (.fg [3,4,5,6] (.seq (.ops false [.u 15 (.ld none 3 true (.t 3)),.u 16 (.call f0 [(.t 15)]),.m 14 (.t 16),.u 17 (.ext 0 (.t 14)),.u 18 (.ext 1 (.t 14)),.u 7 (.alloc [(.lit (.bool false)),.emp]),.u 8 (.alloc [(.lit (.bool false)),.emp]),.n (.st none 2 (.t 7) (.t 17)),.n (.st none 2 (.t 8) (.t 18))])
 (.fg [4,5,6,7,8] (.seq (.ops true [.u 19 (.ld none 2 true (.t 5)),.u 20 (.ld none 2 true (.t 7)),.u 21 (.call f1 [(.t 19),(.t 20)]),.u 22 (.ld none 2 true (.t 6)),.u 23 (.ld none 2 true (.t 8)),.u 24 (.call f1 [(.t 22),(.t 23)]),.u 25 (.call f2 [(.t 21),(.t 24)]),.n (.st none 3 (.t 4) (.t 25))])
 .ret)))))))
def Zu(f0 f1 f2:Nat):AC:=(.seq (.ops false [.u 2 (.box 3 (.t 0)),.u 3 (.box 3 (.t 1)),.u 4 (.alloc [(.lit (.bool false)),.emp,.emp]),.m 5 (.c (.one (.lit .nilIface)))])
 (.fg [2,3,4] (.seq (.ops false [.u 11 (.ld none 3 true (.t 2)),.u 12 (.call f0 [(.t 11)]),.m 10 (.t 12),.u 13 (.ext 0 (.t 10)),.u 14 (.ext 1 (.t 10)),.u 6 (.alloc [(.lit (.bool false)),.emp]),.u 7 (.alloc [(.lit (.bool false)),.emp]),.n (.st none 2 (.t 6) (.t 13)),.n (.st none 2 (.t 7) (.t 14))])
 (.fg [3,4,6,7] (.seq (.ops false [.u 16 (.ld none 3 true (.t 3)),.u 17 (.call f0 [(.t 16)]),.m 15 (.t 17),.u 18 (.ext 0 (.t 15)),.u 19 (.ext 1 (.t 15)),.u 8 (.alloc [(.lit (.bool false)),.emp]),.u 9 (.alloc [(.lit (.bool false)),.emp]),.n (.st none 2 (.t 8) (.t 18)),.n (.st none 2 (.t 9) (.t 19))])
 (.fg [4,6,7,8,9] (.seq (.ops true [.u 20 (.ld none 2 true (.t 6)),.u 21 (.ld none 2 true (.t 9)),.u 22 (.call f1 [(.t 20),(.t 21)]),.u 23 (.ld none 2 true (.t 7)),.u 24 (.ld none 2 true (.t 8)),.u 25 (.call f1 [(.t 23),(.t 24)]),.u 26 (.call f2 [(.t 22),(.t 25)]),.u 27 (.ext 0 (.t 26)),.u 28 (.ext 1 (.t 26)),.n (.st none 3 (.t 4) (.t 27)),.m 5 (.t 28)])
 .ret)))))))
theorem qQ(hΓ:Holds P Γ){f fp fm ff:Nat}(hp:Γ fp=.dat false Qe)(hm:Γ fm=.dat false Uv)(hf:Γ ff=.dat false qj)(hc:check P f=some (26,(yn fp fm ff).strip,[.cell 4 3 true])):Sound P f (.dat false kj):=by
 refine ka hc XaR hΓ (λargs K hcl hfi hG=>?_);match args,hG with
 | [a,b],hG=>
  obtain⟨x,rfl,hx,y,rfl,hy,hl,hl',hK⟩:=hG;refine⟨by simp,?_⟩
  simp only [go_sem,yn,hp,hm,hf,hx,hy];have n1:=uE hx;have d1:=qE hx;have n2:=uE hy;have d2:=qE hy;have m1:=Vu (rv x).num (rv y).num;have m3:=Vu ((rv x).den:Int) (rv y).den;rw [Int.natCast_mul,J6];exact⟨hl,hl',by omega,by omega,by omega,by omega,by omega,by omega,Int.mul_ne_zero (QA _) (QA _),hK⟩
theorem Uae(hΓ:Holds P Γ){f fs ff tE:Nat}(hs:Γ fs=.dat true Qg)(hf:Γ ff=.dat false qj)(hc:check P f=some (14,(yq fs ff tE).strip,[.cell 4 3 true,.tmp 5])):Sound P f (.dat false (yr tE)):=by
 refine ka hc (xam tE) hΓ (λargs K hcl hfi hG=>?_);match args,hG with
 | [a,b],hG=>
  obtain⟨v,rfl,hv,w,rfl,hw,hz,hz',hK⟩:=hG;refine⟨by simp,?_⟩
  simp only [go_sem,yq,hs,hf,hv,hw];refine⟨λe=>?_,λe=>?_⟩
  .have h0:=Int.sign_eq_zero_iff_zero.1 e;rw [if_pos h0,h0,Rat.divInt_zero,qe tE (by decide),jbe,Qd]at hK
   exact hK
  .have h0:zv w≠0:=λh=>e (by rw [h];rfl)
   rw [if_neg h0,Jd]at hK;exact⟨hz,hz',h0,hK⟩
theorem yak(hΓ:Holds P Γ){f fp fm ff tE:Nat}(hp:Γ fp=.dat false Qe)(hm:Γ fm=.dat false Uv)(hf:Γ ff=.dat false (yr tE))(hc:check P f=some (29,(Zu fp fm ff).strip,[.cell 4 3 true,.tmp 5])):Sound P f (.dat false (Uz tE)):=by
 refine ka hc (QaJ tE) hΓ (λargs K hcl hfi hG=>?_);match args,hG with
 | [a,b],hG=>
  obtain⟨x,rfl,hx,y,rfl,hy,hl,hl',hK⟩:=hG;refine⟨by simp,?_⟩
  simp only [go_sem,Zu,hp,hm,hf,hx,hy];have n1:=uE hx;have d1:=qE hx;have n2:=uE hy;have d2:=qE hy;have m1:=Vu (rv x).num ((rv y).den:Int);have m3:=Vu ((rv x).den:Int) (rv y).num;have e:((((rv x).den:Int)*(rv y).num=0))=(rv y=0):=propext ⟨λh=>by
   rcases Int.mul_eq_zero.1 h with h|h
   .exact absurd h (QA _)
   .exact Rat.num_eq_zero.1 h,λh=>by rw [h];exact Int.mul_zero _⟩
  simp only [e];rw [YbJ];exact⟨hl,hl',by omega,by omega,by omega,by omega,by omega,by omega,hK⟩
theorem V8(hΓ:Holds P Γ){f fs ff:Nat}(hs:Γ fs=.dat true Qg)(hf:Γ ff=.dat false qj)(hc:check P f=some (13,(yj fs ff).strip,[.cell 4 3 true,.tmp 5])):Sound P f (.dat false Ws):=by
 refine ka hc Zai hΓ (λargs K hcl hfi hG=>?_);match args,hG with
 | [a,b],hG=>
  obtain⟨v,rfl,hv,w,rfl,hw,hz,hz',hK⟩:=hG;refine⟨by simp,?_⟩
  simp only [go_sem,yj,hs,hf,hv,hw];refine⟨λe=>?_,λe=>?_⟩
  .have h0:=Int.sign_eq_zero_iff_zero.1 e;rw [if_pos h0,h0,Rat.divInt_zero,jbe,Qd]at hK;exact hK
  .have h0:zv w≠0:=λh=>e (by rw [h];rfl)
   rw [if_neg h0]at hK;exact⟨hz,hz',h0,hK⟩
end Go.Abs
end
section
namespace Go.Num
open Go.Abs
abbrev V2:=Rat×Rat
abbrev TnQ:=Rat×Bool
abbrev PsQ:=TnQ×V2
def tv(t:Tn):TnQ:=(rv t.1,t.2)
def pv(p:Ps):PsQ:=(tv p.1,av p.2)
def subQ(a b:V2):V2:=(a.1-b.1,a.2-b.2)
def addQ(a b:V2):V2:=(a.1+b.1,a.2+b.2)
def negQ(a:V2):V2:=(-a.1,-a.2)
def crossQ(a b:V2):Rat:=a.1*b.2-a.2*b.1
def sqQ(a:V2):Rat:=a.1*a.1+a.2*a.2
def cosQ(t:TnQ):Rat:=if t.2=true then -1 else (1-t.1*t.1) / (1+t.1*t.1)
def sinQ(t:TnQ):Rat:=if t.2=true then 0 else (t.1+t.1) / (1+t.1*t.1)
def rotQ(t:TnQ)(q:V2):V2:=(cosQ t*q.1-sinQ t*q.2,sinQ t*q.1+cosQ t*q.2)
def appQ(p:PsQ)(q:V2):V2:=addQ (rotQ p.1 q) p.2
def backQ(t:TnQ):TnQ:=(-t.1,t.2)
def invQ(p:PsQ):PsQ:=(backQ p.1,rotQ (backQ p.1) (negQ p.2))
def tchk(t:Tn):Nat:=if vldR t.1=true/\¬(t.2=true/\rv t.1≠0) then 0 else 2
def avld(a:Arc):Bool:=vldR a.1 && vldR a.2
def pvld(p:Ps):Bool:=decide (tchk p.1=0) && avld p.2
def zq(a:V2):Nat:=max (rz a.1) (rz a.2)
theorem xQ(a b:V2):zq (subQ a b)<=zq a+zq b+2:=by
 have h1:=zw a.1 b.1;have h2:=zw a.2 b.2;unfold zq subQ;simp only;omega
theorem jbN(a b:V2):zq (addQ a b)<=zq a+zq b+2:=by
 have h1:=JB a.1 b.1;have h2:=JB a.2 b.2;unfold zq addQ;simp only;omega
theorem jI(a:V2):rz (sqQ a)<=4*zq a+6:=by
 have h1:=jc a.1 a.1;have h2:=jc a.2 a.2;have h3:=JB (a.1*a.1) (a.2*a.2);unfold zq sqQ;omega
theorem ybw:rz (-1)<=2:=by rw [show(-1:Rat) = -(1:Rat) from rfl,Vv];exact rz_1
theorem QO{a:Arc}(h:WLA a):zq (av a)<=al a:=by
 have h1:=Ze h.1;have h2:=Ze h.2;unfold zq av al;simp only;omega
end Go.Num
end
section
namespace Go.Abs
open Go.Num
variable {P:Program} {Γ:Nat->Spec}
def pQ(x:V2):AV:=.agg [cb (rcan x.1),cn (rcan x.1),cd (rcan x.1),cb (rcan x.2),cn (rcan x.2),cd (rcan x.2)]
theorem uaK(x:V2):pQ x=.agg [cb (rcan x.1),cn (rcan x.1),cd (rcan x.1),cb (rcan x.2),cn (rcan x.2),cd (rcan x.2)]:=eq_of_heq (HEq.refl _)
def tQ(t:TnQ):AV:=.agg [cb (rcan t.1),cn (rcan t.1),cd (rcan t.1),.lit (.bool t.2)]
theorem ZbJ(t:TnQ):tQ t=.agg [cb (rcan t.1),cn (rcan t.1),cd (rcan t.1),.lit (.bool t.2)]:=eq_of_heq (HEq.refl _)
theorem uP(a b:Rat):al (rcan a,rcan b)=max (rz a) (rz b):=rfl
theorem ybj(a b:Rat):WLA (rcan a,rcan b)=True:=eq_true ⟨Ye _,Ye _⟩
attribute [go_sem,go_sem ↓] uaK ZbJ ybj
def vm(l:List AV)(K:AV->Prop):Prop:=
 match l with
 | [a]=>onA (λp=>al p<=100000000/\K (.one (.lit (.bool (avld p))))) a
 | _=>False
theorem J5(a:AV)(K:AV->Prop):vm [a] K=(onA (λp=>al p<=100000000/\K (.one (.lit (.bool (avld p))))) a):=propext Iff.rfl
@[congr] theorem UbG {K:AV->Prop} {l l' : List AV} (h:l=l'):vm l K=vm l' K:=by subst h;rfl
attribute [go_sem,go_sem ↓] J5
theorem kan:Good vm:=Wa λas=>by
 unfold vm;split
 .exact(Jz λ_=>(.and λ_=>(.ret _)))
 .exact .of λK hk=>hk.elim
def ko(l:List AV)(K:AV->Prop):Prop:=
 match l with
 | [a,b]=>onA (λp=>onA (λq=>al p<=100000000/\al q<=100000000/\K (pQ (subQ (av p) (av q)))) b) a
 | _=>False
theorem QaD(a b:AV)(K:AV->Prop):ko [a,b] K=(onA (λp=>onA (λq=>al p<=100000000/\al q<=100000000/\K (pQ (subQ (av p) (av q)))) b) a):=propext Iff.rfl
@[congr] theorem vbQ {K:AV->Prop} {l l' : List AV} (h:l=l'):ko l K=ko l' K:=by subst h;rfl
attribute [go_sem,go_sem ↓] QaD
theorem qaH:Good ko:=Wa λas=>by
 unfold ko;split
 .exact(Jz λ_=>(Jz λ_=>(.and λ_=>(.and λ_=>(.ret _)))))
 .exact .of λK hk=>hk.elim
def zx(l:List AV)(K:AV->Prop):Prop:=
 match l with
 | [a,b]=>onA (λp=>onA (λq=>al p<=100000000/\al q<=100000000/\K (pQ (addQ (av p) (av q)))) b) a
 | _=>False
theorem kat(a b:AV)(K:AV->Prop):zx [a,b] K=(onA (λp=>onA (λq=>al p<=100000000/\al q<=100000000/\K (pQ (addQ (av p) (av q)))) b) a):=propext Iff.rfl
@[congr] theorem ubQ {K:AV->Prop} {l l' : List AV} (h:l=l'):zx l K=zx l' K:=by subst h;rfl
attribute [go_sem,go_sem ↓] kat
theorem jaH:Good zx:=Wa λas=>by
 unfold zx;split
 .exact(Jz λ_=>(Jz λ_=>(.and λ_=>(.and λ_=>(.ret _)))))
 .exact .of λK hk=>hk.elim
def uZ(l:List AV)(K:AV->Prop):Prop:=
 match l with
 | [a,b]=>onA (λp=>onA (λq=>al p<=100000000/\al q<=100000000/\K (rQ (crossQ (av p) (av q)))) b) a
 | _=>False
theorem Yab(a b:AV)(K:AV->Prop):uZ [a,b] K=(onA (λp=>onA (λq=>al p<=100000000/\al q<=100000000/\K (rQ (crossQ (av p) (av q)))) b) a):=propext Iff.rfl
@[congr] theorem jbG {K:AV->Prop} {l l' : List AV} (h:l=l'):uZ l K=uZ l' K:=by subst h;rfl
attribute [go_sem,go_sem ↓] Yab
def kH(l:List AV)(K:AV->Prop):Prop:=
 match l with
 | [a]=>onA (λp=>al p<=100000000/\K (rQ (sqQ (av p)))) a
 | _=>False
theorem Wbl(a:AV)(K:AV->Prop):kH [a] K=(onA (λp=>al p<=100000000/\K (rQ (sqQ (av p)))) a):=propext Iff.rfl
@[congr] theorem Vb3 {K:AV->Prop} {l l' : List AV} (h:l=l'):kH l K=kH l' K:=by subst h;rfl
attribute [go_sem,go_sem ↓] Wbl
theorem wba:Good kH:=Wa λas=>by
 unfold kH;split
 .exact(Jz λ_=>(.and λ_=>(.ret _)))
 .exact .of λK hk=>hk.elim
def qA(l:List AV)(K:AV->Prop):Prop:=
 match l with
 | [a,b]=>onA (λp=>onA (λq=>al p<=100000000/\al q<=100000000/\K (.one (.lit (.bool (decide (av p=av q)))))) b) a
 | _=>False
theorem Jat(a b:AV)(K:AV->Prop):qA [a,b] K=(onA (λp=>onA (λq=>al p<=100000000/\al q<=100000000/\K (.one (.lit (.bool (decide (av p=av q)))))) b) a):=propext Iff.rfl
@[congr] theorem jbQ {K:AV->Prop} {l l' : List AV} (h:l=l'):qA l K=qA l' K:=by subst h;rfl
attribute [go_sem,go_sem ↓] Jat
theorem UaJ:Good qA:=Wa λas=>by
 unfold qA;split
 .exact(Jz λ_=>(Jz λ_=>(.and λ_=>(.and λ_=>(.ret _)))))
 .exact .of λK hk=>hk.elim
def jaR(l:List AV)(K:AV->Prop):Prop:=
 match l with
 | [a]=>onA (λp=>al p<=100000000/\K (pQ (negQ (av p)))) a
 | _=>False
theorem waN(a:AV)(K:AV->Prop):jaR [a] K=(onA (λp=>al p<=100000000/\K (pQ (negQ (av p)))) a):=propext Iff.rfl
@[congr] theorem UbS {K:AV->Prop} {l l' : List AV} (h:l=l'):jaR l K=jaR l' K:=by subst h;rfl
attribute [go_sem,go_sem ↓] waN
def JZ(l:List AV)(K:AV->Prop):Prop:=
 match l with
 | [a]=>onA (λp=>al p<=100000000/\K (pQ (av p))) a
 | _=>False
theorem Z7(a:AV)(K:AV->Prop):JZ [a] K=(onA (λp=>al p<=100000000/\K (pQ (av p))) a):=propext Iff.rfl
@[congr] theorem QbB {K:AV->Prop} {l l' : List AV} (h:l=l'):JZ l K=JZ l' K:=by subst h;rfl
attribute [go_sem,go_sem ↓] Z7
def jx(l:List AV)(K:AV->Prop):Prop:=
 match l with
 | [a]=>onR (λx=>rl x<=4294967296/\K (.one (.lit (.bool (decide (rv x=0)))))) a
 | _=>False
theorem uaD(a:AV)(K:AV->Prop):jx [a] K=(onR (λx=>rl x<=4294967296/\K (.one (.lit (.bool (decide (rv x=0)))))) a):=propext Iff.rfl
@[congr] theorem ybR {K:AV->Prop} {l l' : List AV} (h:l=l'):jx l K=jx l' K:=by subst h;rfl
attribute [go_sem,go_sem ↓] uaD
theorem vaF:Good jx:=Wa λas=>by
 unfold jx;split
 .exact(yg λ_=>(.and λ_=>(.ret _)))
 .exact .of λK hk=>hk.elim
def Zan(l:List AV)(K:AV->Prop):Prop:=
 match l with
 | [a,b]=>onR (λx=>onR (λy=>rl x<=1073741824/\rl y<=1073741824/\K (rQ (rv x / rv y))) b) a
 | _=>False
theorem Zap(a b:AV)(K:AV->Prop):Zan [a,b] K=(onR (λx=>onR (λy=>rl x<=1073741824/\rl y<=1073741824/\K (rQ (rv x / rv y))) b) a):=propext Iff.rfl
@[congr] theorem JbR {K:AV->Prop} {l l' : List AV} (h:l=l'):Zan l K=Zan l' K:=by subst h;rfl
attribute [go_sem,go_sem ↓] Zap
def U2(tE:Nat)(l:List AV)(K:AV->Prop):Prop:=
 match l with
 | [a]=>onT (λt=>rl t.1<=100000000/\K (errV tE (tchk t))) a
 | _=>False
theorem Z9(tE:Nat)(a:AV)(K:AV->Prop):U2 tE [a] K=(onT (λt=>rl t.1<=100000000/\K (errV tE (tchk t))) a):=propext Iff.rfl
@[congr] theorem wbG (tE:Nat) {K:AV->Prop} {l l' : List AV} (h:l=l'):U2 tE l K=U2 tE l' K:=by subst h;rfl
attribute [go_sem,go_sem ↓] Z9
def J2(l:List AV)(K:AV->Prop):Prop:=
 match l with
 | [a]=>onT (λt=>rl t.1<=100000000/\K (.one (.lit (.bool (decide (tchk t=0)))))) a
 | _=>False
theorem Wad(a:AV)(K:AV->Prop):J2 [a] K=(onT (λt=>rl t.1<=100000000/\K (.one (.lit (.bool (decide (tchk t=0)))))) a):=propext Iff.rfl
@[congr] theorem VbC {K:AV->Prop} {l l' : List AV} (h:l=l'):J2 l K=J2 l' K:=by subst h;rfl
attribute [go_sem,go_sem ↓] Wad
def qa5(l:List AV)(K:AV->Prop):Prop:=
 match l with
 | [a]=>onPo (λp=>pl p<=100000000/\K (.one (.lit (.bool (pvld p))))) a
 | _=>False
theorem Wa7(a:AV)(K:AV->Prop):qa5 [a] K=(onPo (λp=>pl p<=100000000/\K (.one (.lit (.bool (pvld p))))) a):=propext Iff.rfl
@[congr] theorem YbY {K:AV->Prop} {l l' : List AV} (h:l=l'):qa5 l K=qa5 l' K:=by subst h;rfl
attribute [go_sem,go_sem ↓] Wa7
def jaQ(l:List AV)(K:AV->Prop):Prop:=
 match l with
 | [a]=>onT (λt=>rl t.1<=100000000/\K (tQ (backQ (tv t)))) a
 | _=>False
theorem kaZ(a:AV)(K:AV->Prop):jaQ [a] K=(onT (λt=>rl t.1<=100000000/\K (tQ (backQ (tv t)))) a):=propext Iff.rfl
@[congr] theorem ybW {K:AV->Prop} {l l' : List AV} (h:l=l'):jaQ l K=jaQ l' K:=by subst h;rfl
attribute [go_sem,go_sem ↓] kaZ
def ya5(l:List AV)(K:AV->Prop):Prop:=
 match l with
 | [a]=>onT (λt=>rl t.1<=10000000/\K (.tup [rQ (cosQ (tv t)),rQ (sinQ (tv t))])) a
 | _=>False
theorem qaV(a:AV)(K:AV->Prop):ya5 [a] K=(onT (λt=>rl t.1<=10000000/\K (.tup [rQ (cosQ (tv t)),rQ (sinQ (tv t))])) a):=propext Iff.rfl
@[congr] theorem QbZ {K:AV->Prop} {l l' : List AV} (h:l=l'):ya5 l K=ya5 l' K:=by subst h;rfl
attribute [go_sem,go_sem ↓] qaV
def Jak(l:List AV)(K:AV->Prop):Prop:=
 match l with
 | [a,b]=>onA (λp=>onA (λq=>al p<=4294967296/\K (.one (.lit (.bool (decide (p=q)))))) b) a
 | _=>False
theorem xaz(a b:AV)(K:AV->Prop):Jak [a,b] K=(onA (λp=>onA (λq=>al p<=4294967296/\K (.one (.lit (.bool (decide (p=q)))))) b) a):=propext Iff.rfl
@[congr] theorem ZbR {K:AV->Prop} {l l' : List AV} (h:l=l'):Jak l K=Jak l' K:=by subst h;rfl
attribute [go_sem,go_sem ↓] xaz
def vi(f0 f1:Nat):AC:=(.seq (.ops false [.u 1 (.box 6 (.t 0)),.u 2 (.alloc [(.lit (.bool false)),.emp,.emp])])
 (.fg [1,2] (.seq (.ops true [.u 3 (.fa 0 (.t 1)),.u 4 (.ld none 3 true (.t 3)),.u 5 (.fa 0 (.t 1)),.u 6 (.ld none 3 true (.t 5)),.u 7 (.call f0 [(.t 4),(.t 6)]),.u 8 (.fa 3 (.t 1)),.u 9 (.ld none 3 true (.t 8)),.u 10 (.fa 3 (.t 1)),.u 11 (.ld none 3 true (.t 10)),.u 12 (.call f0 [(.t 9),(.t 11)]),.u 13 (.call f1 [(.t 7),(.t 12)]),.n (.st none 3 (.t 2) (.t 13))])
 .ret)))
def Ul(f0:Nat):AC:=(.seq (.ops false [.u 2 (.box 6 (.t 0)),.u 3 (.box 6 (.t 1)),.m 4 .fa])
 (.fg [2,3] (.seq (.ops false [.u 5 (.fa 0 (.t 2)),.u 6 (.ld none 3 true (.t 5)),.u 7 (.fa 0 (.t 3)),.u 8 (.ld none 3 true (.t 7)),.u 9 (.call f0 [(.t 6),(.t 8)]),.u 10 (.bin .eql (.t 9) (.i 0)),.m 11 (.t 10),.w 12 11 true (.fa 3 (.t 2)),.w 13 11 true (.ld none 3 true (.t 12)),.w 14 11 true (.fa 3 (.t 3)),.w 15 11 true (.ld none 3 true (.t 14)),.w 16 11 true (.call f0 [(.t 13),(.t 15)]),.w 17 11 true (.bin .eql (.t 16) (.i 0)),.u 18 (.pick (.t 11) (.t 17) .fa),.m 4 (.t 18)])
 .ret)))
def Vj(f0:Nat):AC:=(.seq (.ops false [.u 1 (.box 3 (.t 0)),.m 2 .fa])
 (.fg [1] (.seq (.ops false [.u 3 (.ld none 3 true (.t 1)),.u 4 (.call f0 [(.t 3)]),.u 5 (.bin .eql (.t 4) (.i 0)),.m 2 (.t 5)])
 .ret)))
theorem vd{α β:Type}(p:α×β):(p.1,p.2)=p:=rfl
theorem al1{p:Arc}{b:Nat}(h:al p<=b):rl p.1<=b/\rl p.2<=b:=⟨Nat.le_trans (Nat.le_max_left _ _) h,Nat.le_trans (Nat.le_max_right _ _) h⟩
theorem Uaf(hΓ:Holds P Γ){f fm fs:Nat}(hm:Γ fm=.dat false kj)(hs:Γ fs=.dat false Zn)(hc:check P f=some (14,(vi fm fs).strip,[.cell 2 3 true])):Sound P f (.dat false kH):=by
 refine ka hc wba hΓ (λargs K hcl hfi hG=>?_);match args,hG with
 | [a],hG=>
  obtain⟨p,rfl,hp,hl,hK⟩:=hG;refine⟨by simp,?_⟩
  obtain⟨l1,l2⟩:=al1 hl;have r1:=Ze hp.1;have r2:=Ze hp.2;have m1:=jc (rv p.1) (rv p.1);have m2:=jc (rv p.2) (rv p.2);simp only [go_sem,vi,hm,hs,Zw,hp.1,hp.2];exact⟨by omega,by omega,by omega,by omega,by omega,by omega,hK⟩
theorem Jao(hΓ:Holds P Γ){f fc:Nat}(hc' : Γ fc=.dat true jg)(hc:check P f=some (19,(Ul fc).strip,[.tmp 4])):Sound P f (.dat true qA):=by
 refine ka hc UaJ hΓ (λargs K hcl hfi hG=>?_);match args,hG with
 | [a,b],hG=>
  obtain⟨p,rfl,hp,q,rfl,hq,hl,hl',hK⟩:=hG;refine⟨by simp,?_⟩
  obtain⟨l1,l2⟩:=al1 hl;obtain⟨l3,l4⟩:=al1 hl';have e:decide (av p=av q)=(decide (ordQ (rv p.1) (rv q.1)=0) && decide (ordQ (rv p.2) (rv q.2)=0)):=by
   rw [<-Bool.decide_and,decide_eq_decide,Zf,Zf];exact Prod.mk.injEq _ _ _ _▸Iff.rfl
  rw [e]at hK;by_cases h1:ordQ (rv p.1) (rv q.1)=0
  .rw [decide_eq_true h1,Bool.true_and]at hK;simp only [go_sem,Ul,hc',Zw,hp.1,hp.2,hq.1,hq.2,h1];exact⟨by omega,by omega,by omega,by omega,hK⟩
  .rw [decide_eq_false h1,Bool.false_and]at hK;simp only [go_sem,Ul,hc',Zw,hp.1,hp.2,hq.1,hq.2,h1];exact⟨by omega,by omega,hK⟩
theorem qak(hΓ:Holds P Γ){f fs:Nat}(hs:Γ fs=.dat true xk)(hc:check P f=some (6,(Vj fs).strip,[.tmp 2])):Sound P f (.dat true jx):=by
 refine ka hc vaF hΓ (λargs K hcl hfi hG=>?_);match args,hG with
 | [a],hG=>
  obtain⟨x,rfl,hx,hl,hK⟩:=hG;refine⟨by simp,?_⟩
  have e:decide (rv x=0)=decide (ordQ (rv x) 0=0):=by rw [decide_eq_decide,Zf]
  rw [e]at hK;simp only [go_sem,Vj,hs,hx];exact⟨hl,hK⟩
end Go.Abs
end
section
namespace Go.Num
open Go.Abs
def aok(p:Ps)(q:Arc):Bool:=pvld p && avld q
def plchk(l:List Ps):Nat:=if l.length<2 then 10 else if 5<l.length then 4 else if l.all pvld then 0 else 2
def threeC(l:List Ps):Nat:=if plchk l≠0 then plchk l else if l.length=3 then 0 else 10
def imgs(l:List Ps)(q:Arc):List V2:=l.map λp=>appQ (pv p) (av q)
def imgC(l:List Ps)(q:Arc):Nat:=if l.all (λp=>aok p q) then 0 else 2
end Go.Num
namespace Go.Abs
open Go.Num
variable {P:Program} {Γ:Nat->Spec}
def psQ(p:PsQ):AV:=.agg [cb (rcan p.1.1),cn (rcan p.1.1),cd (rcan p.1.1),.lit (.bool p.1.2),cb (rcan p.2.1),cn (rcan p.2.1),cd (rcan p.2.1),cb (rcan p.2.2),cn (rcan p.2.2),cd (rcan p.2.2)]
theorem Zbg(p:PsQ):psQ p=.agg [cb (rcan p.1.1),cn (rcan p.1.1),cd (rcan p.1.1),.lit (.bool p.1.2),cb (rcan p.2.1),cn (rcan p.2.1),cd (rcan p.2.1),cb (rcan p.2.2),cn (rcan p.2.2),cd (rcan p.2.2)]:=eq_of_heq (HEq.refl _)
attribute [go_sem,go_sem ↓] Zbg
def XaP(tE:Nat)(l:List AV)(K:AV->Prop):Prop:=
 match l with
 | [a]=>onT (λt=>rl t.1<=10000000/\K (.tup [rQ (if tchk t=0 then cosQ (tv t) else 0),errV tE (tchk t)])) a
 | _=>False
theorem uaR(tE:Nat)(a:AV)(K:AV->Prop):XaP tE [a] K=(onT (λt=>rl t.1<=10000000/\K (.tup [rQ (if tchk t=0 then cosQ (tv t) else 0),errV tE (tchk t)])) a):=propext Iff.rfl
@[congr] theorem UbZ (tE:Nat) {K:AV->Prop} {l l' : List AV} (h:l=l'):XaP tE l K=XaP tE l' K:=by subst h;rfl
attribute [go_sem,go_sem ↓] uaR
def ja0(tE:Nat)(l:List AV)(K:AV->Prop):Prop:=
 match l with
 | [a]=>onT (λt=>rl t.1<=10000000/\K (.tup [rQ (if tchk t=0 then sinQ (tv t) else 0),errV tE (tchk t)])) a
 | _=>False
theorem va0(tE:Nat)(a:AV)(K:AV->Prop):ja0 tE [a] K=(onT (λt=>rl t.1<=10000000/\K (.tup [rQ (if tchk t=0 then sinQ (tv t) else 0),errV tE (tchk t)])) a):=propext Iff.rfl
@[congr] theorem jbZ (tE:Nat) {K:AV->Prop} {l l' : List AV} (h:l=l'):ja0 tE l K=ja0 tE l' K:=by subst h;rfl
attribute [go_sem,go_sem ↓] va0
def WaV(tE:Nat)(l:List AV)(K:AV->Prop):Prop:=
 match l with
 | [a]=>onT (λt=>rl t.1<=10000000/\K (.tup [rQ (if tchk t=0 then cosQ (tv t) else 0),rQ (if tchk t=0 then sinQ (tv t) else 0),errV tE (tchk t)])) a
 | _=>False
theorem kaW(tE:Nat)(a:AV)(K:AV->Prop):WaV tE [a] K=(onT (λt=>rl t.1<=10000000/\K (.tup [rQ (if tchk t=0 then cosQ (tv t) else 0),rQ (if tchk t=0 then sinQ (tv t) else 0),errV tE (tchk t)])) a):=propext Iff.rfl
@[congr] theorem wbX (tE:Nat) {K:AV->Prop} {l l' : List AV} (h:l=l'):WaV tE l K=WaV tE l' K:=by subst h;rfl
attribute [go_sem,go_sem ↓] kaW
def kaL(tE:Nat)(l:List AV)(K:AV->Prop):Prop:=
 match l with
 | [a,b]=>onT (λt=>onA (λq=>rl t.1<=10000000/\al q<=10000000/\K (.tup [pQ (if tchk t=0 then rotQ (tv t) (av q) else (0,0)),errV tE (tchk t)])) b) a
 | _=>False
theorem waL(tE:Nat)(a b:AV)(K:AV->Prop):kaL tE [a,b] K=(onT (λt=>onA (λq=>rl t.1<=10000000/\al q<=10000000/\K (.tup [pQ (if tchk t=0 then rotQ (tv t) (av q) else (0,0)),errV tE (tchk t)])) b) a):=propext Iff.rfl
@[congr] theorem xbZ (tE:Nat) {K:AV->Prop} {l l' : List AV} (h:l=l'):kaL tE l K=kaL tE l' K:=by subst h;rfl
attribute [go_sem,go_sem ↓] waL
def waK(l:List AV)(K:AV->Prop):Prop:=
 match l with
 | [a,b]=>onT (λt=>onA (λq=>rl t.1<=10000000/\al q<=10000000/\K (pQ (rotQ (tv t) (av q)))) b) a
 | _=>False
theorem XaV(a b:AV)(K:AV->Prop):waK [a,b] K=(onT (λt=>onA (λq=>rl t.1<=10000000/\al q<=10000000/\K (pQ (rotQ (tv t) (av q)))) b) a):=propext Iff.rfl
@[congr] theorem ubX {K:AV->Prop} {l l' : List AV} (h:l=l'):waK l K=waK l' K:=by subst h;rfl
attribute [go_sem,go_sem ↓] XaV
def Ua1(tE:Nat)(l:List AV)(K:AV->Prop):Prop:=
 match l with
 | [a,b]=>onPo (λp=>onA (λq=>pl p<=1000000/\al q<=1000000/\K (.tup [pQ (if aok p q=true then appQ (pv p) (av q) else (0,0)),errV tE (if aok p q=true then 0 else 2)])) b) a
 | _=>False
theorem XaL(tE:Nat)(a b:AV)(K:AV->Prop):Ua1 tE [a,b] K=(onPo (λp=>onA (λq=>pl p<=1000000/\al q<=1000000/\K (.tup [pQ (if aok p q=true then appQ (pv p) (av q) else (0,0)),errV tE (if aok p q=true then 0 else 2)])) b) a):=propext Iff.rfl
@[congr] theorem YbT (tE:Nat) {K:AV->Prop} {l l' : List AV} (h:l=l'):Ua1 tE l K=Ua1 tE l' K:=by subst h;rfl
attribute [go_sem,go_sem ↓] XaL
def Ya1(l:List AV)(K:AV->Prop):Prop:=
 match l with
 | [a,b]=>onPo (λp=>onA (λq=>pl p<=1000000/\al q<=1000000/\K (pQ (appQ (pv p) (av q)))) b) a
 | _=>False
theorem QaS(a b:AV)(K:AV->Prop):Ya1 [a,b] K=(onPo (λp=>onA (λq=>pl p<=1000000/\al q<=1000000/\K (pQ (appQ (pv p) (av q)))) b) a):=propext Iff.rfl
@[congr] theorem YbU {K:AV->Prop} {l l' : List AV} (h:l=l'):Ya1 l K=Ya1 l' K:=by subst h;rfl
attribute [go_sem,go_sem ↓] QaS
def qal(tE:Nat)(l:List AV)(K:AV->Prop):Prop:=
 match l with
 | [a]=>onT (λt=>rl t.1<=10000000/\K (.tup [tQ (if tchk t=0 then backQ (tv t) else (0,false)),errV tE (tchk t)])) a
 | _=>False
theorem uaq(tE:Nat)(a:AV)(K:AV->Prop):qal tE [a] K=(onT (λt=>rl t.1<=10000000/\K (.tup [tQ (if tchk t=0 then backQ (tv t) else (0,false)),errV tE (tchk t)])) a):=propext Iff.rfl
@[congr] theorem ubP (tE:Nat) {K:AV->Prop} {l l' : List AV} (h:l=l'):qal tE l K=qal tE l' K:=by subst h;rfl
attribute [go_sem,go_sem ↓] uaq
def JaO(tE:Nat)(l:List AV)(K:AV->Prop):Prop:=
 match l with
 | [a]=>onPo (λp=>pl p<=1000000/\K (.tup [psQ (if pvld p=true then invQ (pv p) else ((0,false),(0,0))),errV tE (if pvld p=true then 0 else 2)])) a
 | _=>False
theorem yaZ(tE:Nat)(a:AV)(K:AV->Prop):JaO tE [a] K=(onPo (λp=>pl p<=1000000/\K (.tup [psQ (if pvld p=true then invQ (pv p) else ((0,false),(0,0))),errV tE (if pvld p=true then 0 else 2)])) a):=propext Iff.rfl
@[congr] theorem jbY (tE:Nat) {K:AV->Prop} {l l' : List AV} (h:l=l'):JaO tE l K=JaO tE l' K:=by subst h;rfl
attribute [go_sem,go_sem ↓] yaZ
def Va9(l:List AV)(K:AV->Prop):Prop:=
 match l with
 | [a]=>onPo (λp=>pl p<=1000000/\K (psQ (invQ (pv p)))) a
 | _=>False
theorem va7(a:AV)(K:AV->Prop):Va9 [a] K=(onPo (λp=>pl p<=1000000/\K (psQ (invQ (pv p)))) a):=propext Iff.rfl
@[congr] theorem jbX {K:AV->Prop} {l l' : List AV} (h:l=l'):Va9 l K=Va9 l' K:=by subst h;rfl
attribute [go_sem,go_sem ↓] va7
end Go.Abs
end
section
namespace Go.Num
def inA(y:Rat)(x:Arc):Bool:=decide (rv x.1<=y) && decide (y<rv x.2)
def idxOf(y:Rat)(l:List Arc):Int:=match l.findIdx? (inA y) with | some i=>i | none=>-1
end Go.Num
namespace Go.Abs
open Go.Num
variable {P:Program} {Γ:Nat->Spec}
def pA(y:R):AV:=.one (.ref [cb y,cn y,cd y])
def kA(f:Nat)(y:R):AV:=.one (.clo f [.ref [cb y,cn y,cd y]])
theorem WbC(x y:R)(h:pA x=pA y):x=y:=ju x y (by simpa [pA,rA] using h)
theorem qbI(f:Nat)(x y:R)(h:kA f x=kA f y):x=y:=ju x y (by simpa [kA,rA] using h)
def onP(k:R->Prop)(a:AV):Prop:=onE pA (λx=>WLR x/\k x) a
@[congr] theorem yb2 {k:R->Prop} {a a' : AV} (h:a=a'):onP k a=onP k a':=by subst h;rfl
theorem vbL(k:R->Prop)(x:R):onP k (.one (.ref [cb x,cn x,cd x]))=(WLR x/\k x):=jo WbC (λx=>WLR x/\k x) x
def onKl(f:Nat)(k:R->Prop)(a:AV):Prop:=onE (kA f) (λx=>WLR x/\k x) a
@[congr] theorem ybT {f:Nat} {k:R->Prop} {a a' : AV} (h:a=a'):onKl f k a=onKl f k a':=by subst h;rfl
theorem Wbm(f:Nat)(k:R->Prop)(x:R):onKl f k (.one (.clo f [.ref [cb x,cn x,cd x]]))=(WLR x/\k x):=jo (qbI f) (λx=>WLR x/\k x) x
attribute [go_sem,go_sem ↓] vbL Wbm
theorem xaE(y:R):CleanL [cb y,cn y,cd y]:=by
 intro c hc;simp only [List.mem_cons,List.not_mem_nil,or_false]at hc;rcases hc with rfl|rfl|rfl
 .exact of_eq_true (yi _)
 .exact of_eq_true (wi _)
 .exact of_eq_true (Ji _)
def Xai(l:List AV)(K:AV->Prop):Prop:=
 match l with
 | [a,b]=>onA (λx=>onP (λy=>al x<=4294967296/\rl y<=4294967296/\K (.one (.lit (.bool (inA (rv y) x))))) b) a
 | _=>False
theorem jau(a b:AV)(K:AV->Prop):Xai [a,b] K=(onA (λx=>onP (λy=>al x<=4294967296/\rl y<=4294967296/\K (.one (.lit (.bool (inA (rv y) x))))) b) a):=propext Iff.rfl
@[congr] theorem vbO {K:AV->Prop} {l l' : List AV} (h:l=l'):Xai l K=Xai l' K:=by subst h;rfl
attribute [go_sem,go_sem ↓] jau
def JaX(fc:Nat)(l:List AV)(K:AV->Prop):Prop:=
 match l with
 | [a,c]=>onAs (λl=>onKl fc (λy=>okAs 4294967296 l/\rl y<=4294967296/\K (.one (.lit (.int .i64 (idxOf (rv y) l))))) c) a
 | _=>False
theorem vaQ(fc:Nat)(a c:AV)(K:AV->Prop):JaX fc [a,c] K=(onAs (λl=>onKl fc (λy=>okAs 4294967296 l/\rl y<=4294967296/\K (.one (.lit (.int .i64 (idxOf (rv y) l))))) c) a):=propext Iff.rfl
@[congr] theorem ubU (fc:Nat) {K:AV->Prop} {l l' : List AV} (h:l=l'):JaX fc l K=JaX fc l' K:=by subst h;rfl
attribute [go_sem,go_sem ↓] vaQ
def jao(fc:Nat)(l:List AV)(K:AV->Prop):Prop:=
 match l with
 | [a,c]=>onAs (λl=>onKl fc (λy=>okAs 4294967296 l/\rl y<=4294967296/\K (.one (.lit (.bool (l.any (inA (rv y))))))) c) a
 | _=>False
theorem uaC(fc:Nat)(a c:AV)(K:AV->Prop):jao fc [a,c] K=(onAs (λl=>onKl fc (λy=>okAs 4294967296 l/\rl y<=4294967296/\K (.one (.lit (.bool (l.any (inA (rv y))))))) c) a):=propext Iff.rfl
@[congr] theorem VbP (fc:Nat) {K:AV->Prop} {l l' : List AV} (h:l=l'):jao fc l K=jao fc l' K:=by subst h;rfl
attribute [go_sem,go_sem ↓] uaC
def vaN(tE:Nat)(l:List AV)(K:AV->Prop):Prop:=
 match l with
 | [a,b]=>onAs (λl=>onR (λy=>okAs 4294967296 l/\rl y<=1000000000/\K (.tup [.one (.lit (.bool (decide (chk [l]=0) && (vldR y && l.any (inA (frac (rv y))))))),errV tE (if chk [l]=0 then (if vldR y then 0 else 3) else chk [l])])) b) a
 | _=>False
theorem Qa8(tE:Nat)(a b:AV)(K:AV->Prop):vaN tE [a,b] K=(onAs (λl=>onR (λy=>okAs 4294967296 l/\rl y<=1000000000/\K (.tup [.one (.lit (.bool (decide (chk [l]=0) && (vldR y && l.any (inA (frac (rv y))))))),errV tE (if chk [l]=0 then (if vldR y then 0 else 3) else chk [l])])) b) a):=propext Iff.rfl
@[congr] theorem xb1 (tE:Nat) {K:AV->Prop} {l l' : List AV} (h:l=l'):vaN tE l K=vaN tE l' K:=by subst h;rfl
attribute [go_sem,go_sem ↓] Qa8
end Go.Abs
end
section
namespace Go.Num
def longR(x:R):Bool:=decide (4<x.2.1.length+x.2.2.length)
def largeL(l:List Arc):Bool:=if 20<l.length then (decide (l.length<=64) || decide (200<l.length)) else l.any λx=>longR x.1 || longR x.2
def validL(l:List Arc):Bool:=!largeL l && decide (chk1 l=0)
end Go.Num
namespace Go.Abs
open Go.Num
variable {P:Program} {Γ:Nat->Spec}
def Z1(l:List AV)(K:AV->Prop):Prop:=
 match l with
 | [a]=>onAs (λl=>okAs 1073741824 l/\K (.one (.lit (.int .i64 (chk1 l:Nat))))) a
 | _=>False
theorem yab(a:AV)(K:AV->Prop):Z1 [a] K=(onAs (λl=>okAs 1073741824 l/\K (.one (.lit (.int .i64 (chk1 l:Nat))))) a):=propext Iff.rfl
@[congr] theorem wbA {K:AV->Prop} {l l' : List AV} (h:l=l'):Z1 l K=Z1 l' K:=by subst h;rfl
attribute [go_sem,go_sem ↓] yab
def Vam(l:List AV)(K:AV->Prop):Prop:=
 match l with
 | [a,b]=>onAs (λl=>onAs (λm=>okAs 1073741824 l/\okAs 1073741824 m/\K (.one (.lit (.bool (decide (vals l=vals m)))))) b) a
 | _=>False
theorem Yay(a b:AV)(K:AV->Prop):Vam [a,b] K=(onAs (λl=>onAs (λm=>okAs 1073741824 l/\okAs 1073741824 m/\K (.one (.lit (.bool (decide (vals l=vals m)))))) b) a):=propext Iff.rfl
@[congr] theorem YbP {K:AV->Prop} {l l' : List AV} (h:l=l'):Vam l K=Vam l' K:=by subst h;rfl
attribute [go_sem,go_sem ↓] Yay
def qai(l:List AV)(K:AV->Prop):Prop:=
 match l with
 | [a]=>onR (λx=>rl x<=1000000000/\K (.agg [cb (rcan (frac (rv x))),cn (rcan (frac (rv x))),cd (rcan (frac (rv x)))])) a
 | _=>False
theorem VaA(a:AV)(K:AV->Prop):qai [a] K=(onR (λx=>rl x<=1000000000/\K (.agg [cb (rcan (frac (rv x))),cn (rcan (frac (rv x))),cd (rcan (frac (rv x)))])) a):=propext Iff.rfl
@[congr] theorem JbP {K:AV->Prop} {l l' : List AV} (h:l=l'):qai l K=qai l' K:=by subst h;rfl
attribute [go_sem,go_sem ↓] VaA
def xaj(l:List AV)(K:AV->Prop):Prop:=
 match l with
 | [a,b]=>asInt (λk n=>asInt (λk' d=>k=.i64/\k' = .i64/\(-9223372036854775808<=n/\n<=9223372036854775807)/\(-9223372036854775808<=d/\d<=9223372036854775807)/\d≠0/\K (.agg [cb (rcan (Rat.divInt n d)),cn (rcan (Rat.divInt n d)),cd (rcan (Rat.divInt n d))])) b) a
 | _=>False
theorem vay(a b:AV)(K:AV->Prop):xaj [a,b] K=(asInt (λk n=>asInt (λk' d=>k=.i64/\k' = .i64/\(-9223372036854775808<=n/\n<=9223372036854775807)/\(-9223372036854775808<=d/\d<=9223372036854775807)/\d≠0/\K (.agg [cb (rcan (Rat.divInt n d)),cn (rcan (Rat.divInt n d)),cd (rcan (Rat.divInt n d))])) b) a):=propext Iff.rfl
@[congr] theorem vbR {K:AV->Prop} {l l' : List AV} (h:l=l'):xaj l K=xaj l' K:=by subst h;rfl
attribute [go_sem,go_sem ↓] vay
def Yan(l:List AV)(K:AV->Prop):Prop:=
 match l with
 | [a]=>onR (λx=>rl x<=4294967296/\K (.one (.lit (.bool (longR x))))) a
 | _=>False
theorem Qav(a:AV)(K:AV->Prop):Yan [a] K=(onR (λx=>rl x<=4294967296/\K (.one (.lit (.bool (longR x))))) a):=propext Iff.rfl
@[congr] theorem qbR {K:AV->Prop} {l l' : List AV} (h:l=l'):Yan l K=Yan l' K:=by subst h;rfl
attribute [go_sem,go_sem ↓] Qav
def WW(l:List AV)(K:AV->Prop):Prop:=
 match l with
 | [a]=>onAs (λl=>okAs 1073741824 l/\K (.one (.lit (.bool (largeL l))))) a
 | _=>False
theorem jaf(a:AV)(K:AV->Prop):WW [a] K=(onAs (λl=>okAs 1073741824 l/\K (.one (.lit (.bool (largeL l))))) a):=propext Iff.rfl
@[congr] theorem JbE {K:AV->Prop} {l l' : List AV} (h:l=l'):WW l K=WW l' K:=by subst h;rfl
attribute [go_sem,go_sem ↓] jaf
def uM(l:List AV)(K:AV->Prop):Prop:=
 match l with
 | [a]=>onAs (λl=>okAs 1073741824 l/\K (.one (.lit (.bool (validL l))))) a
 | _=>False
theorem ZQ(a:AV)(K:AV->Prop):uM [a] K=(onAs (λl=>okAs 1073741824 l/\K (.one (.lit (.bool (validL l))))) a):=propext Iff.rfl
@[congr] theorem Jbz {K:AV->Prop} {l l' : List AV} (h:l=l'):uM l K=uM l' K:=by subst h;rfl
attribute [go_sem,go_sem ↓] ZQ
def Q3(tE:Nat)(l:List AV)(K:AV->Prop):Prop:=
 match l with
 | [a]=>onAs (λl=>K (.tup [.one (.slice ((if 64<l.length then [] else l).map aC)),errV tE (if 64<l.length then 4 else 0)])) a
 | _=>False
theorem Y4(tE:Nat)(a:AV)(K:AV->Prop):Q3 tE [a] K=(onAs (λl=>K (.tup [.one (.slice ((if 64<l.length then [] else l).map aC)),errV tE (if 64<l.length then 4 else 0)])) a):=propext Iff.rfl
@[congr] theorem YbB (tE:Nat) {K:AV->Prop} {l l' : List AV} (h:l=l'):Q3 tE l K=Q3 tE l' K:=by subst h;rfl
attribute [go_sem,go_sem ↓] Y4
end Go.Abs
end
