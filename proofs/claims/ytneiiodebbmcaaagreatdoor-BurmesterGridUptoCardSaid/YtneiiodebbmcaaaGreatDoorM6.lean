/-
  Parts of the proof, merged: ArgD, RatC, RefA, RatD, RatE, PoseP, PoseB, PoseC, ChartE, ChartF.
-/
import Derived.Test.YtneiiodebbmcaaaGreatDoorM5
set_option linter.unusedVariables false
set_option linter.unusedSimpArgs false
set_option maxRecDepth 100000
section
namespace Go.Abs
open Go.Num
variable {H:Type} {enc:TypeId×Value->H} {bulk:DataW H->Nat} {P:Program} {w:World} {α:Type}
def okTn(n:Nat)(x:Tn):Prop:=rl x.1<=n/\WLR x.1
def okPose(n:Nat)(x:Ps):Prop:=okP n x
theorem yaQ(n n' : Nat)(a:Tn)(h:n<=n')(k:okTn n a):okTn n' a:=⟨Nat.le_trans k.1 h,k.2⟩
theorem Vaj(n n' : Nat)(a:Ps)(h:n<=n')(k:okPose n a):okPose n' a:=⟨k.1,Nat.le_trans k.2 h⟩
structure TnT (P:Program) (t:TypeId):Prop where
 ex:∃f0 f1:Field,P.underlying t=some (.struct #[f0,f1])/\f0.offset=0/\f1.offset=3/\P.cellsOf t=4/\P.cellsOf f0.type=3/\P.cellsOf f1.type=1/\RatT P f0.type/\P.underlying f1.type=some .bool
theorem jbc{t:TypeId}(B:Bk bulk)(h:TnT P t):Opens enc bulk P w t tC okTn:=by
 obtain⟨f0,f1,ht,o0,o1,hs,c0,c1,r0,r1⟩:=h.ex;have:=ux (enc:=enc) (w:=w) B ht o0 (by omega) (by omega) zJ (λ_ _ _ _ h=>h) (YF (enc:=enc) (w:=w) B r0) (UR (enc:=enc) (bulk:=bulk) (w:=w) r1)
 exact this.imp λn x h=>⟨h.1.1,h.1.2⟩
structure PsT (P:Program) (t:TypeId):Prop where
 ex:∃f0 f1:Field,P.underlying t=some (.struct #[f0,f1])/\f0.offset=0/\f1.offset=4/\P.cellsOf t=10/\P.cellsOf f0.type=4/\P.cellsOf f1.type=6/\TnT P f0.type/\ArcT P f1.type
theorem Xba{t:TypeId}(B:Bk bulk)(h:PsT P t):Opens enc bulk P w t pC okPose:=by
 obtain⟨f0,f1,ht,o0,o1,hs,c0,c1,r0,r1⟩:=h.ex;have:=ux (enc:=enc) (w:=w) B ht o0 (by omega) (by omega) yaQ uO (jbc (enc:=enc) (w:=w) B r0) (jad (enc:=enc) (w:=w) B r1)
 exact this.imp λn x h=>⟨⟨h.1.2,h.2.1⟩,Nat.max_le.2 ⟨h.1.1,h.2.2⟩⟩
structure PosesT (P:Program) (t:TypeId):Prop where
 ex:∃u,P.underlying t=some (.slice u)/\P.cellsOf u=10/\PsT P u
structure DyT (P:Program) (t:TypeId):Prop where
 ex:∃f0 f1 f2:Field,P.underlying t=some (.struct #[f0,f1,f2])/\f0.offset=0/\f1.offset=6/\f2.offset=12/\P.cellsOf t=15/\P.cellsOf f0.type=6/\P.cellsOf f1.type=6/\P.cellsOf f2.type=3/\ArcT P f0.type/\ArcT P f1.type/\RatT P f2.type
end Go.Abs
end
section
namespace Go.Abs
open Go.Num
variable {P:Program} {Γ:Nat->Spec}
def qn(f0 f1 f2 f3:Nat):AC:=(.seq (.ops false [.u 1 (.box 3 (.t 0)),.m 2 .fa])
 (.fg [1] (.seq (.seq (.ops false [.u 5 (.fa 1 (.t 1)),.u 6 (.ld none 1 false (.t 5)),.u 7 (.len (.t 6)),.u 8 (.bin .eql (.t 7) (.i 0)),.m 9 (.t 8),.w 10 9 true (.fa 2 (.t 1)),.w 11 9 true (.ld none 1 false (.t 10)),.w 12 9 true (.len (.t 11)),.w 13 9 true (.bin .eql (.t 12) (.i 0)),.u 14 (.pick (.t 9) (.t 13) .fa)])
 (.fg [1,14] (.cond (.t 14) (.seq (.ops false [.u 15 (.fa 0 (.t 1)),.u 16 (.ld none 1 false (.t 15)),.u 17 (.un .not (.t 16)),.m 2 (.t 17)])
 .ret) .skip)))
 (.fg [1] (.seq (.ops true [.u 18 (.fa 1 (.t 1)),.u 19 (.ld (some 1) 1 false (.t 18)),.u 20 (.build [.z [(.lit (.bool false))],.x 1 (.t 19)]),.u 21 (.fa 2 (.t 1)),.u 22 (.ld (some 1) 1 false (.t 21)),.u 23 (.build [.z [(.lit (.bool false))],.x 1 (.t 22)]),.u 3 (.alloc [(.lit (.bool false)),.emp]),.u 4 (.alloc [(.lit (.bool false)),.emp]),.n (.st (some 3) 2 (.t 3) (.t 20)),.n (.st (some 4) 2 (.t 4) (.t 23))])
 (.fg [1,3,4] (.seq (.seq (.ops false [.u 24 (.fa 1 (.t 1)),.u 25 (.ld none 1 false (.t 24)),.u 26 (.len (.t 25)),.u 27 (.bin .eql (.t 26) (.i 0)),.m 28 (.t 27),.w 29 28 false (.fa 2 (.t 1)),.w 30 28 false (.ld none 1 false (.t 29)),.w 31 28 false (.len (.t 30)),.w 32 28 false (.bin .eql (.t 31) (.i 0)),.u 33 (.pick (.t 28) .tr (.t 32)),.m 34 (.t 33),.w 35 34 false (.ld none 2 true (.t 3)),.w 36 34 false (.call f0 [(.t 35)]),.w 37 34 false (.un .not (.t 36)),.u 38 (.pick (.t 34) .tr (.t 37)),.m 39 (.t 38),.w 40 39 false (.ld none 2 true (.t 4)),.w 41 39 false (.call f0 [(.t 40)]),.w 42 39 false (.un .not (.t 41)),.u 43 (.pick (.t 39) .tr (.t 42))])
 (.fg [3,4,43] (.cond (.t 43) (.seq (.ops false [.m 2 .fa])
 .ret) .skip)))
 (.fg [3,4] (.seq (.ops false [.u 44 (.ld none 2 true (.t 3)),.u 45 (.ld none 2 true (.t 4)),.u 46 (.call f1 [(.t 44),(.t 45)]),.u 47 (.call f2 []),.u 48 (.call f3 [(.t 46),(.t 47)]),.u 49 (.bin .eql (.t 48) (.i 0)),.m 2 (.t 49)])
 .ret)))))))))
def jn(f0 f1:Nat):AC:=(.seq (.ops false [.u 1 (.box 3 (.t 0)),.u 2 (.alloc [(.lit (.bool false)),.emp]),.u 3 (.alloc [(.lit (.bool false)),.emp])])
 (.fg [1,2,3] (.seq (.seq (.ops false [.u 4 (.ld none 3 true (.t 1)),.u 5 (.call f0 [(.t 4)]),.u 6 (.un .not (.t 5)),.m 7 (.t 6),.w 8 7 false (.fa 1 (.t 1)),.w 9 7 false (.ld none 1 false (.t 8)),.w 10 7 false (.len (.t 9)),.w 11 7 false (.bin .eql (.t 10) (.i 0)),.u 12 (.pick (.t 7) .tr (.t 11))])
 (.fg [1,2,3,12] (.cond (.t 12) (.seq (.ops false [.u 13 (.build [.z [(.lit (.bool false)),.emp]]),.u 14 (.call f1 []),.n (.st none 2 (.t 2) (.t 13)),.n (.st none 2 (.t 3) (.t 14))])
 .ret) .skip)))
 (.fg [1,2,3] (.seq (.ops true [.u 15 (.fa 0 (.t 1)),.u 16 (.ld none 1 false (.t 15)),.m 17 (.c (.one .emp)),.u 18 (.fa 1 (.t 1)),.u 19 (.ld none 1 false (.t 18)),.u 20 (.app0 1 (.t 17) (.t 19)),.u 21 (.build [.x 1 (.t 16),.x 1 (.t 20)]),.n (.st none 2 (.t 2) (.t 21))])
 (.fg [1,2,3] (.seq (.ops true [.u 22 (.ld none 2 true (.t 2)),.m 23 (.c (.one .emp)),.u 24 (.fa 2 (.t 1)),.u 25 (.ld none 1 false (.t 24)),.u 26 (.app0 1 (.t 23) (.t 25)),.u 27 (.build [.z [(.lit (.bool false))],.x 1 (.t 26)]),.n (.st none 2 (.t 2) (.t 22)),.n (.st none 2 (.t 3) (.t 27))])
 .ret)))))))
def qp(f0 f1 f2 f3:Nat):AC:=(.seq (.ops false [.u 2 (.box 2 (.t 0)),.u 3 (.box 2 (.t 1)),.u 4 (.alloc [(.lit (.bool false)),.emp,.emp])])
 (.fg [2,3,4] (.seq (.seq (.ops false [.u 7 (.ld none 2 true (.t 2)),.u 8 (.call f0 [(.t 7)]),.u 9 (.bin .eql (.t 8) (.i 0))])
 (.fg [2,3,4,9] (.cond (.t 9) (.seq (.ops false [.u 10 (.build [.z [(.lit (.bool false)),.emp,.emp]]),.n (.st none 3 (.t 4) (.t 10))])
 .ret) .skip)))
 (.fg [2,3,4] (.seq (.seq (.ops false [.u 11 (.ld none 2 true (.t 3)),.u 12 (.call f0 [(.t 11)]),.u 13 (.bin .lss (.t 12) (.i 0))])
 (.fg [2,3,4,13] (.cond (.t 13) (.ops true [.u 14 (.ld none 2 true (.t 2)),.u 15 (.call f1 [(.t 14)]),.u 16 (.ld none 2 true (.t 3)),.u 17 (.call f1 [(.t 16)]),.n (.st none 2 (.t 2) (.t 15)),.n (.st none 2 (.t 3) (.t 17))]) .skip)))
 (.fg [2,3,4] (.seq (.ops false [.u 18 (.ld none 2 true (.t 2)),.u 19 (.ld none 2 true (.t 3)),.u 20 (.call f2 [(.t 18),(.t 19)]),.u 5 (.alloc [(.lit (.bool false)),.emp]),.n (.st none 2 (.t 5) (.t 20))])
 (.fg [2,3,4,5] (.seq (.ops false [.u 21 (.ld none 2 true (.t 2)),.u 22 (.call f0 [(.t 21)]),.u 23 (.bin .lss (.t 22) (.i 0)),.m 6 (.t 23)])
 (.fg [2,3,4,5,6] (.seq (.seq (.ops false [.m 24 (.t 6)])
 (.fg [2,3,4,5,6,24] (.cond (.t 24) (.ops false [.u 25 (.ld none 2 true (.t 2)),.u 26 (.call f1 [(.t 25)]),.n (.st none 2 (.t 2) (.t 26))]) .skip)))
 (.fg [2,3,4,5,6] (.seq (.ops false [.u 28 (.ld none 2 true (.t 2)),.u 29 (.ld none 2 true (.t 5)),.u 30 (.call f3 [(.t 28),(.t 29)]),.m 27 (.t 30),.u 31 (.ext 0 (.t 27)),.u 32 (.ext 1 (.t 27)),.u 33 (.ext 2 (.t 27)),.n (.st none 2 (.t 2) (.t 31))])
 (.fg [2,3,4,5,6] (.seq (.ops false [.u 35 (.ld none 2 true (.t 3)),.u 36 (.ld none 2 true (.t 5)),.u 37 (.call f3 [(.t 35),(.t 36)]),.m 34 (.t 37),.u 38 (.ext 0 (.t 34)),.u 39 (.ext 1 (.t 34)),.u 40 (.ext 2 (.t 34)),.n (.st none 2 (.t 3) (.t 38))])
 (.fg [2,3,4,6] (.seq (.ops false [.m 41 (.t 6),.u 42 (.fa 1 (.t 2)),.u 43 (.ld none 1 false (.t 42)),.u 44 (.fa 1 (.t 3)),.u 45 (.ld none 1 false (.t 44)),.u 46 (.build [.x 1 (.t 41),.x 1 (.t 43),.x 1 (.t 45)]),.n (.st none 3 (.t 4) (.t 46))])
 .ret)))))))))))))))))
def Zm(f0:Nat):AC:=(.seq (.ops false [.u 0 (.alloc [(.lit (.bool false)),.emp])])
 (.fg [0] (.seq (.ops false [.u 1 (.call f0 [(.i 1)]),.n (.st none 2 (.t 0) (.t 1))])
 .ret)))
def Un(f0 f1 f2:Nat):AC:=(.seq (.ops false [.u 2 (.alloc [(.lit (.bool false)),.emp,.emp])])
 (.fg [0,2] (.seq (.ops false [.m 3 (.t 0),.u 4 (.call f0 [(.t 3)]),.u 5 (.call f1 []),.u 6 (.call f2 [(.t 4),(.t 5)]),.n (.st none 3 (.t 2) (.t 6))])
 .ret)))
def js(f0 f1 f2:Nat):AC:=(.seq (.ops false [.u 1 (.box 3 (.t 0)),.u 2 (.alloc [(.lit (.bool false)),.emp,.emp])])
 (.fg [1,2] (.seq (.ops false [.u 6 (.ld none 3 true (.t 1)),.u 7 (.call f0 [(.t 6)]),.m 5 (.t 7),.u 8 (.ext 0 (.t 5)),.u 9 (.ext 1 (.t 5)),.u 3 (.alloc [(.lit (.bool false)),.emp]),.u 4 (.alloc [(.lit (.bool false)),.emp]),.n (.st none 2 (.t 3) (.t 8)),.n (.st none 2 (.t 4) (.t 9))])
 (.fg [2,3,4] (.seq (.ops true [.u 10 (.ld none 2 true (.t 3)),.u 11 (.call f1 [(.t 10)]),.u 12 (.ld none 2 true (.t 4)),.u 13 (.call f2 [(.t 11),(.t 12)]),.n (.st none 3 (.t 2) (.t 13))])
 .ret)))))
def wk(f0 f1:Nat):AC:=(.seq (.ops false [.u 1 (.box 3 (.t 0)),.m 2 (.i 0)])
 (.fg [1] (.seq (.ops false [.u 6 (.ld none 3 true (.t 1)),.u 7 (.call f0 [(.t 6)]),.m 5 (.t 7),.u 8 (.ext 0 (.t 5)),.u 9 (.ext 1 (.t 5)),.u 3 (.alloc [(.lit (.bool false)),.emp]),.u 4 (.alloc [(.lit (.bool false)),.emp]),.n (.st none 2 (.t 3) (.t 8)),.n (.st none 2 (.t 4) (.t 9))])
 (.fg [3] (.seq (.ops false [.u 10 (.ld none 2 true (.t 3)),.u 11 (.call f1 [(.t 10)]),.m 2 (.t 11)])
 .ret)))))
def ju(f0 f1 f2 f3:Nat):AC:=(.seq (.ops false [.u 2 (.box 3 (.t 0)),.u 3 (.box 3 (.t 1)),.u 4 (.alloc [(.lit (.bool false)),.emp,.emp])])
 (.fg [2,3,4] (.seq (.ops false [.u 10 (.ld none 3 true (.t 2)),.u 11 (.call f0 [(.t 10)]),.m 9 (.t 11),.u 12 (.ext 0 (.t 9)),.u 13 (.ext 1 (.t 9)),.u 5 (.alloc [(.lit (.bool false)),.emp]),.u 6 (.alloc [(.lit (.bool false)),.emp]),.n (.st none 2 (.t 5) (.t 12)),.n (.st none 2 (.t 6) (.t 13))])
 (.fg [3,4,5,6] (.seq (.ops false [.u 15 (.ld none 3 true (.t 3)),.u 16 (.call f0 [(.t 15)]),.m 14 (.t 16),.u 17 (.ext 0 (.t 14)),.u 18 (.ext 1 (.t 14)),.u 7 (.alloc [(.lit (.bool false)),.emp]),.u 8 (.alloc [(.lit (.bool false)),.emp]),.n (.st none 2 (.t 7) (.t 17)),.n (.st none 2 (.t 8) (.t 18))])
 (.fg [4,5,6,7,8] (.seq (.ops true [.u 19 (.ld none 2 true (.t 5)),.u 20 (.ld none 2 true (.t 8)),.u 21 (.call f1 [(.t 19),(.t 20)]),.u 22 (.ld none 2 true (.t 7)),.u 23 (.ld none 2 true (.t 6)),.u 24 (.call f1 [(.t 22),(.t 23)]),.u 25 (.call f2 [(.t 21),(.t 24)]),.u 26 (.ld none 2 true (.t 6)),.u 27 (.ld none 2 true (.t 8)),.u 28 (.call f1 [(.t 26),(.t 27)]),.u 29 (.call f3 [(.t 25),(.t 28)]),.n (.st none 3 (.t 4) (.t 29))])
 .ret)))))))
def Zu(f0 f1:Nat):AC:=(.seq (.ops false [.u 2 (.box 3 (.t 0)),.u 3 (.box 3 (.t 1)),.u 4 (.alloc [(.lit (.bool false)),.emp,.emp])])
 (.fg [2,3,4] (.seq (.ops true [.u 5 (.ld none 3 true (.t 2)),.u 6 (.ld none 3 true (.t 3)),.u 7 (.call f0 [(.t 6)]),.u 8 (.call f1 [(.t 5),(.t 7)]),.n (.st none 3 (.t 4) (.t 8))])
 .ret)))
def zp(f0 f1 tE:Nat):AC:=(.seq (.ops false [.u 2 (.box 2 (.t 0)),.u 3 (.box 2 (.t 1)),.u 4 (.alloc [(.lit (.bool false)),.emp,.emp]),.m 5 (.c (.one (.lit .nilIface)))])
 (.fg [2,3,4] (.seq (.seq (.ops false [.u 6 (.ld none 2 true (.t 3)),.u 7 (.call f0 [(.t 6)]),.u 8 (.bin .eql (.t 7) (.i 0))])
 (.fg [2,3,4,8] (.cond (.t 8) (.seq (.ops false [.u 9 (.build [.z [(.lit (.bool false)),.emp,.emp]]),.u 10 (.iface tE (.i 8)),.n (.st none 3 (.t 4) (.t 9)),.m 5 (.t 10)])
 .ret) .skip)))
 (.fg [2,3,4] (.seq (.ops false [.u 11 (.ld none 2 true (.t 2)),.u 12 (.ld none 2 true (.t 3)),.u 13 (.call f1 [(.t 11),(.t 12)]),.n (.st none 3 (.t 4) (.t 13)),.m 5 (.c (.one (.lit .nilIface)))])
 .ret)))))
theorem kaW{n:Int}:n.sign<0↔n<0:=by
 rcases Int.lt_trichotomy n 0 with h | h | h
 .rw [Int.sign_eq_neg_one_of_neg h];omega
 .subst h;simp
 .rw [Int.sign_eq_one_of_pos h];omega
theorem zC{n d N D:Int}{g:Nat}{m:Bool}(hd:d≠0)(hn:n≠0)(hN:0<=N)(hD:0<=D)(e1:N.natAbs=n.natAbs)(e2:D.natAbs=d.natAbs)(eg:g=Int.gcd n d)(em:m=decide (d.sign*n<0)) :
  AV.agg [.lit (.bool m),zm (zcan (N / (g:Int))),zm (zcan (D / (g:Int)))]=.agg [cb (rcan (Rat.divInt n d)),cn (rcan (Rat.divInt n d)),cd (rcan (Rat.divInt n d))]:=by
 obtain⟨N',rfl⟩:=Int.eq_ofNat_of_zero_le hN;obtain⟨D',rfl⟩:=Int.eq_ofNat_of_zero_le hD;simp only [Int.natAbs_natCast]at e1 e2;subst e1 e2 eg em;rw [zaH,VaI,UaD,ZK hd hn,yaH,yaH];simp only [zcan];rw [<-Int.natCast_ediv,<-Int.natCast_ediv];simp only [Int.natAbs_natCast]
theorem YaL{v w:Int}{s:Nat}(h:w≠0)(hw:zs w<=s):zs ((Int.gcd v w:Nat):Int)<=s:=by
 refine Nat.le_trans (qaj ?_) hw;simp only [Int.natAbs_natCast];exact Nat.le_of_dvd (by omega) (Int.gcd_dvd_natAbs_right _ _)
theorem Z1{a b:Int}:ordI a b=0↔a=b:=by unfold ordI;split <;> (try split) <;> omega
theorem ZaY{l:List Nat}(h:l≠[]):vldW (false,l)=decide (NZ l):=by unfold vldW;rw [if_neg h]
theorem zv_f{l:List Nat}(h:NZ l):zv (false,l)=(val l:Int):=by
 unfold zv;by_cases e:l=[]
 .subst e;simp [vldW]
 .rw [ZaY e];simp [h]
theorem QP(hΓ:Holds P Γ){f fo:Nat}(ho:Γ fo=.dat false UH)(hc:check P f=some (2,(Zm fo).strip,[.cell 0 2 true])):Sound P f (.dat false Vo):=by
 refine Wa hc WaP hΓ (λargs K hcl hfi hG=>?_);match args,hG with
 | [],hG=>
  have hK:=hG;simp only [Vo]at hK;refine⟨by simp,?_⟩
  simp only [go_sem,Zm,ho];refine⟨by omega,by omega,hK⟩
theorem jae(hΓ:Holds P Γ){f fv fg fo fc:Nat}(hv:Γ fv=.dat true zj)(hg:Γ fg=.dat false Xt)(ho:Γ fo=.dat false Vo)(hc' : Γ fc=.dat true XC)(hc:check P f=some (50,(qn fv fg fo fc).strip,[.tmp 2])):Sound P f (.dat true kd):=by
 refine Wa hc VM hΓ (λargs K hcl hfi hG=>?_);match args,hG with
 | [a],hG=>
  obtain⟨x,rfl,hx,hl,hK⟩:=hG;refine⟨by simp,?_⟩
  simp only [go_sem,qn,hv,hg,ho,hc',zaH,VaI,UaD];have hl1:x.2.1.length<=4294967296:=Nat.le_trans (Nat.le_max_left _ _) hl;have hl2:x.2.2.length<=4294967296:=Nat.le_trans (Nat.le_max_right _ _) hl;have key:x.2.1≠[]->x.2.2≠[]->WL x.2.1/\(vldW (false,x.2.1)=true->WL x.2.2/\(vldW (false,x.2.2)=true->WL x.2.1/\WL x.2.2/\zs (zv (false,x.2.1))<=17179869184/\zs (zv (false,x.2.2))<=17179869184/\
    K (AV.one (C.lit (Value.bool (decide (ordI (((zv (false,x.2.1)).gcd (zv (false,x.2.2)):Nat):Int) 1=0))))))/\(vldW (false,x.2.2)=false->K (AV.one (C.lit (Value.bool false)))))/\(vldW (false,x.2.1)=false->K (AV.one (C.lit (Value.bool false)))):=by
   intro hn hd;unfold vldR at hK;rw [if_neg (λe=>hn e.1)]at hK;rw [ZaY hn,ZaY hd];refine⟨hx.1,λh1=>⟨hx.2,λh2=>⟨hx.1,hx.2,?_,?_,?_⟩,λh2=>?_⟩,λh1=>?_⟩
   .rw [zv_f (of_decide_eq_true h1),Jaa,Je hx.1 (of_decide_eq_true h1)];omega
   .rw [zv_f (of_decide_eq_true h2),Jaa,Je hx.2 (of_decide_eq_true h2)];omega
   .rw [zv_f (of_decide_eq_true h1),zv_f (of_decide_eq_true h2)];have e:decide (ordI (((((val x.2.1:Nat):Int)).gcd ((val x.2.2:Nat):Int):Nat):Int) 1=0)=decide (x.2.1≠[]/\x.2.2≠[]/\NZ x.2.1/\NZ x.2.2/\Nat.gcd (val x.2.1) (val x.2.2)=1):=by
     rw [decide_eq_decide,Z1,Int.gcd_natCast_natCast];have h1':=of_decide_eq_true h1;have h2':=of_decide_eq_true h2;constructor
     .intro h;exact⟨hn,hd,h1',h2',by omega⟩
     .rintro⟨_,_,_,_,h⟩;omega
    rw [e];exact hK
   .rw [decide_eq_false (λh=>of_decide_eq_false h2 h.2.2.2.1)]at hK;exact hK
   .rw [decide_eq_false (λh=>of_decide_eq_false h1 h.2.2.1)]at hK;exact hK
  have e0:∀{l:List Nat},¬l.length=0->l≠[]:=λh e=>h (by rw [e];rfl)
  have key0:¬(x.2.1=[]/\x.2.2=[])->(x.2.1=[]∨x.2.2=[])->K (AV.one (C.lit (Value.bool false))):=by
   intro h1 h2;unfold vldR at hK;rw [if_neg h1,decide_eq_false (λh=>h2.elim h.1 h.2.1)]at hK;exact hK
  refine λ_=>⟨λhn _=>⟨λhd=>?_,λhd _=>⟨λh=>?_,λh=>absurd hn h⟩⟩,λhn _=>⟨λh=>absurd h hn,λ_ _=>⟨λhd=>?_,λhd=>key (e0 hn) (e0 hd)⟩⟩⟩
  .unfold vldR at hK;rw [if_pos ⟨List.eq_nil_of_length_eq_zero hn,List.eq_nil_of_length_eq_zero hd⟩]at hK;exact hK
  .exact key0 (λh=>e0 hd h.2) (.inl (List.eq_nil_of_length_eq_zero hn))
  .exact key0 (λh=>e0 hn h.1) (.inr (List.eq_nil_of_length_eq_zero hd))
theorem J4(hΓ:Holds P Γ){f fv fo:Nat}(hv:Γ fv=.dat true kd)(ho:Γ fo=.dat false Vo)(hc:check P f=some (28,(jn fv fo).strip,[.cell 2 2 true,.cell 3 2 true])):Sound P f (.dat false Ye):=by
 refine Wa hc QJ hΓ (λargs K hcl hfi hG=>?_);match args,hG with
 | [a],hG=>
  obtain⟨x,rfl,hx,hl,hK⟩:=hG;refine⟨by simp,?_⟩
  simp only [go_sem,jn,hv,ho,zaH,VaI,UaD];have hl1:x.2.1.length<=4294967296:=Nat.le_trans (Nat.le_max_left _ _) hl;have hl2:x.2.2.length<=4294967296:=Nat.le_trans (Nat.le_max_right _ _) hl;have e0:(zcan 0)=(false,[]):=by simp [zcan,yb]
  have h0:rv x=0->K (AV.tup [AV.agg [C.lit (Value.bool false),C.slice []],AV.agg [zb (zcan 1),zm (zcan 1)]]):=by
   intro h;rw [h]at hK;have e1:((0:Rat).num)=0:=rfl;have e2:((0:Rat).den:Int)=1:=rfl;rw [e1,e2,e0]at hK;exact hK
  refine⟨hx,hl,λhv _=>⟨λhn=>h0 ?_,λhn=>⟨by omega,by omega,?_⟩⟩,λhv=>h0 (Xag hv)⟩
  .unfold rv;rw [if_pos hv,List.eq_nil_of_length_eq_zero hn];simp [val,sg]
  .obtain⟨p1,p2,p3,p4,p5,p6⟩:=XX hx hv (λe=>hn (by rw [e];rfl))
   have hn0:=Zd p4 (λe=>hn (by rw [e];rfl))
   rw [p1,p2]at hK;have e1:zcan (sg x.1 (val x.2.1))=(x.1,x.2.1):=by
    rw [<-vP,Je hx.1 p4];have:decide (0<x.2.1.length)=true:=by simp only [decide_eq_true_eq];omega
    rw [this,Bool.and_true]
   have e2:zcan ((val x.2.2:Nat):Int)=(false,x.2.2):=by
    have:=vP false (val x.2.2);rw [Je hx.2 p5,Bool.false_and]at this;exact this.symm
   rw [e1,e2]at hK;exact hK
theorem Yag(hΓ:Holds P Γ){f fs fn fg fd:Nat}(hs:Γ fs=.dat true Zh)(hn:Γ fn=.dat false yu)(hg:Γ fg=.dat false Xt)(hd:Γ fd=.dat false YG)(hc:check P f=some (47,(qp fs fn fg fd).strip,[.cell 4 3 true])):Sound P f (.dat false Yj):=by
 refine Wa hc yR hΓ (λargs K hcl hfi hG=>?_);match args,hG with
 | [a,b],hG=>
  obtain⟨v,rfl,hv,w,rfl,hw,hz,hz',h0,hK⟩:=hG;refine⟨by simp,?_⟩
  simp only [go_sem,qp,hs,hn,hg,hd,hv,hw];generalize zv v=n at *
  generalize zv w=d at *
  have hd0:=h0;refine⟨λh=>?_,λh=>?_⟩
  .rw [Int.sign_eq_zero_iff_zero.1 h,Rat.zero_divInt,Yb]at hK;exact hK
  have hn0:n≠0:=λe=>h (by rw [e];rfl)
  have hg0:((Int.gcd n d:Nat):Int)≠0:=by
   have:=Int.gcd_pos_of_ne_zero_left d hn0;omega
  have hgz:zs ((Int.gcd n d:Nat):Int)<=17179869184:=YaL hd0 hz';simp only [Int.gcd_neg,Int.neg_gcd,Vaa,kaW];refine⟨λhdn=>⟨by omega,by omega,hz,hz',λhnn=>⟨by omega,hz,hgz,hg0,hz',hgz,hg0,?_⟩,λhnn=>⟨hz,hgz,hg0,hz',hgz,hg0,?_⟩⟩,λhdn=>⟨hz,hz',λhnn=>⟨by omega,hz,hgz,hg0,hz',hgz,hg0,?_⟩,λhnn=>⟨hz,hgz,hg0,hz',hgz,hg0,?_⟩⟩⟩
  .rw [zC hd0 hn0 (by omega) (by omega) (by omega) (by omega) rfl (by rw [decide_eq_decide,Int.sign_eq_neg_one_of_neg hdn];omega)];exact hK
  .rw [zC hd0 hn0 (by omega) (by omega) (by omega) (by omega) rfl (by rw [decide_eq_decide,Int.sign_eq_neg_one_of_neg hdn];omega)];exact hK
  .rw [zC hd0 hn0 (by omega) (by omega) (by omega) (by omega) rfl (by rw [decide_eq_decide,Int.sign_eq_one_of_pos (by omega)];omega)];exact hK
  .rw [zC hd0 hn0 (by omega) (by omega) (by omega) (by omega) rfl (by rw [decide_eq_decide,Int.sign_eq_one_of_pos (by omega)];omega)];exact hK
theorem uae(hΓ:Holds P Γ){f fo fn ff:Nat}(ho:Γ fo=.dat false UH)(hn:Γ fn=.dat false Vo)(hf:Γ ff=.dat false Yj)(hc:check P f=some (7,(Un fo fn ff).strip,[.cell 2 3 true])):Sound P f (.dat false wB):=by
 refine Wa hc Jbc hΓ (λargs K hcl hfi hG=>?_);match args,hG with
 | [a],hG=>
  obtain⟨k,n,rfl,rfl,hn1,hn2,hK⟩:=vb hG;refine⟨by simp,?_⟩
  simp only [go_sem,Un,ho,hn,hf];have e:Rat.divInt n 1=(n:Rat):=Rat.num_divInt_den (n:Rat);rw [e];have h1:zs 1<=2:=Xo (by decide)
  have h2:zs n<=2:=Xo (by omega)
  exact⟨hn1,hn2,by omega,by omega,by decide,hK⟩
theorem vaF(hΓ:Holds P Γ){f fp fn ff:Nat}(hp:Γ fp=.dat false Ye)(hn:Γ fn=.dat false yu)(hf:Γ ff=.dat false Yj)(hc:check P f=some (14,(js fp fn ff).strip,[.cell 2 3 true])):Sound P f (.dat false xC):=by
 refine Wa hc JaR hΓ (λargs K hcl hfi hG=>?_);match args,hG with
 | [a],hG=>
  obtain⟨x,rfl,hx,hl,hK⟩:=hG;refine⟨by simp,?_⟩
  simp only [go_sem,js,hp,hn,hf,hx];have n1:=xJ hx;have d1:=kL hx;rw [waT,Vaa];exact⟨hl,by omega,by omega,by omega,JA _,hK⟩
theorem QO(hΓ:Holds P Γ){f fp fs:Nat}(hp:Γ fp=.dat false Ye)(hs:Γ fs=.dat true Zh)(hc:check P f=some (12,(wk fp fs).strip,[.tmp 2])):Sound P f (.dat true qg):=by
 refine Wa hc jaH hΓ (λargs K hcl hfi hG=>?_);match args,hG with
 | [a],hG=>
  obtain⟨x,rfl,hx,hl,hK⟩:=hG;refine⟨by simp,?_⟩
  simp only [go_sem,wk,hp,hs,hx];rw [<-jaV];exact⟨hl,hK⟩
theorem JaI(hΓ:Holds P Γ){f fp fm fa ff:Nat}(hp:Γ fp=.dat false Ye)(hm:Γ fm=.dat false yA)(ha:Γ fa=.dat false jx)(hf:Γ ff=.dat false Yj)(hc:check P f=some (30,(ju fp fm fa ff).strip,[.cell 4 3 true])):Sound P f (.dat false jl):=by
 refine Wa hc Ua7 hΓ (λargs K hcl hfi hG=>?_);match args,hG with
 | [a,b],hG=>
  obtain⟨x,rfl,hx,y,rfl,hy,hl,hl',hK⟩:=hG;refine⟨by simp,?_⟩
  simp only [go_sem,ju,hp,hm,ha,hf,hx,hy];have n1:=xJ hx;have d1:=kL hx;have n2:=xJ hy;have d2:=kL hy;rw [Int.natCast_mul,Zab];have m1:=jt (rv x).num (rv y).den;have m2:=jt (rv y).num (rv x).den;have m3:=jt ((rv x).den:Int) (rv y).den;have a1:=vL ((rv x).num*(rv y).den) ((rv y).num*(rv x).den);exact⟨hl,hl',by omega,by omega,by omega,by omega,by omega,by omega,by omega,by omega,by omega,by omega,Int.mul_ne_zero (JA _) (JA _),hK⟩
theorem XaG(hΓ:Holds P Γ){f fn fa:Nat}(hn:Γ fn=.dat false xC)(ha:Γ fa=.dat false jl)(hc:check P f=some (9,(Zu fn fa).strip,[.cell 4 3 true])):Sound P f (.dat false Vx):=by
 refine Wa hc jaR hΓ (λargs K hcl hfi hG=>?_);match args,hG with
 | [a,b],hG=>
  obtain⟨x,rfl,hx,y,rfl,hy,hl,hl',hK⟩:=hG;refine⟨by simp,?_⟩
  simp only [go_sem,Zu,hn,ha,hx,hy];rw [<-Rat.sub_eq_add_neg,kN];exact⟨hl',hl,Nat.le_trans (Jg hy) hl',hK⟩
end Go.Abs
end
section
namespace Go.Num
def bln(n:Nat):Nat:=if n=0 then 0 else bln (n / 2)+1
termination_by n
decreasing_by omega
theorem jI:bln 0=0:=by rw [bln];rfl
theorem Jal{n:Nat}(h:n≠0):bln n=bln (n / 2)+1:=by rw [bln,if_neg h]
theorem YbF(n:Nat):n<2 ^ bln n:=by
 induction n using Nat.strongRecOn with
 | _ n ih=>
  by_cases h:n=0
  .subst h;rw [jI];decide
  .rw [Jal h,Nat.pow_succ];have:=ih (n / 2) (by omega)
   omega
theorem kbm{n k:Nat}(h:n<2 ^ k):bln n<=k:=by
  induction k generalizing n with
  | zero => have : n = 0 := by omega
            subst this;rw [jI];exact Nat.le_refl _
  | succ k ih=>
    by_cases h0:n=0
    . subst h0;rw [jI];omega
    . rw [Jal h0]
      have:=ih (n:=n / 2) (by rw [Nat.pow_succ]at h;omega)
      omega
theorem yW(l:List Nat)(m:Nat):val l=val (l.take m)+4294967296 ^ m*val (l.drop m):=by
 by_cases h:m<=l.length
 .conv=>lhs;rw [<-List.take_append_drop m l,Yc,List.length_take,Nat.min_eq_left h]
 .rw [List.take_of_length_le (by omega),List.drop_of_length_le (by omega)];simp [val]
theorem QC(l:List Nat)(m:Nat):val (l.drop m)=l.getD m 0+4294967296*val (l.drop (m+1)):=by
 by_cases h:m<l.length
 .have:=qM l (n:=m+1) (by omega) (by omega)
  exact this
 .rw [List.drop_of_length_le (by omega),List.drop_of_length_le (by omega),List.getD_eq_getElem?_getD,List.getElem?_eq_none (by omega)];simp [val]
theorem uam{l:List Nat}(h:WL l)(m:Nat):val (l.take m)<4294967296 ^ m:=
 Nat.lt_of_lt_of_le (ul (uy h m)) (Nat.pow_le_pow_right (by omega) (by rw [List.length_take];omega))
theorem zbk{x y:List Nat}{m:Nat}(hx:WL x)(hd:val (x.drop (m+1))=val (y.drop (m+1)))(h:x.getD m 0<y.getD m 0):val x<val y:=by
 have h1:=yW x m;have h2:=yW y m;have h3:=uam hx m;rw [QC,hd]at h1;rw [QC]at h2;generalize 4294967296 ^ m=p at *
 have:p*(x.getD m 0+4294967296*val (y.drop (m+1))+1)<=p*(y.getD m 0+4294967296*val (y.drop (m+1))):=Nat.mul_le_mul_left _ (by omega)
 rw [Nat.mul_add p _ 1]at this;omega
theorem QV{x y c:Nat}(hx:x<4294967296)(hy:y<4294967296)(hc:c<=1):∃s:Nat,((((4294967296+(x:Int)) % 18446744073709551616-(y:Int)) % 18446744073709551616-(c:Int)) % 18446744073709551616)=(s:Int)/\
  (1-(s:Int) / 4294967296) % 18446744073709551616=((1-s / 4294967296:Nat):Int)/\s % 4294967296+y+c=x+4294967296*(1-s / 4294967296)/\1-s / 4294967296<=1:=by
 exact⟨4294967296+x-y-c,by omega,by omega,by omega,by omega⟩
theorem ubd{V Q c xa ya a b u w B:Nat}(h:V+Q*c=xa+ya)(hs:u+B*w=a+b+c):V+Q*u+Q*B*w=xa+Q*a+(ya+Q*b):=by
 have:=congrArg (Q * ·) hs;simp only [Nat.mul_add]at this;rw [Nat.mul_assoc Q B w];omega
theorem Ya5{o l post:List Nat}(h:o.length<=l.length):(o++(l.drop o.length++post)).length=l.length+post.length:=by simp;omega
theorem kaj{o l post:List Nat}(h:o.length<=l.length):(o++(l.drop o.length++post)).take l.length=o++l.drop o.length:=by
 rw [<-List.append_assoc,List.take_append_of_le_length (by simp;omega),List.take_of_length_le (by simp;omega)]
theorem yav(o l:List Nat)(k:Nat):(o++l.drop o.length).getD (o.length+k) 0=l.getD (o.length+k) 0:=by
 simp only [List.getD_eq_getElem?_getD];rw [List.getElem?_append_right (by omega),List.getElem?_drop,show o.length+(o.length+k-o.length)=o.length+k by omega]
theorem VY(o l:List Nat):(o++l.drop o.length).getD o.length 0=l.getD o.length 0:=yav o l 0
theorem Yav{o l post:List Nat}(v:Nat)(h:o.length<l.length):(o++(l.drop o.length++post)).set o.length v=(o++[v])++(l.drop (o++[v]).length++post):=by
 have:=kak [] o l post v h;simpa using this
theorem xbo{o l:List Nat}(h:o.length<=l.length):(o++l.drop o.length).length=l.length:=by simp;omega
theorem kbx{o l:List Nat}(v:Nat)(h:o.length<l.length):(o++l.drop o.length).set o.length v=(o++[v])++l.drop (o++[v]).length:=by
 have:=Yav (post:=[]) v h;simpa using this
theorem qbr{o l:List Nat}(ho:WL o)(hl:WL l):WL (o++l.drop o.length):=ue.2 ⟨ho,Qbp hl _⟩
theorem Ybf{a b:Nat}(ha:a<4294967296)(hb:b<4294967296):(a / 2 ||| b*2147483648 % 18446744073709551616) % 4294967296=(a+4294967296*b) / 2 ^ 1 % 4294967296:=by
 have:=Nat.two_pow_add_eq_or_of_lt (i:=31) (b:=a / 2) (by omega) b
 rw [Nat.mod_eq_of_lt (show b*2147483648<18446744073709551616 by omega),Nat.or_comm,show b*2147483648=2 ^ 31*b by omega,<-this]
 omega
theorem zaO{l post:List Nat}{i:Nat}(h:i<l.length):(l++post).getD i 0=l.getD i 0:=by
 simp only [List.getD_eq_getElem?_getD];rw [List.getElem?_append_left h]
theorem Zl{a:Nat}(h:a≠0):0<(digs a).length:=by rw [uq h];simp
theorem vw{a:Nat}(h:a≠0)(p:List Nat):(digs a++p).getD 0 0=a % 4294967296:=by rw [uq h];rfl
theorem uw{a:Nat}:(digs a).length=0↔a=0:=by rw [List.length_eq_zero_iff,xf]
theorem vbN{a b k g:Nat}(ha:a % 2=0)(hb:b % 2=0)(h:Nat.gcd a b*2 ^ k=g):Nat.gcd (a / 2) (b / 2)*2 ^ (k+1)=g:=by
 obtain⟨a',rfl⟩:∃a',a=2*a':=⟨a / 2,by omega⟩
 obtain⟨b',rfl⟩:∃b',b=2*b':=⟨b / 2,by omega⟩
 rw [Nat.gcd_mul_left]at h;rw [Nat.mul_div_cancel_left _ (by omega),Nat.mul_div_cancel_left _ (by omega),Nat.pow_succ,<-h]
 rw [Nat.mul_comm (2 ^ k) 2,<-Nat.mul_assoc,Nat.mul_comm _ 2]
theorem ya4{a b:Nat}(ha:a % 2=0)(hb:b % 2≠0):Nat.gcd (a / 2) b=Nat.gcd a b:=by
 obtain⟨a',rfl⟩:∃a',a=2*a':=⟨a / 2,by omega⟩
 rw [Nat.mul_div_cancel_left _ (by omega)]
 have:Nat.Coprime 2 b:=by
  rw [Nat.coprime_iff_gcd_eq_one,Nat.gcd_rec,show b % 2=1 by omega];rfl
 exact(Nat.Coprime.gcd_mul_left_cancel a' this).symm
theorem Ubj{a b:Nat}(ha:a % 2≠0)(hb:b % 2=0):Nat.gcd a (b / 2)=Nat.gcd a b:=by
 rw [Nat.gcd_comm a,Nat.gcd_comm a];exact ya4 hb ha
theorem xX{a b:Nat}(h:b<=a):Nat.gcd (a-b) b=Nat.gcd a b:=Nat.gcd_sub_self_left h
theorem kbp{k n:Nat}(h:2 ^ k<=n){s:Nat}(hn:n<4294967296 ^ s):k<32*s:=by
 have e:(4294967296:Nat) ^ s=2 ^ (32*s):=by rw [Nat.pow_mul]
 rw [e]at hn;exact(Nat.pow_lt_pow_iff_right (by omega)).1 (Nat.lt_of_le_of_lt h hn)
theorem QI{a b:Nat}:ordN a b<0↔a<b:=by unfold ordN;split <;> (try split) <;> omega
theorem Qbs{x:List Nat}(hx:WL x)(h:x.length≠0):val x<2 ^ (32*(x.length-1)+bln (x.getD (x.length-1) 0)):=by
 have h1:=yW x (x.length-1);have h2:=QC x (x.length-1);rw [show x.length-1+1=x.length by omega,List.drop_length]at h2
 have h3:=uam hx (x.length-1);have h4:=YbF (x.getD (x.length-1) 0);have e:(4294967296:Nat) ^ (x.length-1)=2 ^ (32*(x.length-1)):=by rw [Nat.pow_mul]
 rw [h2,show val []=0 from rfl,Nat.mul_zero,Nat.add_zero]at h1;rw [Nat.pow_add,<-e];generalize 4294967296 ^ (x.length-1)=p at *
 generalize 2 ^ bln (x.getD (x.length-1) 0)=q at *
 have:p*(x.getD (x.length-1) 0+1)<=p*q:=Nat.mul_le_mul_left _ h4;rw [Nat.mul_add,Nat.mul_one]at this;omega
theorem digit(x:List Nat){m:Nat}(hx:WL x):val x / 4294967296 ^ m=x.getD m 0+4294967296*val (x.drop (m+1)):=by
 rw [yW x m,QC,Nat.add_mul_div_left _ _ (Nat.pow_pos (by omega)),Nat.div_eq_of_lt (uam hx m),Nat.zero_add]
theorem UM(i:Nat):(2:Nat) ^ i=4294967296 ^ (i / 32)*2 ^ (i % 32):=by
 have e:(4294967296:Nat) ^ (i / 32)=2 ^ (32*(i / 32)):=by rw [Nat.pow_mul]
 rw [e,<-Nat.pow_add,Nat.div_add_mod]
theorem QbN{x:List Nat}(hx:WL x)(i:Nat):x.getD (i / 32) 0 / 2 ^ (i % 32) % 2=val x / 2 ^ i % 2:=by
 rw [UM i,<-Nat.div_div_eq_div_mul,digit x hx];have hs:i % 32<32:=Nat.mod_lt _ (by omega)
 generalize i % 32=s at *
 generalize val (x.drop (i / 32+1))=r;have e:(4294967296:Nat)=2 ^ s*(2*2 ^ (31-s)):=by
  rw [Nat.mul_left_comm,<-Nat.pow_add,show s+(31-s)=31 by omega]
 rw [e,Nat.mul_assoc,Nat.add_mul_div_left _ _ (Nat.pow_pos (by omega)),Nat.mul_assoc,Nat.add_mul_mod_self_left]
theorem Wat(v i:Nat):v / 2 ^ i=2*(v / 2 ^ (i+1))+v / 2 ^ i % 2:=by
 rw [Nat.pow_succ,<-Nat.div_div_eq_div_mul];omega
theorem vbG{a c:Nat}(hc:c<=1):a*2 % 4294967296 ||| c=a*2 % 4294967296+c:=by
 have:=Nat.two_pow_add_eq_or_of_lt (i:=1) (b:=c) (by omega) (a*2 % 4294967296 / 2)
 rw [show 2 ^ 1*(a*2 % 4294967296 / 2)=a*2 % 4294967296 by omega]at this
 exact this.symm
theorem zbx{a s:Nat}(hs:s<32)(h:a % 2 ^ (s+1)=0):a ||| 2 ^ s=a+2 ^ s:=by
 have:=Nat.two_pow_add_eq_or_of_lt (i:=s+1) (b:=2 ^ s) (Nat.pow_lt_pow_right (by omega) (by omega)) (a / 2 ^ (s+1))
 rw [Nat.mul_div_cancel' (Nat.dvd_of_mod_eq_zero h)]at this;exact this.symm
theorem Ubf{q:List Nat}(hq:WL q){i Q:Nat}(h:val q=Q*2 ^ (i+1)):q.getD (i / 32) 0 % 2 ^ (i % 32+1)=0:=by
 have hs:i % 32<32:=Nat.mod_lt _ (by omega)
 have h1:=digit q hq (m:=i / 32);have e1:(2:Nat) ^ (i+1)=4294967296 ^ (i / 32)*2 ^ (i % 32+1):=by rw [Nat.pow_succ,UM,Nat.pow_succ,Nat.mul_assoc]
 rw [h,e1,Nat.mul_left_comm,Nat.mul_div_cancel_left _ (Nat.pow_pos (by omega))]at h1
 generalize i % 32=s at *
 generalize val (q.drop (i / 32+1))=r at *
 have e2:(4294967296:Nat)=2 ^ (s+1)*2 ^ (31-s):=by
  rw [<-Nat.pow_add,show s+1+(31-s)=32 by omega]
 have:(q.getD (i / 32) 0+4294967296*r) % 2 ^ (s+1)=0:=by rw [<-h1];exact Nat.mul_mod_left _ _
 rw [e2,Nat.mul_assoc,Nat.add_mul_mod_self_left]at this;exact this
theorem kbd{vo p c tr bit x:Nat}(h:vo+p*c=2*tr+bit)(hx:x<4294967296):vo+p*(x*2 % 4294967296+c)+p*4294967296*(x / 2147483648)=2*(tr+p*x)+bit:=by
 have e:x*2 % 4294967296+4294967296*(x / 2147483648)=2*x:=by omega
 have:=congrArg (p * ·) e;simp only [Nat.mul_add]at this ⊢;rw [Nat.mul_assoc p 4294967296];have e2:p*(2*x)=2*(p*x):=by rw [Nat.mul_left_comm]
 omega
theorem xaW{v y i q r bit:Nat}(hy:0<y)(hb:v / 2 ^ i % 2=bit)(hq:q=v / 2 ^ (i+1) / y*2 ^ (i+1))(hr:r=v / 2 ^ (i+1) % y)(h:y<=2*r+bit):q+2 ^ i=v / 2 ^ i / y*2 ^ i/\2*r+bit-y=v / 2 ^ i % y:=by
 have e:=Wat v i;rw [hb]at e;have d:=Nat.div_add_mod (v / 2 ^ (i+1)) y;have hm:=Nat.mod_lt (v / 2 ^ (i+1)) hy;rw [<-hr]at d hm;generalize hQ:v / 2 ^ (i+1) / y=Q at *
 generalize v / 2 ^ (i+1)=X at *
 have hb1:bit<=1:=by omega
 have key:v / 2 ^ i=y*(2*Q+1)+(2*r+bit-y):=by
  have e2:y*(2*Q+1)=2*(y*Q)+y:=by rw [Nat.mul_add,Nat.mul_one,Nat.mul_left_comm y 2 Q]
  rw [e,<-d,e2];omega
 have hlt:2*r+bit-y<y:=by omega
 constructor
 .rw [key,Nat.mul_add_div hy,Nat.div_eq_of_lt hlt,Nat.add_zero,hq,Nat.pow_succ,Nat.add_mul,Nat.one_mul,Nat.mul_comm 2 Q,Nat.mul_assoc,Nat.mul_comm 2]
 .rw [key,Nat.mul_add_mod,Nat.mod_eq_of_lt hlt]
theorem yaL{v y i q r bit:Nat}(hy:0<y)(hb:v / 2 ^ i % 2=bit)(hq:q=v / 2 ^ (i+1) / y*2 ^ (i+1))(hr:r=v / 2 ^ (i+1) % y)(h:2*r+bit<y):q=v / 2 ^ i / y*2 ^ i/\2*r+bit=v / 2 ^ i % y:=by
 have e:=Wat v i;rw [hb]at e;have d:=Nat.div_add_mod (v / 2 ^ (i+1)) y;rw [<-hr]at d;generalize hQ:v / 2 ^ (i+1) / y=Q at *
 generalize v / 2 ^ (i+1)=X at *
 have key:v / 2 ^ i=y*(2*Q)+(2*r+bit):=by
  have e2:y*(2*Q)=2*(y*Q):=by rw [Nat.mul_left_comm y 2 Q]
  rw [e,<-d,e2];omega
 constructor
 .rw [key,Nat.mul_add_div hy,Nat.div_eq_of_lt h,Nat.add_zero,hq,Nat.pow_succ,Nat.mul_comm 2 Q,Nat.mul_assoc,Nat.mul_comm 2]
 .rw [key,Nat.mul_add_mod,Nat.mod_eq_of_lt h]
end Go.Num
namespace Go.Abs
open Go.Num
theorem share4{c1 c2 c3 p d1 d2 d3 q X L:Prop}(h1:c1)(h2:c2)(h3:c3)(k1:d1)(k2:d2)(k3:d3)(hx:p->q->X)(hl:¬p∨¬q->L):c1/\c2/\c3/\(p->d1/\d2/\d3/\(q->X)/\(¬q->L))/\(¬p->L):=
 ⟨h1,h2,h3,λhp=>⟨k1,k2,k3,hx hp,λhq=>hl (.inr hq)⟩,λhp=>hl (.inl hp)⟩
theorem km(K:AV->Prop)(a:Nat):arith K .and .u32 (a:Int) 1=(a<2 ^ IntKind.u32.bits/\intR K .u32 ((a % 2:Nat):Int)):=zaE K .u32 a rfl (by decide)
theorem Qaa{h' : Nat->HB}{k v v' z:Nat}{b:Bool}{es:List (List C)}{l' : List Nat}{r:List (Nat×HB)}(e:es=l'.map wc):okH (mkH ((k,⟨v,some ⟨es,z,b⟩⟩)::r)) h' [(k,⟨v',some ⟨l'.map wc,z,b⟩⟩)]:=by
 subst e;exact qj rfl
theorem XaP{h h' : Nat->HB}{z:Nat}{b:Bool}{es:List (List C)}{l' : List Nat}(e:es=l'.map wc):okB h h' (some ⟨es,z,b⟩) (some ⟨l'.map wc,z,b⟩):=by
 subst e;exact kb rfl
theorem Va9(L:List Nat)(i s:Nat):(L.map wc).set i [C.lit (.int .u32 ((s:Int) % 4294967296))]=(L.set i (s % 4294967296)).map wc:=by
 rw [List.map_set];simp [wc]
def onWx(k:List Nat->Prop)(a:AV):Prop:=∃l,(a=.one (ws l)∨a=.one (.full (l.map wc))∨(a=.one .emp/\l=[]))/\WL l/\k l
@[congr] theorem kbS{k:List Nat->Prop}{a a'}(h:a=a'):onWx k a=onWx k a':=by subst h;rfl
theorem UZ(k:List Nat->Prop)(l:List Nat):onWx k (.one (.slice (l.map wc)))=(WL l/\k l):=by
 refine propext ⟨λ⟨x,h,h1,h2⟩=>?_,λh=>⟨l,.inl rfl,h⟩⟩;rcases h with h | h | h
 .have:=Yy l x h;subst this;exact⟨h1,h2⟩
 .simp at h
 .simp at h
theorem vaY(k:List Nat->Prop)(l:List Nat):onWx k (.one (.full (l.map wc)))=(WL l/\k l):=by
 refine propext ⟨λ⟨x,h,h1,h2⟩=>?_,λh=>⟨l,.inr (.inl rfl),h⟩⟩;rcases h with h | h | h
 .simp [ws]at h
 .have:=XQ (x:=l) (y:=x) (by simpa using h);subst this;exact⟨h1,h2⟩
 .simp at h
theorem Ya3(k:List Nat->Prop):onWx k (.one .emp)=k []:=by
 refine propext ⟨λ⟨x,h,h1,h2⟩=>?_,λh=>⟨[],.inr (.inr ⟨rfl,rfl⟩),zd,h⟩⟩;rcases h with h | h | h
 .simp [ws]at h
 .simp at h
 .obtain⟨_,rfl⟩:=h;exact h2
attribute [go_sem,go_sem ↓] UZ vaY Ya3
theorem ybB{β:Type}{T:List Nat->(β->Prop)->Prop}(h:∀l,GoodT (T l)){a:AV}:GoodT λK=>onWx (λl=>T l K) a:=
 .of λK hx=>by
  obtain⟨l,ha,hw,hk⟩:=hx;rcases ha with ha | ha | ⟨ha,rfl⟩
  .have:(λK=>onWx (λl=>T l K) a)=λK=>WL l/\T l K:=funext λK=>by rw [ha];exact UZ _ l
   rw [this];exact .and λ_=>h l
  .have:(λK=>onWx (λl=>T l K) a)=λK=>WL l/\T l K:=funext λK=>by rw [ha];exact vaY _ l
   rw [this];exact .and λ_=>h l
  .have:(λK=>onWx (λl=>T l K) a)=T []:=funext λK=>by rw [ha];exact Ya3 _
   rw [this];exact h []
def Qx(l:List AV)(K:List (List C)->Prop):Prop:=
 match l with
 | [a]=>onWx (λl=>l.length<=68719476736/\K ((digs (val l)).map wc)) a
 | _=>False
theorem JaN a K:Qx [a] K=(onWx (λl=>l.length<=68719476736/\K ((digs (val l)).map wc)) a):=propext Iff.rfl
@[congr] theorem xb1{K}{l l'}(h:l=l'):Qx l K=Qx l' K:=by subst h;rfl
attribute [go_sem,go_sem ↓] JaN
theorem qaW:Good Qx:=Ya λas=>by
 unfold Qx;split
 .exact(ybB λ_=>(.and λ_=>(.ret _)))
 .exact .of λK hk=>hk.elim
def Qt(l:List AV)(K:AV->Prop):Prop:=
 match l with
 | [a,b]=>onWs (λx=>onWs (λy=>K (.one (.lit (.int .i64 (ordN (val x) (val y)))))) b) a
 | _=>False
theorem jaD a b K:Qt [a,b] K=(onWs (λx=>onWs (λy=>K (.one (.lit (.int .i64 (ordN (val x) (val y)))))) b) a):=propext Iff.rfl
@[congr] theorem vbQ{K}{l l'}(h:l=l'):Qt l K=Qt l' K:=by subst h;rfl
attribute [go_sem,go_sem ↓] jaD
theorem YaH:Good Qt:=Ya λas=>by
 unfold Qt;split
 .exact(vg λ_=>(vg λ_=>(.ret _)))
 .exact .of λK hk=>hk.elim
def yx(l:List AV)(K:AV->Prop):Prop:=
 match l with
 | [a,b]=>onWs (λx=>onWs (λy=>x.length<=17179869184/\y.length<=17179869184/\K (.one (.slice ((digs (Nat.gcd (val x) (val y))).map wc)))) b) a
 | _=>False
theorem waw a b K:yx [a,b] K=(onWs (λx=>onWs (λy=>x.length<=17179869184/\y.length<=17179869184/\K (.one (.slice ((digs (Nat.gcd (val x) (val y))).map wc)))) b) a):=propext Iff.rfl
@[congr] theorem xbO{K}{l l'}(h:l=l'):yx l K=yx l' K:=by subst h;rfl
attribute [go_sem,go_sem ↓] waw
theorem JaG:Good yx:=Ya λas=>by
 unfold yx;split
 .exact(vg λ_=>(vg λ_=>(.and λ_=>(.and λ_=>(.ret _)))))
 .exact .of λK hk=>hk.elim
def Wr(l:List AV)(K:AV->Prop):Prop:=
 match l with
 | [a]=>onWs (λx=>x.length<=68719476736/\K (.one (.lit (.int .i64 ((if x.length=0 then 0 else 32*(x.length-1)+bln (x.getD (x.length-1) 0):Nat):Int))))) a
 | _=>False
theorem xab a K:Wr [a] K=(onWs (λx=>x.length<=68719476736/\K (.one (.lit (.int .i64 ((if x.length=0 then 0 else 32*(x.length-1)+bln (x.getD (x.length-1) 0):Nat):Int))))) a):=propext Iff.rfl
@[congr] theorem ubG{K}{l l'}(h:l=l'):Wr l K=Wr l' K:=by subst h;rfl
attribute [go_sem,go_sem ↓] xab
theorem Xam:Good Wr:=Ya λas=>by
 unfold Wr;split
 .exact(vg λ_=>(.and λ_=>(.ret _)))
 .exact .of λK hk=>hk.elim
def zG(l:List AV)(K:AV->Prop):Prop:=
 match l with
 | [a,b]=>onW (λv=>onW (λw=>zs (zv v)<=17179869184/\zs (zv w)<=17179869184/\K (.agg [zb (zcan (zv v-zv w)),zm (zcan (zv v-zv w))])) b) a
 | _=>False
theorem XaT a b K:zG [a,b] K=(onW (λv=>onW (λw=>zs (zv v)<=17179869184/\zs (zv w)<=17179869184/\K (.agg [zb (zcan (zv v-zv w)),zm (zcan (zv v-zv w))])) b) a):=propext Iff.rfl
@[congr] theorem WbV{K}{l l'}(h:l=l'):zG l K=zG l' K:=by subst h;rfl
attribute [go_sem,go_sem ↓] XaT
theorem Xa7:Good zG:=Ya λas=>by
 unfold zG;split
 .exact(Zo λ_=>(Zo λ_=>(.and λ_=>(.and λ_=>(.ret _)))))
 .exact .of λK hk=>hk.elim
def Xq(l:List AV)(K:AV->Prop):Prop:=
 match l with
 | [a,b]=>onW (λv=>onW (λw=>zs (zv v)<=17179869184/\zs (zv w)<=17179869184/\zs (zv v-zv w)<=17179869184/\K (.one (.lit (.int .i64 (ordI (zv v) (zv w)))))) b) a
 | _=>False
theorem xad a b K:Xq [a,b] K=(onW (λv=>onW (λw=>zs (zv v)<=17179869184/\zs (zv w)<=17179869184/\zs (zv v-zv w)<=17179869184/\K (.one (.lit (.int .i64 (ordI (zv v) (zv w)))))) b) a):=propext Iff.rfl
@[congr] theorem UbK{K}{l l'}(h:l=l'):Xq l K=Xq l' K:=by subst h;rfl
attribute [go_sem,go_sem ↓] xad
theorem Zam:Good Xq:=Ya λas=>by
 unfold Xq;split
 .exact(Zo λ_=>(Zo λ_=>(.and λ_=>(.and λ_=>(.and λ_=>(.ret _))))))
 .exact .of λK hk=>hk.elim
def yq(l:List AV)(K:AV->Prop):Prop:=
 match l with
 | [a,b]=>onW (λv=>onW (λw=>zs (zv v)<=17179869184/\zs (zv w)<=17179869184/\zv w≠0/\K (.tup [.agg [zb (zcan (zv v / zv w)),zm (zcan (zv v / zv w))],.agg [zb (zcan (zv v % zv w)),zm (zcan (zv v % zv w))],.one (.lit (.int .i64 0))])) b) a
 | _=>False
theorem jab a b K:yq [a,b] K=(onW (λv=>onW (λw=>zs (zv v)<=17179869184/\zs (zv w)<=17179869184/\zv w≠0/\K (.tup [.agg [zb (zcan (zv v / zv w)),zm (zcan (zv v / zv w))],.agg [zb (zcan (zv v % zv w)),zm (zcan (zv v % zv w))],.one (.lit (.int .i64 0))])) b) a):=propext Iff.rfl
@[congr] theorem zbJ{K}{l l'}(h:l=l'):yq l K=yq l' K:=by subst h;rfl
attribute [go_sem,go_sem ↓] jab
theorem Jan:Good yq:=Ya λas=>by
 unfold yq;split
 .exact(Zo λ_=>(Zo λ_=>(.and λ_=>(.and λ_=>(.and λ_=>(.ret _))))))
 .exact .of λK hk=>hk.elim
def Z9(d:Option Nat)(args:List AV)(h:Nat->HB)(K:AV->(Nat->HB)->Prop):Prop:=
 match args with
 | [.one (.own r ver 1 0 len)]=>∃l post,len=l.length/\h r=⟨ver,some ⟨(l++post).map wc,1,true⟩⟩/\WL l/\len<=68719476736/\
   ∀post',K (.one (.own r ver 1 0 (digs (val l)).length)) (upd h r ⟨ver,some ⟨(digs (val l)++post').map wc,1,true⟩⟩)
 | _=>False
@[congr] theorem ub2 {d:Option Nat} {l l' : List AV} {h h' : Nat->HB} {K:AV->(Nat->HB)->Prop} (e1:l=l') (e2:h=h'):Z9 d l h K=Z9 d l' h' K:=by subst e1;subst e2;rfl
def uo(d:Option Nat)(args:List AV)(h:Nat->HB)(K:AV->(Nat->HB)->Prop):Prop:=
 match args with
 | [.one (.own r ver 1 0 len)]=>∃l post,len=l.length/\h r=⟨ver,some ⟨(l++post).map wc,1,true⟩⟩/\WL l/\len<=68719476736/\
   ∀post',K (.one (.own r ver 1 0 (digs (val l / 2)).length)) (upd h r ⟨ver,some ⟨(digs (val l / 2)++post').map wc,1,true⟩⟩)
 | _=>False
@[congr] theorem QbQ {d:Option Nat} {l l' : List AV} {h h' : Nat->HB} {K:AV->(Nat->HB)->Prop} (e1:l=l') (e2:h=h'):uo d l h K=uo d l' h' K:=by subst e1;subst e2;rfl
def kw(d:Option Nat)(args:List AV)(h:Nat->HB)(K:AV->(Nat->HB)->Prop):Prop:=
 match args with
 | [.one (.own r ver 1 0 len),.one (.own r2 ver2 1 0 len2)]=>∃l post y posty,r≠r2/\len=l.length/\h r=⟨ver,some ⟨(l++post).map wc,1,true⟩⟩/\WL l/\len<=68719476736/\
   len2=y.length/\h r2=⟨ver2,some ⟨(y++posty).map wc,1,true⟩⟩/\WL y/\val y<=val l/\
   K (.tup []) (upd (upd h r2 ⟨ver2,some ⟨(y++posty).map wc,1,true⟩⟩) r ⟨ver,some ⟨(dig l.length (val l-val y)++post).map wc,1,true⟩⟩)
 | [.one (.own r ver 1 0 len),b]=>onWs (λy=>∃l post,len=l.length/\h r=⟨ver,some ⟨(l++post).map wc,1,true⟩⟩/\WL l/\len<=68719476736/\val y<=val l/\
   K (.tup []) (upd h r ⟨ver,some ⟨(dig l.length (val l-val y)++post).map wc,1,true⟩⟩)) b
 | _=>False
@[congr] theorem VbU {d:Option Nat} {l l' : List AV} {h h' : Nat->HB} {K:AV->(Nat->HB)->Prop} (e1:l=l') (e2:h=h'):kw d l h K=kw d l' h' K:=by subst e1;subst e2;rfl
end Go.Abs
end
section
namespace Go.Abs
open Go.Num
variable {P:Program} {Γ:Nat->Spec}
def Yg(f0 f1 f2 f3:Nat):AC:=(.seq (.ops false [.u 1 (.box 3 (.t 0)),.m 2 .fa])
 (.fg [1] (.seq (.seq (.ops false [.u 3 (.fa 1 (.t 1)),.u 4 (.ld none 1 false (.t 3)),.u 5 (.len (.t 4)),.u 6 (.bin .eql (.t 5) (.i 0)),.m 7 (.t 6),.w 8 7 true (.fa 2 (.t 1)),.w 9 7 true (.ld none 1 false (.t 8)),.w 10 7 true (.len (.t 9)),.w 11 7 true (.bin .eql (.t 10) (.i 0)),.u 12 (.pick (.t 7) (.t 11) .fa)])
 (.fg [1,12] (.cond (.t 12) (.seq (.ops false [.u 13 (.fa 0 (.t 1)),.u 14 (.ld none 1 false (.t 13)),.u 15 (.un .not (.t 14)),.m 2 (.t 15)])
 .ret) .skip)))
 (.fg [1] (.seq (.ops false [.u 16 (.fa 1 (.t 1)),.u 17 (.ld none 1 false (.t 16)),.u 18 (.call f0 [(.t 17)]),.m 19 (.t 18),.w 20 19 true (.fa 2 (.t 1)),.w 21 19 true (.ld none 1 false (.t 20)),.w 22 19 true (.call f0 [(.t 21)]),.u 23 (.pick (.t 19) (.t 22) .fa),.m 24 (.t 23),.w 25 24 true (.fa 1 (.t 1)),.w 26 24 true (.ld none 1 false (.t 25)),.w 27 24 true (.build [.z [(.lit (.bool false))],.x 1 (.t 26)]),.w 28 24 true (.fa 2 (.t 1)),.w 29 24 true (.ld none 1 false (.t 28)),.w 30 24 true (.build [.z [(.lit (.bool false))],.x 1 (.t 29)]),.w 31 24 true (.call f1 [(.t 27),(.t 30)]),.w 32 24 true (.call f2 []),.w 33 24 true (.call f3 [(.t 31),(.t 32)]),.w 34 24 true (.bin .eql (.t 33) (.i 0)),.u 35 (.pick (.t 24) (.t 34) .fa),.m 2 (.t 35)])
 .ret)))))
def jh(f0 f1:Nat):AC:=(.seq (.ops false [.u 1 (.box 3 (.t 0)),.u 2 (.alloc [(.lit (.bool false)),.emp]),.u 3 (.alloc [(.lit (.bool false)),.emp])])
 (.fg [1,2,3] (.seq (.seq (.ops false [.u 4 (.ld none 3 true (.t 1)),.u 5 (.call f0 [(.t 4)]),.u 6 (.un .not (.t 5)),.m 7 (.t 6),.w 8 7 false (.fa 1 (.t 1)),.w 9 7 false (.ld none 1 false (.t 8)),.w 10 7 false (.len (.t 9)),.w 11 7 false (.bin .eql (.t 10) (.i 0)),.u 12 (.pick (.t 7) .tr (.t 11))])
 (.fg [1,2,3,12] (.cond (.t 12) (.seq (.ops false [.u 13 (.build [.z [(.lit (.bool false)),.emp]]),.u 14 (.call f1 []),.n (.st none 2 (.t 2) (.t 13)),.n (.st none 2 (.t 3) (.t 14))])
 .ret) .skip)))
 (.fg [1,2,3] (.seq (.ops true [.u 15 (.fa 0 (.t 1)),.u 16 (.ld (some 1) 1 false (.t 15)),.u 17 (.fa 1 (.t 1)),.u 18 (.ld (some 1) 1 false (.t 17)),.u 19 (.build [.x 1 (.t 16),.x 1 (.t 18)]),.u 20 (.fa 2 (.t 1)),.u 21 (.ld (some 1) 1 false (.t 20)),.u 22 (.build [.z [(.lit (.bool false))],.x 1 (.t 21)]),.n (.st (some 2) 2 (.t 2) (.t 19)),.n (.st (some 3) 2 (.t 3) (.t 22))])
 .ret)))))
def uh(f0 f1 f2 f3:Nat):AC:=(.seq (.ops false [.u 2 (.box 2 (.t 0)),.u 3 (.box 2 (.t 1)),.u 4 (.alloc [(.lit (.bool false)),.emp,.emp])])
 (.fg [2,3,4] (.seq (.seq (.ops false [.u 12 (.ld none 2 true (.t 2)),.u 13 (.call f0 [(.t 12)]),.u 14 (.bin .eql (.t 13) (.i 0))])
 (.fg [2,3,4,14] (.cond (.t 14) (.seq (.ops false [.u 15 (.build [.z [(.lit (.bool false)),.emp,.emp]]),.n (.st none 3 (.t 4) (.t 15))])
 .ret) .skip)))
 (.fg [2,3,4] (.seq (.seq (.ops false [.u 16 (.ld none 2 true (.t 3)),.u 17 (.call f0 [(.t 16)]),.u 18 (.bin .lss (.t 17) (.i 0))])
 (.fg [2,3,4,18] (.cond (.t 18) (.ops true [.u 19 (.ld none 2 true (.t 2)),.u 20 (.call f1 [(.t 19)]),.u 21 (.ld none 2 true (.t 3)),.u 22 (.call f1 [(.t 21)]),.n (.st none 2 (.t 2) (.t 20)),.n (.st none 2 (.t 3) (.t 22))]) .skip)))
 (.fg [2,3,4] (.seq (.ops false [.u 23 (.ld none 2 true (.t 2)),.u 24 (.ld none 2 true (.t 3)),.u 25 (.call f2 [(.t 23),(.t 24)]),.u 5 (.alloc [(.lit (.bool false)),.emp]),.n (.st none 2 (.t 5) (.t 25))])
 (.fg [2,3,4,5] (.seq (.ops false [.u 27 (.ld none 2 true (.t 2)),.u 28 (.ld none 2 true (.t 5)),.u 29 (.call f3 [(.t 27),(.t 28)]),.m 26 (.t 29),.u 30 (.ext 0 (.t 26)),.u 31 (.ext 1 (.t 26)),.u 32 (.ext 2 (.t 26)),.u 6 (.alloc [(.lit (.bool false)),.emp]),.u 7 (.alloc [(.lit (.bool false)),.emp]),.n (.st none 2 (.t 6) (.t 30)),.n (.st none 2 (.t 7) (.t 31)),.m 8 (.t 32)])
 (.fg [3,4,5,6] (.seq (.ops false [.u 34 (.ld none 2 true (.t 3)),.u 35 (.ld none 2 true (.t 5)),.u 36 (.call f3 [(.t 34),(.t 35)]),.m 33 (.t 36),.u 37 (.ext 0 (.t 33)),.u 38 (.ext 1 (.t 33)),.u 39 (.ext 2 (.t 33)),.u 9 (.alloc [(.lit (.bool false)),.emp]),.u 10 (.alloc [(.lit (.bool false)),.emp]),.n (.st none 2 (.t 9) (.t 37)),.n (.st none 2 (.t 10) (.t 38)),.m 11 (.t 39)])
 (.fg [4,6,9] (.seq (.ops false [.u 40 (.fa 0 (.t 6)),.u 41 (.ld none 1 false (.t 40)),.u 42 (.fa 1 (.t 6)),.u 43 (.ld none 1 false (.t 42)),.u 44 (.fa 1 (.t 9)),.u 45 (.ld none 1 false (.t 44)),.u 46 (.build [.x 1 (.t 41),.x 1 (.t 43),.x 1 (.t 45)]),.n (.st none 3 (.t 4) (.t 46))])
 .ret)))))))))))))
def Wg:AC:=(.seq (.ops false [.m 2 .fa])
 (.fg [0] (.seq (.ops false [.m 3 (.t 0),.u 4 (.len (.t 3)),.u 5 (.bin .gtr (.t 4) (.i 0)),.m 6 (.t 5),.w 7 6 true (.mv (.t 0)),.w 8 6 true (.mv (.t 0)),.w 9 6 true (.len (.t 8)),.w 10 6 true (.bin .sub (.t 9) (.i 1)),.w 11 6 true (.idx 1 (.t 7) (.t 10)),.w 12 6 true (.ld none 1 false (.t 11)),.w 13 6 true (.bin .neq (.t 12) (.c (.one (.lit (.int .u32 0))))),.u 14 (.pick (.t 6) (.t 13) .fa),.m 2 (.t 14)])
 .ret)))
theorem QM{n d N D:Int}{g:Nat}(hd:d≠0)(hn:n≠0)(hN:N=d.sign*n)(hD:0<=D)(e2:D.natAbs=d.natAbs)(eg:g=Int.gcd n d) :
  AV.agg [zb (zcan (N / (g:Int))),zm (zcan (N / (g:Int))),zm (zcan (D / (g:Int)))]=.agg [cb (rcan (Rat.divInt n d)),cn (rcan (Rat.divInt n d)),cd (rcan (Rat.divInt n d))]:=by
 obtain⟨D',rfl⟩:=Int.eq_ofNat_of_zero_le hD;simp only [Int.natAbs_natCast]at e2;subst e2 eg hN;have hg:0<Int.gcd n d:=Int.gcd_pos_of_ne_zero_left _ hn;rw [zaH,VaI,UaD,ZK hd hn,yaH,yaH,Ybq];have hdv:((Int.gcd n d:Nat):Int) ∣ d.sign*n:=Int.dvd_mul_of_dvd_right (Int.gcd_dvd_left _ _);obtain⟨k,hk⟩:=hdv;have hs:(d.sign*n).natAbs=n.natAbs:=by
  rw [Int.natAbs_mul,Int.natAbs_sign_of_ne_zero hd,Nat.one_mul]
 have e:(d.sign*n / ((Int.gcd n d:Nat):Int))=k:=by rw [hk,Int.mul_ediv_cancel_left _ (by omega)]
 rw [e,<-Int.natCast_ediv];simp only [zcan,Int.natAbs_natCast];have hk2:k.natAbs=n.natAbs / Int.gcd n d:=by
  rw [<-hs,hk,Int.natAbs_mul];simp only [Int.natAbs_natCast];rw [Nat.mul_div_cancel_left _ hg]
 have:decide (k<0)=decide (d.sign*n<0):=by
  rw [decide_eq_decide,hk];constructor
  .intro h;exact Int.mul_neg_of_pos_of_neg (by omega) h
  .intro h;rcases Int.lt_or_le k 0 with h' | h'
   .exact h'
   .have:=Int.mul_nonneg (show(0:Int)<=((Int.gcd n d:Nat):Int) by omega) h';omega
 rw [hk2,this]
theorem kO(hΓ:Holds P Γ){f:Nat}(hc:check P f=some (15,Wg.strip,[.tmp 2])):Sound P f (.dat true qs):=by
 refine Wa hc uai hΓ (λargs K hcl hfi hG=>?_);match args,hG with
 | [a],hG=>
  obtain⟨l,rfl,hl,hK⟩:=hG;refine⟨by simp,?_⟩
  simp only [go_sem,Wg];intro _;refine⟨λh _=>⟨by omega,by omega,by omega,?_⟩,λh=>?_⟩
  .have hne:l≠[]:=λe=>by rw [e]at h;simp at h
   rw [show((l.length:Int)-1).toNat=l.length-1 by omega]
   have e:(!decide (l.getD (l.length-1) 0=0))=decide (l≠[]/\NZ l):=by
    rw [<-decide_not,decide_eq_decide];unfold NZ;rw [List.getLast?_eq_getElem?,List.getElem?_eq_getElem (by omega),List.getD_eq_getElem?_getD,List.getElem?_eq_getElem (by omega)]
    simp [hne]
   rw [e];exact hK
  .have hne:l=[]:=List.eq_nil_of_length_eq_zero (by omega)
   rw [decide_eq_false (λe=>e.1 hne)]at hK;exact hK
theorem wO(hΓ:Holds P Γ){f fv fg fo fc:Nat}(hv:Γ fv=.dat true qs)(hg:Γ fg=.dat false Xt)(ho:Γ fo=.dat false Vo)(hc' : Γ fc=.dat true Xq)(hc:check P f=some (36,(Yg fv fg fo fc).strip,[.tmp 2])):Sound P f (.dat true kd):=by
 refine Wa hc VM hΓ (λargs K hcl hfi hG=>?_);match args,hG with
 | [a],hG=>
  obtain⟨x,rfl,hx,hl,hK⟩:=hG;refine⟨by simp,?_⟩
  simp only [go_sem,Yg,hv,hg,ho,hc',zaH,VaI,UaD];have hl1:x.2.1.length<=4294967296:=Nat.le_trans (Nat.le_max_left _ _) hl;have hl2:x.2.2.length<=4294967296:=Nat.le_trans (Nat.le_max_right _ _) hl;have e0:∀{l:List Nat},¬l.length=0->l≠[]:=λh e=>h (by rw [e];rfl)
  have key:¬(x.2.1=[]/\x.2.2=[])->WL x.2.1/\(x.2.1≠[]/\NZ x.2.1->WL x.2.2/\(x.2.2≠[]/\NZ x.2.2->WL x.2.1/\WL x.2.2/\zs (zv (false,x.2.1))<=17179869184/\zs (zv (false,x.2.2))<=17179869184/\
    zs (((zv (false,x.2.1)).gcd (zv (false,x.2.2)):Nat):Int)<=17179869184/\zs 1<=17179869184/\zs ((((zv (false,x.2.1)).gcd (zv (false,x.2.2)):Nat):Int)-1)<=17179869184/\
    K (AV.one (C.lit (Value.bool (decide (ordI (((zv (false,x.2.1)).gcd (zv (false,x.2.2)):Nat):Int) 1=0))))))/\(¬(x.2.2≠[]/\NZ x.2.2)->K (AV.one (C.lit (Value.bool false)))))/\(¬(x.2.1≠[]/\NZ x.2.1)->K (AV.one (C.lit (Value.bool false)))):=by
   intro hnd;unfold vldR at hK;rw [if_neg hnd]at hK;refine⟨hx.1,λh1=>⟨hx.2,λh2=>?_,λh2=>?_⟩,λh1=>?_⟩
   .have s2:zs (zv (false,x.2.2))<=4294967296:=by rw [zv_f h2.2,Jaa,Je hx.2 h2.2];exact hl2
    have hne:zv (false,x.2.2)≠0:=by
     rw [zv_f h2.2];have:=Zd h2.2 h2.1;omega
    have s3:=YaL (v:=zv (false,x.2.1)) hne s2;have s4:zs 1<=2:=Xo (by decide)
    have s5:=vL ((((zv (false,x.2.1)).gcd (zv (false,x.2.2)):Nat):Int)) (-1);rw [Vaa,<-Int.sub_eq_add_neg]at s5;refine⟨hx.1,hx.2,?_,by omega,by omega,by omega,by omega,?_⟩
    .rw [zv_f h1.2,Jaa,Je hx.1 h1.2];omega
    .rw [zv_f h1.2,zv_f h2.2];have e:decide (ordI (((((val x.2.1:Nat):Int)).gcd ((val x.2.2:Nat):Int):Nat):Int) 1=0)=decide (x.2.1≠[]/\x.2.2≠[]/\NZ x.2.1/\NZ x.2.2/\Nat.gcd (val x.2.1) (val x.2.2)=1):=by
      rw [decide_eq_decide,Z1,Int.gcd_natCast_natCast];constructor
      .intro h;exact⟨h1.1,h2.1,h1.2,h2.2,by omega⟩
      .rintro⟨_,_,_,_,h⟩;omega
     rw [e];exact hK
   .rw [decide_eq_false (λh=>h2 ⟨h.2.1,h.2.2.2.1⟩)]at hK;exact hK
   .rw [decide_eq_false (λh=>h1 ⟨h.1,h.2.2.1⟩)]at hK;exact hK
  refine λ_=>⟨λhn _=>⟨λhd=>?_,λhd=>key (λh=>e0 hd h.2)⟩,λhn=>key (λh=>e0 hn h.1)⟩;unfold vldR at hK;rw [if_pos ⟨List.eq_nil_of_length_eq_zero hn,List.eq_nil_of_length_eq_zero hd⟩]at hK;exact hK
theorem vO(hΓ:Holds P Γ){f fv fo:Nat}(hv:Γ fv=.dat true kd)(ho:Γ fo=.dat false Vo)(hc:check P f=some (23,(jh fv fo).strip,[.cell 2 2 true,.cell 3 2 true])):Sound P f (.dat false Ye):=by
 refine Wa hc QJ hΓ (λargs K hcl hfi hG=>?_);match args,hG with
 | [a],hG=>
  obtain⟨x,rfl,hx,hl,hK⟩:=hG;refine⟨by simp,?_⟩
  simp only [go_sem,jh,hv,ho,zaH,VaI,UaD];have hl1:x.2.1.length<=4294967296:=Nat.le_trans (Nat.le_max_left _ _) hl;have hl2:x.2.2.length<=4294967296:=Nat.le_trans (Nat.le_max_right _ _) hl;have e0:(zcan 0)=(false,[]):=by simp [zcan,yb]
  have h0:rv x=0->K (AV.tup [AV.agg [C.lit (Value.bool false),C.slice []],AV.agg [zb (zcan 1),zm (zcan 1)]]):=by
   intro h;rw [h]at hK;have e1:((0:Rat).num)=0:=rfl;have e2:((0:Rat).den:Int)=1:=rfl;rw [e1,e2,e0]at hK;exact hK
  refine⟨hx,hl,λhv _=>⟨λhn=>h0 ?_,λhn=>?_⟩,λhv=>h0 (Xag hv)⟩
  .unfold rv;rw [if_pos hv,List.eq_nil_of_length_eq_zero hn];simp [val,sg]
  .obtain⟨p1,p2,p3,p4,p5,p6⟩:=XX hx hv (λe=>hn (by rw [e];rfl))
   have hn0:=Zd p4 (λe=>hn (by rw [e];rfl))
   rw [p1,p2]at hK;have e1:zcan (sg x.1 (val x.2.1))=(x.1,x.2.1):=by
    rw [<-vP,Je hx.1 p4];have:decide (0<x.2.1.length)=true:=by simp only [decide_eq_true_eq];omega
    rw [this,Bool.and_true]
   have e2:zcan ((val x.2.2:Nat):Int)=(false,x.2.2):=by
    have:=vP false (val x.2.2);rw [Je hx.2 p5,Bool.false_and]at this;exact this.symm
   rw [e1,e2]at hK;exact hK
theorem QW(hΓ:Holds P Γ){f fs fn fg fd:Nat}(hs:Γ fs=.dat true Zh)(hn:Γ fn=.dat false yu)(hg:Γ fg=.dat false Xt)(hd:Γ fd=.dat false yq)(hc:check P f=some (47,(uh fs fn fg fd).strip,[.cell 4 3 true])):Sound P f (.dat false Yj):=by
 refine Wa hc yR hΓ (λargs K hcl hfi hG=>?_);match args,hG with
 | [a,b],hG=>
  obtain⟨v,rfl,hv,w,rfl,hw,hz,hz',h0,hK⟩:=hG;refine⟨by simp,?_⟩
  simp only [go_sem,uh,hs,hn,hg,hd,hv,hw];generalize zv v=n at *
  generalize zv w=d at *
  have hd0:=h0;refine⟨λh=>?_,λh=>?_⟩
  .rw [Int.sign_eq_zero_iff_zero.1 h,Rat.zero_divInt,Yb]at hK;exact hK
  have hn0:n≠0:=λe=>h (by rw [e];rfl)
  have hg0:((Int.gcd n d:Nat):Int)≠0:=by
   have:=Int.gcd_pos_of_ne_zero_left d hn0;omega
  have hgz:zs ((Int.gcd n d:Nat):Int)<=17179869184:=YaL hd0 hz';simp only [Int.gcd_neg,Int.neg_gcd,Vaa,kaW];refine⟨λhdn=>⟨by omega,by omega,hz,hz',hz,hgz,hg0,hz',hgz,hg0,?_⟩,λhdn=>⟨hz,hz',hz,hgz,hg0,hz',hgz,hg0,?_⟩⟩
  .rw [QM hd0 hn0 (by rw [Int.sign_eq_neg_one_of_neg hdn];omega) (by omega) (by omega) rfl];exact hK
  .rw [QM hd0 hn0 (by rw [Int.sign_eq_one_of_pos (by omega)];omega) (by omega) (by omega) rfl];exact hK
end Go.Abs
end
section
namespace Go.Num
open Go.Abs
theorem rz_0:rz 0=0:=by unfold rz;rw [Yb];rfl
theorem rz_1:rz 1<=2:=by
 have:=Uat 1;have h1:zs 1<=2:=Xo (by decide)
 have e:((1:Int):Rat)=1:=rfl;rw [e]at this;omega
theorem qc(p q:Rat):rz (p*q)<=rz p+rz q+2:=by
 rw [<-X8];have n1:=zO p;have n2:=zO q;have d1:=YK p;have d2:=YK q;have m1:=jt p.num q.num;have m2:=jt (p.den:Int) (q.den:Int);refine jJ (by exact Int.mul_ne_zero (JA _) (JA _)) (by omega) (by omega)
theorem qae{p q:Rat}(hq:q≠0):Rat.divInt (p.num*q.den) (p.den*q.num)=p / q:=by
 have hn:q.num≠0:=WaR hq;have e1:(p.num:Rat) / (p.den:Rat)=p:=by have:=Rat.num_divInt_den p;rw [Rat.divInt_eq_div]at this;exact this
 have e2:(q.num:Rat) / (q.den:Rat)=q:=by have:=Rat.num_divInt_den q;rw [Rat.divInt_eq_div]at this;exact this
 have d1:(p.den:Rat)≠0:=by exact_mod_cast p.den_nz
 have d2:(q.den:Rat)≠0:=by exact_mod_cast q.den_nz
 have d3:(q.num:Rat)≠0:=by exact_mod_cast hn
 rw [Rat.divInt_eq_div];simp only [Rat.intCast_mul,Rat.intCast_natCast];have f1:(p.num:Rat)=p*(p.den:Rat):=by grind
 have f2:(q.num:Rat)=q*(q.den:Rat):=by grind
 rw [f1,f2];grind
theorem qS(p q:Rat):rz (p / q)<=rz p+rz q+2:=by
 by_cases hq:q=0
 .subst hq;rw [Rat.div_def,Rat.inv_zero,Rat.mul_zero,rz_0];omega
 .rw [<-qae hq];have n1:=zO p;have n2:=zO q;have d1:=YK p;have d2:=YK q;have m1:=jt p.num (q.den:Int);have m2:=jt (p.den:Int) q.num;refine jJ (by exact Int.mul_ne_zero (JA _) (WaR hq)) (by omega) (by omega)
theorem VbG(p q:Rat):Rat.divInt (p.num*q.den) (p.den*q.num)=p / q:=by
 by_cases hq:q=0
 .subst hq;rw [show(0:Rat).num=0 from rfl,Int.mul_zero,Rat.divInt_zero,Rat.div_def,Rat.inv_zero,Rat.mul_zero]
 .exact qae hq
end Go.Num
namespace Go.Abs
open Go.Num
variable {P:Program} {Γ:Nat->Spec}
def rQ(q:Rat):AV:=.agg [cb (rcan q),cn (rcan q),cd (rcan q)]
theorem wZ(q:Rat):rQ q=.agg [cb (rcan q),cn (rcan q),cd (rcan q)]:=eq_of_heq (HEq.refl _)
attribute [go_sem,go_sem ↓] wZ
def vl(l:List AV)(K:AV->Prop):Prop:=
 match l with
 | [a,b]=>onR (λx=>onR (λy=>rl x<=4294967296/\rl y<=4294967296/\K (rQ (rv x*rv y))) b) a
 | _=>False
theorem WaU a b K:vl [a,b] K=(onR (λx=>onR (λy=>rl x<=4294967296/\rl y<=4294967296/\K (rQ (rv x*rv y))) b) a):=propext Iff.rfl
@[congr] theorem ubX{K}{l l'}(h:l=l'):vl l K=vl l' K:=by subst h;rfl
attribute [go_sem,go_sem ↓] WaU
theorem ka3:Good vl:=Ya λas=>by
 unfold vl;split
 .exact(Wm λ_=>(Wm λ_=>(.and λ_=>(.and λ_=>(.ret _)))))
 .exact .of λK hk=>hk.elim
def Zs(tE:Nat)(l:List AV)(K:AV->Prop):Prop:=
 match l with
 | [a,b]=>onW (λv=>onW (λw=>zs (zv v)<=17179869184/\zs (zv w)<=17179869184/\K (.tup [rQ (Rat.divInt (zv v) (zv w)),errV tE (if zv w=0 then 8 else 0)])) b) a
 | _=>False
theorem W5 tE a b K:Zs tE [a,b] K=(onW (λv=>onW (λw=>zs (zv v)<=17179869184/\zs (zv w)<=17179869184/\K (.tup [rQ (Rat.divInt (zv v) (zv w)),errV tE (if zv w=0 then 8 else 0)])) b) a):=propext Iff.rfl
@[congr] theorem XbC tE{K}{l l'}(h:l=l'):Zs tE l K=Zs tE l' K:=by subst h;rfl
attribute [go_sem,go_sem ↓] W5
theorem Vam(tE:Nat):Good (Zs tE):=Ya λas=>by
 unfold Zs;split
 .exact(Zo λ_=>(Zo λ_=>(.and λ_=>(.and λ_=>(.ret _)))))
 .exact .of λK hk=>hk.elim
def jv(tE:Nat)(l:List AV)(K:AV->Prop):Prop:=
 match l with
 | [a,b]=>onR (λx=>onR (λy=>rl x<=4294967296/\rl y<=4294967296/\K (.tup [rQ (rv x / rv y),errV tE (if rv y=0 then 8 else 0)])) b) a
 | _=>False
theorem Xar tE a b K:jv tE [a,b] K=(onR (λx=>onR (λy=>rl x<=4294967296/\rl y<=4294967296/\K (.tup [rQ (rv x / rv y),errV tE (if rv y=0 then 8 else 0)])) b) a):=propext Iff.rfl
@[congr] theorem VbQ tE{K}{l l'}(h:l=l'):jv tE l K=jv tE l' K:=by subst h;rfl
attribute [go_sem,go_sem ↓] Xar
theorem kaE(tE:Nat):Good (jv tE):=Ya λas=>by
 unfold jv;split
 .exact(Wm λ_=>(Wm λ_=>(.and λ_=>(.and λ_=>(.ret _)))))
 .exact .of λK hk=>hk.elim
def kX(l:List AV)(K:AV->Prop):Prop:=
 match l with
 | [a,b]=>onW (λv=>onW (λw=>zs (zv v)<=17179869184/\zs (zv w)<=17179869184/\K (.tup [rQ (Rat.divInt (zv v) (zv w)),.one (.lit (.int .i64 (if zv w=0 then 8 else 0)))])) b) a
 | _=>False
theorem X7 a b K:kX [a,b] K=(onW (λv=>onW (λw=>zs (zv v)<=17179869184/\zs (zv w)<=17179869184/\K (.tup [rQ (Rat.divInt (zv v) (zv w)),.one (.lit (.int .i64 (if zv w=0 then 8 else 0)))])) b) a):=propext Iff.rfl
@[congr] theorem YbE{K}{l l'}(h:l=l'):kX l K=kX l' K:=by subst h;rfl
attribute [go_sem,go_sem ↓] X7
def yah(l:List AV)(K:AV->Prop):Prop:=
 match l with
 | [a,b]=>onR (λx=>onR (λy=>rl x<=1073741824/\rl y<=1073741824/\K (.tup [rQ (rv x / rv y),.one (.lit (.int .i64 (if rv y=0 then 8 else 0)))])) b) a
 | _=>False
theorem JaC a b K:yah [a,b] K=(onR (λx=>onR (λy=>rl x<=1073741824/\rl y<=1073741824/\K (.tup [rQ (rv x / rv y),.one (.lit (.int .i64 (if rv y=0 then 8 else 0)))])) b) a):=propext Iff.rfl
@[congr] theorem YbQ{K}{l l'}(h:l=l'):yah l K=yah l' K:=by subst h;rfl
attribute [go_sem,go_sem ↓] JaC
def Ut(f0 f1 f2:Nat):AC:=(.seq (.ops false [.u 2 (.box 3 (.t 0)),.u 3 (.box 3 (.t 1)),.u 4 (.alloc [(.lit (.bool false)),.emp,.emp])])
 (.fg [2,3,4] (.seq (.ops false [.u 10 (.ld none 3 true (.t 2)),.u 11 (.call f0 [(.t 10)]),.m 9 (.t 11),.u 12 (.ext 0 (.t 9)),.u 13 (.ext 1 (.t 9)),.u 5 (.alloc [(.lit (.bool false)),.emp]),.u 6 (.alloc [(.lit (.bool false)),.emp]),.n (.st none 2 (.t 5) (.t 12)),.n (.st none 2 (.t 6) (.t 13))])
 (.fg [3,4,5,6] (.seq (.ops false [.u 15 (.ld none 3 true (.t 3)),.u 16 (.call f0 [(.t 15)]),.m 14 (.t 16),.u 17 (.ext 0 (.t 14)),.u 18 (.ext 1 (.t 14)),.u 7 (.alloc [(.lit (.bool false)),.emp]),.u 8 (.alloc [(.lit (.bool false)),.emp]),.n (.st none 2 (.t 7) (.t 17)),.n (.st none 2 (.t 8) (.t 18))])
 (.fg [4,5,6,7,8] (.seq (.ops true [.u 19 (.ld none 2 true (.t 5)),.u 20 (.ld none 2 true (.t 7)),.u 21 (.call f1 [(.t 19),(.t 20)]),.u 22 (.ld none 2 true (.t 6)),.u 23 (.ld none 2 true (.t 8)),.u 24 (.call f1 [(.t 22),(.t 23)]),.u 25 (.call f2 [(.t 21),(.t 24)]),.n (.st none 3 (.t 4) (.t 25))])
 .ret)))))))
def Us(f0 f1 f2:Nat):AC:=(.seq (.ops false [.u 2 (.box 3 (.t 0)),.u 3 (.box 3 (.t 1)),.u 4 (.alloc [(.lit (.bool false)),.emp,.emp]),.m 5 (.c (.one (.lit .nilIface)))])
 (.fg [2,3,4] (.seq (.ops false [.u 11 (.ld none 3 true (.t 2)),.u 12 (.call f0 [(.t 11)]),.m 10 (.t 12),.u 13 (.ext 0 (.t 10)),.u 14 (.ext 1 (.t 10)),.u 6 (.alloc [(.lit (.bool false)),.emp]),.u 7 (.alloc [(.lit (.bool false)),.emp]),.n (.st none 2 (.t 6) (.t 13)),.n (.st none 2 (.t 7) (.t 14))])
 (.fg [3,4,6,7] (.seq (.ops false [.u 16 (.ld none 3 true (.t 3)),.u 17 (.call f0 [(.t 16)]),.m 15 (.t 17),.u 18 (.ext 0 (.t 15)),.u 19 (.ext 1 (.t 15)),.u 8 (.alloc [(.lit (.bool false)),.emp]),.u 9 (.alloc [(.lit (.bool false)),.emp]),.n (.st none 2 (.t 8) (.t 18)),.n (.st none 2 (.t 9) (.t 19))])
 (.fg [4,6,7,8,9] (.seq (.ops true [.u 20 (.ld none 2 true (.t 6)),.u 21 (.ld none 2 true (.t 9)),.u 22 (.call f1 [(.t 20),(.t 21)]),.u 23 (.ld none 2 true (.t 7)),.u 24 (.ld none 2 true (.t 8)),.u 25 (.call f1 [(.t 23),(.t 24)]),.u 26 (.call f2 [(.t 22),(.t 25)]),.u 27 (.ext 0 (.t 26)),.u 28 (.ext 1 (.t 26)),.n (.st none 3 (.t 4) (.t 27)),.m 5 (.t 28)])
 .ret)))))))
theorem kaI(hΓ:Holds P Γ){f fp fm ff:Nat}(hp:Γ fp=.dat false Ye)(hm:Γ fm=.dat false yA)(hf:Γ ff=.dat false Yj)(hc:check P f=some (26,(Ut fp fm ff).strip,[.cell 4 3 true])):Sound P f (.dat false vl):=by
 refine Wa hc ka3 hΓ (λargs K hcl hfi hG=>?_);match args,hG with
 | [a,b],hG=>
  obtain⟨x,rfl,hx,y,rfl,hy,hl,hl',hK⟩:=hG;refine⟨by simp,?_⟩
  simp only [go_sem,Ut,hp,hm,hf,hx,hy];have n1:=xJ hx;have d1:=kL hx;have n2:=xJ hy;have d2:=kL hy;have m1:=jt (rv x).num (rv y).num;have m3:=jt ((rv x).den:Int) (rv y).den;rw [Int.natCast_mul,X8];exact⟨hl,hl',by omega,by omega,by omega,by omega,by omega,by omega,Int.mul_ne_zero (JA _) (JA _),hK⟩
theorem W3(hΓ:Holds P Γ){f fs ff tE:Nat}(hs:Γ fs=.dat true Zh)(hf:Γ ff=.dat false Yj)(hc:check P f=some (14,(zp fs ff tE).strip,[.cell 4 3 true,.tmp 5])):Sound P f (.dat false (Zs tE)):=by
 refine Wa hc (Vam tE) hΓ (λargs K hcl hfi hG=>?_);match args,hG with
 | [a,b],hG=>
  obtain⟨v,rfl,hv,w,rfl,hw,hz,hz',hK⟩:=hG;refine⟨by simp,?_⟩
  simp only [go_sem,zp,hs,hf,hv,hw];refine⟨λe=>?_,λe=>?_⟩
  .have h0:=Int.sign_eq_zero_iff_zero.1 e;rw [if_pos h0,h0,Rat.divInt_zero,vc tE (by decide),wZ,Yb]at hK
   exact hK
  .have h0:zv w≠0:=λh=>e (by rw [h];rfl)
   rw [if_neg h0,ub]at hK;exact⟨hz,hz',h0,hK⟩
theorem xah(hΓ:Holds P Γ){f fp fm ff tE:Nat}(hp:Γ fp=.dat false Ye)(hm:Γ fm=.dat false yA)(hf:Γ ff=.dat false (Zs tE))(hc:check P f=some (29,(Us fp fm ff).strip,[.cell 4 3 true,.tmp 5])):Sound P f (.dat false (jv tE)):=by
 refine Wa hc (kaE tE) hΓ (λargs K hcl hfi hG=>?_);match args,hG with
 | [a,b],hG=>
  obtain⟨x,rfl,hx,y,rfl,hy,hl,hl',hK⟩:=hG;refine⟨by simp,?_⟩
  simp only [go_sem,Us,hp,hm,hf,hx,hy];have n1:=xJ hx;have d1:=kL hx;have n2:=xJ hy;have d2:=kL hy;have m1:=jt (rv x).num ((rv y).den:Int);have m3:=jt ((rv x).den:Int) (rv y).num;have e:((((rv x).den:Int)*(rv y).num=0))=(rv y=0):=propext ⟨λh=>by
   rcases Int.mul_eq_zero.1 h with h | h
   .exact absurd h (JA _)
   .exact Rat.num_eq_zero.1 h,λh=>by rw [h];exact Int.mul_zero _⟩
  simp only [e];rw [VbG];exact⟨hl,hl',by omega,by omega,by omega,by omega,by omega,by omega,hK⟩
end Go.Abs
end
section
namespace Go.Num
open Go.Abs
abbrev V2:=Rat×Rat
abbrev TnQ:=Rat×Bool
abbrev PsQ:=TnQ×V2
def tv(t:Tn):TnQ:=(rv t.1,t.2)
def pv(p:Ps):PsQ:=(tv p.1,av p.2)
def subQ(a b:V2):V2:=(a.1-b.1,a.2-b.2)
def addQ(a b:V2):V2:=(a.1+b.1,a.2+b.2)
def negQ(a:V2):V2:=(-a.1,-a.2)
def crossQ(a b:V2):Rat:=a.1*b.2-a.2*b.1
def sqQ(a:V2):Rat:=a.1*a.1+a.2*a.2
def cosQ(t:TnQ):Rat:=if t.2=true then -1 else (1-t.1*t.1) / (1+t.1*t.1)
def sinQ(t:TnQ):Rat:=if t.2=true then 0 else (t.1+t.1) / (1+t.1*t.1)
def rotQ(t:TnQ)(q:V2):V2:=(cosQ t*q.1-sinQ t*q.2,sinQ t*q.1+cosQ t*q.2)
def appQ(p:PsQ)(q:V2):V2:=addQ (rotQ p.1 q) p.2
def backQ(t:TnQ):TnQ:=(-t.1,t.2)
def invQ(p:PsQ):PsQ:=(backQ p.1,rotQ (backQ p.1) (negQ p.2))
def tchk(t:Tn):Nat:=if vldR t.1=true/\¬(t.2=true/\rv t.1≠0) then 0 else 2
def avld(a:Arc):Bool:=vldR a.1 && vldR a.2
def pvld(p:Ps):Bool:=decide (tchk p.1=0) && avld p.2
def zq(a:V2):Nat:=max (rz a.1) (rz a.2)
theorem YB(a b:V2):zq (subQ a b)<=zq a+zq b+2:=by
 have h1:=VC a.1 b.1;have h2:=VC a.2 b.2;unfold zq subQ;simp only;omega
theorem ubF(a b:V2):zq (addQ a b)<=zq a+zq b+2:=by
 have h1:=Ql a.1 b.1;have h2:=Ql a.2 b.2;unfold zq addQ;simp only;omega
theorem WV(a b:V2):rz (crossQ a b)<=2*zq a+2*zq b+6:=by
 have h1:=qc a.1 b.2;have h2:=qc a.2 b.1;have h3:=VC (a.1*b.2) (a.2*b.1);unfold zq crossQ;omega
theorem kbc(a:V2):rz (sqQ a)<=4*zq a+6:=by
 have h1:=qc a.1 a.1;have h2:=qc a.2 a.2;have h3:=Ql (a.1*a.1) (a.2*a.2);unfold zq sqQ;omega
theorem qaR:rz (-1)<=2:=by rw [show(-1:Rat) = -(1:Rat) from rfl,kN];exact rz_1
theorem wab(t:TnQ):rz (cosQ t)<=4*rz t.1+20:=by
 unfold cosQ;split
 .have:=qaR;omega
 .have h0:=rz_1;have h1:=qc t.1 t.1;have h2:=VC 1 (t.1*t.1);have h3:=Ql 1 (t.1*t.1);have h4:=qS (1-t.1*t.1) (1+t.1*t.1);omega
theorem uab(t:TnQ):rz (sinQ t)<=4*rz t.1+20:=by
 unfold sinQ;split
 .rw [rz_0];omega
 .have h0:=rz_1;have h1:=qc t.1 t.1;have h2:=Ql t.1 t.1;have h3:=Ql 1 (t.1*t.1);have h4:=qS (t.1+t.1) (1+t.1*t.1);omega
theorem Ubl(t:TnQ)(q:V2):zq (rotQ t q)<=8*rz t.1+2*zq q+46:=by
 have c:=wab t;have s:=uab t;have h1:=qc (cosQ t) q.1;have h2:=qc (sinQ t) q.2;have h3:=qc (sinQ t) q.1;have h4:=qc (cosQ t) q.2;have h5:=VC (cosQ t*q.1) (sinQ t*q.2);have h6:=Ql (sinQ t*q.1) (cosQ t*q.2);unfold zq rotQ;simp only;omega
theorem Wbj(p:PsQ)(q:V2):zq (appQ p q)<=8*rz p.1.1+2*zq q+zq p.2+48:=by
 have h1:=Ubl p.1 q;have h2:=ubF (rotQ p.1 q) p.2;unfold appQ;omega
theorem Wa9(t:Rat):0<=t*t:=by
 rcases(Rat.le_total:0<=t∨t<=0) with h | h
 .exact Rat.mul_nonneg h h
 .have h1:0<=-t:=by grind
  have h2:=Rat.mul_nonneg h1 h1;grind
theorem Wbt(t:Rat):1+t*t≠0:=by
 have h:=Wa9 t;intro e;grind
theorem vaJ{a:Arc}(h:WLA a):zq (av a)<=al a:=by
 have h1:=Jg h.1;have h2:=Jg h.2;unfold zq av al;simp only;omega
end Go.Num
end
section
namespace Go.Abs
open Go.Num
variable {P:Program} {Γ:Nat->Spec}
def pQ(x:V2):AV:=.agg [cb (rcan x.1),cn (rcan x.1),cd (rcan x.1),cb (rcan x.2),cn (rcan x.2),cd (rcan x.2)]
theorem Wa4(x:V2):pQ x=.agg [cb (rcan x.1),cn (rcan x.1),cd (rcan x.1),cb (rcan x.2),cn (rcan x.2),cd (rcan x.2)]:=eq_of_heq (HEq.refl _)
def tQ(t:TnQ):AV:=.agg [cb (rcan t.1),cn (rcan t.1),cd (rcan t.1),.lit (.bool t.2)]
theorem jbC(t:TnQ):tQ t=.agg [cb (rcan t.1),cn (rcan t.1),cd (rcan t.1),.lit (.bool t.2)]:=eq_of_heq (HEq.refl _)
theorem zbX(x y:R):av (x,y)=(rv x,rv y):=rfl
theorem ybo(a b:Rat):WLA (rcan a,rcan b)=True:=eq_true ⟨Qj _,Qj _⟩
attribute [go_sem,go_sem ↓] Wa4 jbC ybo
def Qe(l:List AV)(K:AV->Prop):Prop:=
 match l with
 | [a]=>onA (λp=>al p<=100000000/\K (.one (.lit (.bool (avld p))))) a
 | _=>False
theorem Y3 a K:Qe [a] K=(onA (λp=>al p<=100000000/\K (.one (.lit (.bool (avld p))))) a):=propext Iff.rfl
@[congr] theorem qbC{K}{l l'}(h:l=l'):Qe l K=Qe l' K:=by subst h;rfl
attribute [go_sem,go_sem ↓] Y3
theorem yag:Good Qe:=Ya λas=>by
 unfold Qe;split
 .exact(VA λ_=>(.and λ_=>(.ret _)))
 .exact .of λK hk=>hk.elim
def Qv(l:List AV)(K:AV->Prop):Prop:=
 match l with
 | [a,b]=>onA (λp=>onA (λq=>al p<=100000000/\al q<=100000000/\K (pQ (subQ (av p) (av q)))) b) a
 | _=>False
theorem Zaz a b K:Qv [a,b] K=(onA (λp=>onA (λq=>al p<=100000000/\al q<=100000000/\K (pQ (subQ (av p) (av q)))) b) a):=propext Iff.rfl
@[congr] theorem WbP{K}{l l'}(h:l=l'):Qv l K=Qv l' K:=by subst h;rfl
attribute [go_sem,go_sem ↓] Zaz
theorem YaI:Good Qv:=Ya λas=>by
 unfold Qv;split
 .exact(VA λ_=>(VA λ_=>(.and λ_=>(.and λ_=>(.ret _)))))
 .exact .of λK hk=>hk.elim
def Jz(l:List AV)(K:AV->Prop):Prop:=
 match l with
 | [a,b]=>onA (λp=>onA (λq=>al p<=100000000/\al q<=100000000/\K (pQ (addQ (av p) (av q)))) b) a
 | _=>False
theorem qap a b K:Jz [a,b] K=(onA (λp=>onA (λq=>al p<=100000000/\al q<=100000000/\K (pQ (addQ (av p) (av q)))) b) a):=propext Iff.rfl
@[congr] theorem vbO{K}{l l'}(h:l=l'):Jz l K=Jz l' K:=by subst h;rfl
attribute [go_sem,go_sem ↓] qap
theorem WaF:Good Jz:=Ya λas=>by
 unfold Jz;split
 .exact(VA λ_=>(VA λ_=>(.and λ_=>(.and λ_=>(.ret _)))))
 .exact .of λK hk=>hk.elim
def wn(l:List AV)(K:AV->Prop):Prop:=
 match l with
 | [a,b]=>onA (λp=>onA (λq=>al p<=100000000/\al q<=100000000/\K (rQ (crossQ (av p) (av q)))) b) a
 | _=>False
theorem X0 a b K:wn [a,b] K=(onA (λp=>onA (λq=>al p<=100000000/\al q<=100000000/\K (rQ (crossQ (av p) (av q)))) b) a):=propext Iff.rfl
@[congr] theorem xbE{K}{l l'}(h:l=l'):wn l K=wn l' K:=by subst h;rfl
attribute [go_sem,go_sem ↓] X0
theorem qai:Good wn:=Ya λas=>by
 unfold wn;split
 .exact(VA λ_=>(VA λ_=>(.and λ_=>(.and λ_=>(.ret _)))))
 .exact .of λK hk=>hk.elim
def WO(l:List AV)(K:AV->Prop):Prop:=
 match l with
 | [a]=>onA (λp=>al p<=100000000/\K (rQ (sqQ (av p)))) a
 | _=>False
theorem jbj a K:WO [a] K=(onA (λp=>al p<=100000000/\K (rQ (sqQ (av p)))) a):=propext Iff.rfl
@[congr] theorem Qb4{K}{l l'}(h:l=l'):WO l K=WO l' K:=by subst h;rfl
attribute [go_sem,go_sem ↓] jbj
theorem ybe:Good WO:=Ya λas=>by
 unfold WO;split
 .exact(VA λ_=>(.and λ_=>(.ret _)))
 .exact .of λK hk=>hk.elim
def jan(l:List AV)(K:AV->Prop):Prop:=
 match l with
 | [a,b]=>onA (λp=>onA (λq=>al p<=100000000/\al q<=100000000/\K (.one (.lit (.bool (decide (av p=av q)))))) b) a
 | _=>False
theorem zaA a b K:jan [a,b] K=(onA (λp=>onA (λq=>al p<=100000000/\al q<=100000000/\K (.one (.lit (.bool (decide (av p=av q)))))) b) a):=propext Iff.rfl
@[congr] theorem qbQ{K}{l l'}(h:l=l'):jan l K=jan l' K:=by subst h;rfl
attribute [go_sem,go_sem ↓] zaA
def Ja2(l:List AV)(K:AV->Prop):Prop:=
 match l with
 | [a]=>onA (λp=>al p<=100000000/\K (pQ (negQ (av p)))) a
 | _=>False
theorem QaL a K:Ja2 [a] K=(onA (λp=>al p<=100000000/\K (pQ (negQ (av p)))) a):=propext Iff.rfl
@[congr] theorem ZbX{K}{l l'}(h:l=l'):Ja2 l K=Ja2 l' K:=by subst h;rfl
attribute [go_sem,go_sem ↓] QaL
def vW(l:List AV)(K:AV->Prop):Prop:=
 match l with
 | [a]=>onA (λp=>al p<=100000000/\K (pQ (av p))) a
 | _=>False
theorem Q4 a K:vW [a] K=(onA (λp=>al p<=100000000/\K (pQ (av p))) a):=propext Iff.rfl
@[congr] theorem xbA{K}{l l'}(h:l=l'):vW l K=vW l' K:=by subst h;rfl
attribute [go_sem,go_sem ↓] Q4
def Yx(l:List AV)(K:AV->Prop):Prop:=
 match l with
 | [a]=>onR (λx=>rl x<=4294967296/\K (.one (.lit (.bool (decide (rv x=0)))))) a
 | _=>False
theorem XaA a K:Yx [a] K=(onR (λx=>rl x<=4294967296/\K (.one (.lit (.bool (decide (rv x=0)))))) a):=propext Iff.rfl
@[congr] theorem UbQ{K}{l l'}(h:l=l'):Yx l K=Yx l' K:=by subst h;rfl
attribute [go_sem,go_sem ↓] XaA
theorem waJ:Good Yx:=Ya λas=>by
 unfold Yx;split
 .exact(Wm λ_=>(.and λ_=>(.ret _)))
 .exact .of λK hk=>hk.elim
def xx(l:List AV)(K:AV->Prop):Prop:=
 match l with
 | [a,b]=>onR (λx=>onR (λy=>rl x<=1073741824/\rl y<=1073741824/\K (rQ (rv x / rv y))) b) a
 | _=>False
theorem Qay a b K:xx [a,b] K=(onR (λx=>onR (λy=>rl x<=1073741824/\rl y<=1073741824/\K (rQ (rv x / rv y))) b) a):=propext Iff.rfl
@[congr] theorem xbN{K}{l l'}(h:l=l'):xx l K=xx l' K:=by subst h;rfl
attribute [go_sem,go_sem ↓] Qay
theorem WaJ:Good xx:=Ya λas=>by
 unfold xx;split
 .exact(Wm λ_=>(Wm λ_=>(.and λ_=>(.and λ_=>(.ret _)))))
 .exact .of λK hk=>hk.elim
def vk(tE:Nat)(l:List AV)(K:AV->Prop):Prop:=
 match l with
 | [a]=>onT (λt=>rl t.1<=100000000/\K (errV tE (tchk t))) a
 | _=>False
theorem Vab tE a K:vk tE [a] K=(onT (λt=>rl t.1<=100000000/\K (errV tE (tchk t))) a):=propext Iff.rfl
@[congr] theorem ybH tE{K}{l l'}(h:l=l'):vk tE l K=vk tE l' K:=by subst h;rfl
attribute [go_sem,go_sem ↓] Vab
theorem Qam(tE:Nat):Good (vk tE):=Ya λas=>by
 unfold vk;split
 .exact(Jai λ_=>(.and λ_=>(.ret _)))
 .exact .of λK hk=>hk.elim
def Xr(l:List AV)(K:AV->Prop):Prop:=
 match l with
 | [a]=>onT (λt=>rl t.1<=100000000/\K (.one (.lit (.bool (decide (tchk t=0)))))) a
 | _=>False
theorem Z5 a K:Xr [a] K=(onT (λt=>rl t.1<=100000000/\K (.one (.lit (.bool (decide (tchk t=0)))))) a):=propext Iff.rfl
@[congr] theorem UbC{K}{l l'}(h:l=l'):Xr l K=Xr l' K:=by subst h;rfl
attribute [go_sem,go_sem ↓] Z5
theorem Zal:Good Xr:=Ya λas=>by
 unfold Xr;split
 .exact(Jai λ_=>(.and λ_=>(.ret _)))
 .exact .of λK hk=>hk.elim
def Yu(l:List AV)(K:AV->Prop):Prop:=
 match l with
 | [a]=>onPo (λp=>pl p<=100000000/\K (.one (.lit (.bool (pvld p))))) a
 | _=>False
theorem ka0 a K:Yu [a] K=(onPo (λp=>pl p<=100000000/\K (.one (.lit (.bool (pvld p))))) a):=propext Iff.rfl
@[congr] theorem vb0{K}{l l'}(h:l=l'):Yu l K=Yu l' K:=by subst h;rfl
attribute [go_sem,go_sem ↓] ka0
theorem qad:Good Yu:=Ya λas=>by
 unfold Yu;split
 .exact(ZaK λ_=>(.and λ_=>(.ret _)))
 .exact .of λK hk=>hk.elim
def qa8(l:List AV)(K:AV->Prop):Prop:=
 match l with
 | [a]=>onT (λt=>rl t.1<=100000000/\K (tQ (backQ (tv t)))) a
 | _=>False
theorem YaR a K:qa8 [a] K=(onT (λt=>rl t.1<=100000000/\K (tQ (backQ (tv t)))) a):=propext Iff.rfl
@[congr] theorem vbT{K}{l l'}(h:l=l'):qa8 l K=qa8 l' K:=by subst h;rfl
attribute [go_sem,go_sem ↓] YaR
def uC(l:List AV)(K:AV->Prop):Prop:=
 match l with
 | [a]=>onT (λt=>rl t.1<=10000000/\K (.tup [rQ (cosQ (tv t)),rQ (sinQ (tv t))])) a
 | _=>False
theorem YaK a K:uC [a] K=(onT (λt=>rl t.1<=10000000/\K (.tup [rQ (cosQ (tv t)),rQ (sinQ (tv t))])) a):=propext Iff.rfl
@[congr] theorem UbY{K}{l l'}(h:l=l'):uC l K=uC l' K:=by subst h;rfl
attribute [go_sem,go_sem ↓] YaK
theorem qa2:Good uC:=Ya λas=>by
 unfold uC;split
 .exact(Jai λ_=>(.and λ_=>(.ret _)))
 .exact .of λK hk=>hk.elim
def Jy(l:List AV)(K:AV->Prop):Prop:=
 match l with
 | [a,b]=>onA (λp=>onA (λq=>al p<=4294967296/\K (.one (.lit (.bool (decide (p=q)))))) b) a
 | _=>False
theorem Jaq a b K:Jy [a,b] K=(onA (λp=>onA (λq=>al p<=4294967296/\K (.one (.lit (.bool (decide (p=q)))))) b) a):=propext Iff.rfl
@[congr] theorem QbR{K}{l l'}(h:l=l'):Jy l K=Jy l' K:=by subst h;rfl
attribute [go_sem,go_sem ↓] Jaq
theorem YaF:Good Jy:=Ya λas=>by
 unfold Jy;split
 .exact(VA λ_=>(VA λ_=>(.and λ_=>(.ret _))))
 .exact .of λK hk=>hk.elim
def kD(f0:Nat):AC:=(.seq (.ops false [.u 2 (.box 6 (.t 0)),.u 3 (.box 6 (.t 1)),.u 4 (.alloc [(.lit (.bool false)),.emp,.emp,(.lit (.bool false)),.emp,.emp])])
 (.fg [2,3,4] (.seq (.ops true [.u 5 (.fa 0 (.t 2)),.u 6 (.ld none 3 true (.t 5)),.u 7 (.fa 0 (.t 3)),.u 8 (.ld none 3 true (.t 7)),.u 9 (.call f0 [(.t 6),(.t 8)]),.u 10 (.fa 3 (.t 2)),.u 11 (.ld none 3 true (.t 10)),.u 12 (.fa 3 (.t 3)),.u 13 (.ld none 3 true (.t 12)),.u 14 (.call f0 [(.t 11),(.t 13)]),.u 15 (.build [.x 3 (.t 9),.x 3 (.t 14)]),.n (.st none 6 (.t 4) (.t 15))])
 .ret)))
def vm(f0 f1:Nat):AC:=(.seq (.ops false [.u 1 (.box 6 (.t 0)),.u 2 (.alloc [(.lit (.bool false)),.emp,.emp])])
 (.fg [1,2] (.seq (.ops true [.u 3 (.fa 0 (.t 1)),.u 4 (.ld none 3 true (.t 3)),.u 5 (.fa 0 (.t 1)),.u 6 (.ld none 3 true (.t 5)),.u 7 (.call f0 [(.t 4),(.t 6)]),.u 8 (.fa 3 (.t 1)),.u 9 (.ld none 3 true (.t 8)),.u 10 (.fa 3 (.t 1)),.u 11 (.ld none 3 true (.t 10)),.u 12 (.call f0 [(.t 9),(.t 11)]),.u 13 (.call f1 [(.t 7),(.t 12)]),.n (.st none 3 (.t 2) (.t 13))])
 .ret)))
def yh(f0:Nat):AC:=(.seq (.ops false [.u 1 (.box 3 (.t 0)),.m 2 .fa])
 (.fg [1] (.seq (.ops false [.u 3 (.ld none 3 true (.t 1)),.u 4 (.call f0 [(.t 3)]),.u 5 (.bin .eql (.t 4) (.i 0)),.m 2 (.t 5)])
 .ret)))
def xu(f0:Nat):AC:=(.seq (.ops false [.u 2 (.box 3 (.t 0)),.u 3 (.box 3 (.t 1)),.u 4 (.alloc [(.lit (.bool false)),.emp,.emp])])
 (.fg [2,3,4] (.seq (.ops false [.u 8 (.ld none 3 true (.t 2)),.u 9 (.ld none 3 true (.t 3)),.u 10 (.call f0 [(.t 8),(.t 9)]),.m 7 (.t 10),.u 11 (.ext 0 (.t 7)),.u 12 (.ext 1 (.t 7)),.u 5 (.alloc [(.lit (.bool false)),.emp,.emp]),.n (.st none 3 (.t 5) (.t 11)),.m 6 (.t 12)])
 (.fg [4,5,6] (.seq (.seq (.ops false [.m 13 (.t 6),.u 14 (.binn .neq (.t 13) (.c (.one (.lit .nilIface))))])
 (.fg [4,5,14] (.cond (.t 14) (.seq (.ops false [.u 15 (.build [.z [(.lit (.bool false)),.emp,.emp]]),.n (.st none 3 (.t 4) (.t 15))])
 .ret) .skip)))
 (.fg [4,5] (.seq (.ops false [.u 16 (.ld none 3 true (.t 5)),.n (.st none 3 (.t 4) (.t 16))])
 .ret)))))))
def Yi(f0 f1 tE:Nat):AC:=(.seq (.ops false [.u 1 (.box 4 (.t 0)),.m 2 (.c (.one (.lit .nilIface)))])
 (.fg [1] (.seq (.seq (.ops false [.u 3 (.fa 0 (.t 1)),.u 4 (.ld none 3 true (.t 3)),.u 5 (.call f0 [(.t 4)]),.u 6 (.un .not (.t 5)),.m 7 (.t 6),.w 8 7 false (.fa 3 (.t 1)),.w 9 7 false (.ld none 1 false (.t 8)),.w 10 7 false (.mv (.t 9)),.w 11 10 true (.fa 0 (.t 1)),.w 12 10 true (.ld none 3 true (.t 11)),.w 13 10 true (.call f1 [(.t 12)]),.w 14 10 true (.bin .neq (.t 13) (.i 0)),.w 15 7 false (.pick (.t 10) (.t 14) .fa),.u 16 (.pick (.t 7) .tr (.t 15))])
 (.fg [16] (.cond (.t 16) (.seq (.ops false [.u 17 (.iface tE (.i 2)),.m 2 (.t 17)])
 .ret) .skip)))
 (.fg [] (.seq (.ops false [.m 2 (.c (.one (.lit .nilIface)))])
 .ret)))))
def Uc(f0 f1:Nat):AC:=(.seq (.ops false [.u 1 (.box 4 (.t 0)),.m 2 .fa])
 (.fg [1] (.seq (.ops false [.u 3 (.fa 0 (.t 1)),.u 4 (.ld none 3 true (.t 3)),.u 5 (.call f0 [(.t 4)]),.m 6 (.t 5),.w 7 6 true (.fa 3 (.t 1)),.w 8 6 true (.ld none 1 false (.t 7)),.w 9 6 true (.un .not (.t 8)),.w 10 6 true (.mv (.t 9)),.w 11 10 false (.fa 0 (.t 1)),.w 12 10 false (.ld none 3 true (.t 11)),.w 13 10 false (.call f1 [(.t 12)]),.w 14 6 true (.pick (.t 10) .tr (.t 13)),.u 15 (.pick (.t 6) (.t 14) .fa),.m 2 (.t 15)])
 .ret)))
def Qq(f0 f1:Nat):AC:=(.seq (.ops false [.u 1 (.box 10 (.t 0)),.m 2 .fa])
 (.fg [1] (.seq (.ops false [.u 3 (.fa 0 (.t 1)),.u 4 (.ld none 4 true (.t 3)),.u 5 (.call f0 [(.t 4)]),.u 6 (.binn .eql (.t 5) (.c (.one (.lit .nilIface)))),.m 7 (.t 6),.w 8 7 true (.fa 4 (.t 1)),.w 9 7 true (.ld none 6 true (.t 8)),.w 10 7 true (.call f1 [(.t 9)]),.u 11 (.pick (.t 7) (.t 10) .fa),.m 2 (.t 11)])
 .ret)))
def je(f0 f1:Nat):AC:=(.seq (.ops false [.u 1 (.box 10 (.t 0)),.m 2 .fa])
 (.fg [1] (.seq (.ops false [.u 3 (.fa 0 (.t 1)),.u 4 (.ld none 4 true (.t 3)),.u 5 (.call f0 [(.t 4)]),.m 6 (.t 5),.w 7 6 true (.fa 4 (.t 1)),.w 8 6 true (.ld none 6 true (.t 7)),.w 9 6 true (.call f1 [(.t 8)]),.u 10 (.pick (.t 6) (.t 9) .fa),.m 2 (.t 10)])
 .ret)))
def yi(f0 f1 f2 f3 f4:Nat):AC:=(.seq (.ops false [.u 1 (.box 4 (.t 0)),.u 2 (.alloc [(.lit (.bool false)),.emp,.emp]),.u 3 (.alloc [(.lit (.bool false)),.emp,.emp])])
 (.fg [1,2,3] (.seq (.seq (.ops false [.u 7 (.fa 3 (.t 1)),.u 8 (.ld none 1 false (.t 7))])
 (.fg [1,2,3,8] (.cond (.t 8) (.seq (.ops false [.u 9 (.call f0 [(.i (-1))]),.u 10 (.build [.z [(.lit (.bool false)),.emp,.emp]]),.n (.st none 3 (.t 2) (.t 9)),.n (.st none 3 (.t 3) (.t 10))])
 .ret) .skip)))
 (.fg [1,2,3] (.seq (.ops true [.u 11 (.call f0 [(.i 1)]),.u 12 (.fa 0 (.t 1)),.u 13 (.ld none 3 true (.t 12)),.u 14 (.fa 0 (.t 1)),.u 15 (.ld none 3 true (.t 14)),.u 16 (.call f1 [(.t 13),(.t 15)]),.u 4 (.alloc [(.lit (.bool false)),.emp,.emp]),.u 5 (.alloc [(.lit (.bool false)),.emp,.emp]),.n (.st none 3 (.t 4) (.t 11)),.n (.st none 3 (.t 5) (.t 16))])
 (.fg [1,2,3,4,5] (.seq (.ops false [.u 17 (.ld none 3 true (.t 4)),.u 18 (.ld none 3 true (.t 5)),.u 19 (.call f2 [(.t 17),(.t 18)]),.u 6 (.alloc [(.lit (.bool false)),.emp,.emp]),.n (.st none 3 (.t 6) (.t 19))])
 (.fg [1,2,3,4,5,6] (.seq (.ops true [.u 20 (.ld none 3 true (.t 4)),.u 21 (.ld none 3 true (.t 5)),.u 22 (.call f3 [(.t 20),(.t 21)]),.u 23 (.ld none 3 true (.t 6)),.u 24 (.call f4 [(.t 22),(.t 23)]),.u 25 (.fa 0 (.t 1)),.u 26 (.ld none 3 true (.t 25)),.u 27 (.fa 0 (.t 1)),.u 28 (.ld none 3 true (.t 27)),.u 29 (.call f2 [(.t 26),(.t 28)]),.u 30 (.ld none 3 true (.t 6)),.u 31 (.call f4 [(.t 29),(.t 30)]),.n (.st none 3 (.t 2) (.t 24)),.n (.st none 3 (.t 3) (.t 31))])
 .ret)))))))))
def Ue(f0:Nat):AC:=(.seq (.ops false [.u 2 (.box 6 (.t 0)),.u 3 (.box 6 (.t 1)),.m 4 .fa])
 (.fg [2,3] (.seq (.ops false [.u 5 (.fa 0 (.t 2)),.u 6 (.ld none 3 true (.t 5)),.u 7 (.fa 0 (.t 3)),.u 8 (.ld none 3 true (.t 7)),.u 9 (.call f0 [(.t 6),(.t 8)]),.m 10 (.t 9),.w 11 10 true (.fa 3 (.t 2)),.w 12 10 true (.ld none 3 true (.t 11)),.w 13 10 true (.fa 3 (.t 3)),.w 14 10 true (.ld none 3 true (.t 13)),.w 15 10 true (.call f0 [(.t 12),(.t 14)]),.u 16 (.pick (.t 10) (.t 15) .fa),.m 4 (.t 16)])
 .ret)))
theorem Qb{α β:Type}(p:α×β):(p.1,p.2)=p:=rfl
theorem al1{p:Arc}{b:Nat}(h:al p<=b):rl p.1<=b/\rl p.2<=b:=⟨Nat.le_trans (Nat.le_max_left _ _) h,Nat.le_trans (Nat.le_max_right _ _) h⟩
theorem vag(hΓ:Holds P Γ){f fs:Nat}(hs:Γ fs=.dat false jl)(hc:check P f=some (16,(kD fs).strip,[.cell 4 6 true])):Sound P f (.dat false Jz):=by
 refine Wa hc WaF hΓ (λargs K hcl hfi hG=>?_);match args,hG with
 | [a,b],hG=>
  obtain⟨p,rfl,hp,q,rfl,hq,hl,hl',hK⟩:=hG;refine⟨by simp,?_⟩
  obtain⟨l1,l2⟩:=al1 hl;obtain⟨l3,l4⟩:=al1 hl';simp only [go_sem,kD,hs,Wc,hp.1,hp.2,hq.1,hq.2];exact⟨by omega,by omega,by omega,by omega,hK⟩
theorem qa5(hΓ:Holds P Γ){f fm fs:Nat}(hm:Γ fm=.dat false vl)(hs:Γ fs=.dat false jl)(hc:check P f=some (14,(vm fm fs).strip,[.cell 2 3 true])):Sound P f (.dat false WO):=by
 refine Wa hc ybe hΓ (λargs K hcl hfi hG=>?_);match args,hG with
 | [a],hG=>
  obtain⟨p,rfl,hp,hl,hK⟩:=hG;refine⟨by simp,?_⟩
  obtain⟨l1,l2⟩:=al1 hl;have r1:=Jg hp.1;have r2:=Jg hp.2;have m1:=qc (rv p.1) (rv p.1);have m2:=qc (rv p.2) (rv p.2);simp only [go_sem,vm,hm,hs,Wc,hp.1,hp.2];exact⟨by omega,by omega,by omega,by omega,by omega,by omega,hK⟩
theorem qak(hΓ:Holds P Γ){f fs:Nat}(hs:Γ fs=.dat true qg)(hc:check P f=some (6,(yh fs).strip,[.tmp 2])):Sound P f (.dat true Yx):=by
 refine Wa hc waJ hΓ (λargs K hcl hfi hG=>?_);match args,hG with
 | [a],hG=>
  obtain⟨x,rfl,hx,hl,hK⟩:=hG;refine⟨by simp,?_⟩
  have e:decide (rv x=0)=decide (ordQ (rv x) 0=0):=by rw [decide_eq_decide,Vq]
  rw [e]at hK;simp only [go_sem,yh,hs,hx];exact⟨hl,hK⟩
theorem kag(hΓ:Holds P Γ){f fd tE:Nat}(hd:Γ fd=.dat false (jv tE))(hc:check P f=some (17,(xu fd).strip,[.cell 4 3 true])):Sound P f (.dat false xx):=by
 refine Wa hc WaJ hΓ (λargs K hcl hfi hG=>?_);match args,hG with
 | [a,b],hG=>
  obtain⟨x,rfl,hx,y,rfl,hy,hl,hl',hK⟩:=hG;refine⟨by simp,?_⟩
  by_cases h0:rv y=0
  .rw [h0,Rat.div_def,Rat.inv_zero,Rat.mul_zero,wZ,Yb]at hK;have e:errV tE 8=.one (.lit (.iface tE (.int .i64 8))):=vc tE (by decide)
   simp only [go_sem,xu,hd,hx,hy,h0,e];exact⟨by omega,by omega,hK⟩
  .simp only [go_sem,xu,hd,hx,hy,h0,ub];exact⟨by omega,by omega,hK⟩
theorem Wbl(t:Tn):tchk t=if vldR t.1=true/\¬(t.2=true/\rv t.1≠0) then 0 else 2:=rfl
theorem xac(hΓ:Holds P Γ){f fv fs tE:Nat}(hv:Γ fv=.dat true kd)(hs:Γ fs=.dat true qg)(hc:check P f=some (18,(Yi fv fs tE).strip,[.tmp 2])):Sound P f (.dat false (vk tE)):=by
 refine Wa hc (Qam tE) hΓ (λargs K hcl hfi hG=>?_);match args,hG with
 | [a],hG=>
  obtain⟨t,rfl,ht,hl,hK⟩:=hG;refine⟨by simp,?_⟩
  rw [Wbl]at hK;have e2:errV tE 2=.one (.lit (.iface tE (.int .i64 2))):=vc tE (by decide)
  cases h1:vldR t.1 with
  | false=>
   rw [if_neg (λh=>by rw [h1]at h;exact absurd h.1 (by decide)),e2]at hK
   simp only [go_sem,Yi,hv,hs,tA,tC,ht,h1];exact⟨by omega,hK⟩
  | true=>
   cases h2:t.2 with
   | false=>
    rw [if_pos ⟨h1,λh=>by rw [h2]at h;exact absurd h.1 (by decide)⟩,ub]at hK
    simp only [go_sem,Yi,hv,hs,tA,tC,ht,h1,h2];exact⟨by omega,hK⟩
   | true=>
    by_cases h3:ordQ (rv t.1) 0=0
    .rw [if_pos ⟨h1,λh=>h.2 (Vq.1 h3)⟩,ub]at hK;simp only [go_sem,Yi,hv,hs,tA,tC,ht,h1,h2,h3];exact⟨by omega,by omega,hK⟩
    .rw [if_neg (λh=>h.2 ⟨h2,λe=>h3 (Vq.2 e)⟩),e2]at hK;simp only [go_sem,Yi,hv,hs,tA,tC,ht,h1,h2,h3];exact⟨by omega,by omega,hK⟩
theorem Xad(hΓ:Holds P Γ){f fv fz:Nat}(hv:Γ fv=.dat true kd)(hz:Γ fz=.dat true Yx)(hc:check P f=some (16,(Uc fv fz).strip,[.tmp 2])):Sound P f (.dat true Xr):=by
 refine Wa hc Zal hΓ (λargs K hcl hfi hG=>?_);match args,hG with
 | [a],hG=>
  obtain⟨t,rfl,ht,hl,hK⟩:=hG;refine⟨by simp,?_⟩
  rw [Wbl]at hK;cases h1:vldR t.1 with
  | false=>
   rw [if_neg (λh=>by rw [h1]at h;exact absurd h.1 (by decide))]at hK
   simp only [go_sem,Uc,hv,hz,tA,tC,ht,h1];exact⟨by omega,hK⟩
  | true=>
   cases h2:t.2 with
   | false=>
    rw [if_pos ⟨h1,λh=>by rw [h2]at h;exact absurd h.1 (by decide)⟩]at hK
    simp only [go_sem,Uc,hv,hz,tA,tC,ht,h1,h2];exact⟨by omega,hK⟩
   | true=>
    by_cases h3:rv t.1=0
    .rw [if_pos ⟨h1,λh=>h.2 h3⟩]at hK;simp only [go_sem,Uc,hv,hz,tA,tC,ht,h1,h2,h3];exact⟨by omega,by omega,hK⟩
    .rw [if_neg (λh=>h.2 ⟨h2,h3⟩)]at hK;simp only [go_sem,Uc,hv,hz,tA,tC,ht,h1,h2,h3];exact⟨by omega,by omega,hK⟩
theorem pl1{p:Ps}{b:Nat}(h:pl p<=b):rl p.1.1<=b/\al p.2<=b:=⟨Nat.le_trans (Nat.le_max_left _ _) h,Nat.le_trans (Nat.le_max_right _ _) h⟩
theorem kK(t:Tn):tchk t=0∨tchk t=2:=by unfold tchk;split <;> simp
theorem QaE(hΓ:Holds P Γ){f ft fp:Nat}{tE:Nat}(ht:Γ ft=.dat false (vk tE))(hp' : Γ fp=.dat true Qe)(hc:check P f=some (12,(Qq ft fp).strip,[.tmp 2])):Sound P f (.dat true Yu):=by
 refine Wa hc qad hΓ (λargs K hcl hfi hG=>?_);match args,hG with
 | [a],hG=>
  obtain⟨p,rfl,hp,hl,hK⟩:=hG;refine⟨by simp,?_⟩
  obtain⟨l1,l2⟩:=pl1 hl;unfold pvld at hK;rcases kK p.1 with h | h
  .rw [h]at hK;simp only [go_sem,Qq,ht,hp',poA,pC,Qb,h,ub,hp.1,hp.2];exact⟨l1,l2,hK⟩
  .have e2:errV tE 2=.one (.lit (.iface tE (.int .i64 2))):=vc tE (by decide)
   rw [h]at hK;simp only [go_sem,Qq,ht,hp',poA,pC,Qb,h,e2,hp.1,hp.2];exact⟨l1,hK⟩
theorem qam(hΓ:Holds P Γ){f ft fp:Nat}(ht:Γ ft=.dat true Xr)(hp' : Γ fp=.dat true Qe)(hc:check P f=some (11,(je ft fp).strip,[.tmp 2])):Sound P f (.dat true Yu):=by
 refine Wa hc qad hΓ (λargs K hcl hfi hG=>?_);match args,hG with
 | [a],hG=>
  obtain⟨p,rfl,hp,hl,hK⟩:=hG;refine⟨by simp,?_⟩
  obtain⟨l1,l2⟩:=pl1 hl;unfold pvld at hK;by_cases h:tchk p.1=0
  .rw [decide_eq_true h]at hK;simp only [go_sem,je,ht,hp',poA,pC,Qb,h,hp.1,hp.2];exact⟨l1,⟨l2,hK⟩,λh=>absurd trivial h⟩
  .rw [decide_eq_false h]at hK;simp only [go_sem,je,ht,hp',poA,pC,Qb,h,hp.1,hp.2];exact⟨l1,hK⟩
theorem JaJ(hΓ:Holds P Γ){f fo fm fa fs fv:Nat}(ho:Γ fo=.dat false wB)(hm:Γ fm=.dat false vl)(ha:Γ fa=.dat false jl)(hs:Γ fs=.dat false Vx)(hov:Γ fv=.dat false xx)(hc:check P f=some (32,(yi fo fm fa fs fv).strip,[.cell 2 3 true,.cell 3 3 true])):Sound P f (.dat false uC):=by
 refine Wa hc qa2 hΓ (λargs K hcl hfi hG=>?_);match args,hG with
 | [a],hG=>
  obtain⟨t,rfl,ht,hl,hK⟩:=hG;refine⟨by simp,?_⟩
  have r1:=Jg ht;have h0:=rz_1;have h1:=qc (rv t.1) (rv t.1);have h2:=VC 1 (rv t.1*rv t.1);have h3:=Ql 1 (rv t.1*rv t.1);have h4:=Ql (rv t.1) (rv t.1);have c1:((1:Int):Rat)=1:=rfl;have c2:((-1:Int):Rat) = -1:=rfl;unfold cosQ sinQ at hK;cases hh:t.2 with
  | true=>
   have e:(tv t).2=true:=hh;rw [if_pos e,if_pos e]at hK;simp only [go_sem,yi,ho,hm,ha,hs,hov,tA,tC,ht,hh,c1,c2];refine⟨by decide,by decide,?_⟩
   simp only [wZ,Yb]at hK;exact hK
  | false=>
   have e:¬((tv t).2=true):=by show ¬(t.2=true);rw [hh];decide
   rw [if_neg e,if_neg e]at hK;simp only [go_sem,yi,ho,hm,ha,hs,hov,tA,tC,ht,hh,c1,c2];refine⟨by decide,by decide,by omega,by omega,by omega,by omega,by omega,by omega,by omega,by omega,by omega,by omega,by omega,by omega,hK⟩
theorem Xaj(hΓ:Holds P Γ){f fb:Nat}(hb:Γ fb=.dat true jG)(hc:check P f=some (17,(Ue fb).strip,[.tmp 4])):Sound P f (.dat true Jy):=by
 refine Wa hc YaF hΓ (λargs K hcl hfi hG=>?_);match args,hG with
 | [a,b],hG=>
  obtain⟨p,rfl,hp,q,rfl,hq,hl,hK⟩:=hG;refine⟨by simp,?_⟩
  obtain⟨l1,l2⟩:=al1 hl;have e:decide (p=q)=(decide (p.1=q.1) && decide (p.2=q.2)):=by
   rw [<-Bool.decide_and,decide_eq_decide];exact Prod.ext_iff
  rw [e]at hK;by_cases h1:p.1=q.1
  .rw [decide_eq_true h1,Bool.true_and]at hK;simp only [go_sem,Ue,hb,Wc,hp.1,hp.2,hq.1,hq.2,h1,decide_true];exact⟨by rw [<-h1];exact l1,l2,hK⟩
  .rw [decide_eq_false h1,Bool.false_and]at hK;simp only [go_sem,Ue,hb,Wc,hp.1,hp.2,hq.1,hq.2,h1,decide_false];exact⟨l1,hK⟩
end Go.Abs
end
section
namespace Go.Num
open Go.Abs
def aok(p:Ps)(q:Arc):Bool:=pvld p && avld q
def plchk(l:List Ps):Nat:=if l.length<2 then 10 else if 5<l.length then 4 else if l.all pvld then 0 else 2
def threeC(l:List Ps):Nat:=if plchk l≠0 then plchk l else if l.length=3 then 0 else 10
def imgs(l:List Ps)(q:Arc):List V2:=l.map λp=>appQ (pv p) (av q)
def imgC(l:List Ps)(q:Arc):Nat:=if l.all (λp=>aok p q) then 0 else 2
end Go.Num
namespace Go.Abs
open Go.Num
variable {P:Program} {Γ:Nat->Spec}
def psQ(p:PsQ):AV:=.agg [cb (rcan p.1.1),cn (rcan p.1.1),cd (rcan p.1.1),.lit (.bool p.1.2),cb (rcan p.2.1),cn (rcan p.2.1),cd (rcan p.2.1),cb (rcan p.2.2),cn (rcan p.2.2),cd (rcan p.2.2)]
theorem Wbn(p:PsQ):psQ p=.agg [cb (rcan p.1.1),cn (rcan p.1.1),cd (rcan p.1.1),.lit (.bool p.1.2),cb (rcan p.2.1),cn (rcan p.2.1),cd (rcan p.2.1),cb (rcan p.2.2),cn (rcan p.2.2),cd (rcan p.2.2)]:=eq_of_heq (HEq.refl _)
attribute [go_sem,go_sem ↓] Wbn
def WE(tE:Nat)(l:List AV)(K:AV->Prop):Prop:=
 match l with
 | [a]=>onT (λt=>rl t.1<=10000000/\K (.tup [rQ (if tchk t=0 then cosQ (tv t) else 0),errV tE (tchk t)])) a
 | _=>False
theorem ka9 tE a K:WE tE [a] K=(onT (λt=>rl t.1<=10000000/\K (.tup [rQ (if tchk t=0 then cosQ (tv t) else 0),errV tE (tchk t)])) a):=propext Iff.rfl
@[congr] theorem zbU tE{K}{l l'}(h:l=l'):WE tE l K=WE tE l' K:=by subst h;rfl
attribute [go_sem,go_sem ↓] ka9
theorem Ua5(tE:Nat):Good (WE tE):=Ya λas=>by
 unfold WE;split
 .exact(Jai λ_=>(.and λ_=>(.ret _)))
 .exact .of λK hk=>hk.elim
def zE(tE:Nat)(l:List AV)(K:AV->Prop):Prop:=
 match l with
 | [a]=>onT (λt=>rl t.1<=10000000/\K (.tup [rQ (if tchk t=0 then sinQ (tv t) else 0),errV tE (tchk t)])) a
 | _=>False
theorem UaT tE a K:zE tE [a] K=(onT (λt=>rl t.1<=10000000/\K (.tup [rQ (if tchk t=0 then sinQ (tv t) else 0),errV tE (tchk t)])) a):=propext Iff.rfl
@[congr] theorem Yb1 tE{K}{l l'}(h:l=l'):zE tE l K=zE tE l' K:=by subst h;rfl
attribute [go_sem,go_sem ↓] UaT
theorem QaO(tE:Nat):Good (zE tE):=Ya λas=>by
 unfold zE;split
 .exact(Jai λ_=>(.and λ_=>(.ret _)))
 .exact .of λK hk=>hk.elim
def YC(tE:Nat)(l:List AV)(K:AV->Prop):Prop:=
 match l with
 | [a]=>onT (λt=>rl t.1<=10000000/\K (.tup [rQ (if tchk t=0 then cosQ (tv t) else 0),rQ (if tchk t=0 then sinQ (tv t) else 0),errV tE (tchk t)])) a
 | _=>False
theorem YaT tE a K:YC tE [a] K=(onT (λt=>rl t.1<=10000000/\K (.tup [rQ (if tchk t=0 then cosQ (tv t) else 0),rQ (if tchk t=0 then sinQ (tv t) else 0),errV tE (tchk t)])) a):=propext Iff.rfl
@[congr] theorem Zb0 tE{K}{l l'}(h:l=l'):YC tE l K=YC tE l' K:=by subst h;rfl
attribute [go_sem,go_sem ↓] YaT
theorem za3(tE:Nat):Good (YC tE):=Ya λas=>by
 unfold YC;split
 .exact(Jai λ_=>(.and λ_=>(.ret _)))
 .exact .of λK hk=>hk.elim
def vF(tE:Nat)(l:List AV)(K:AV->Prop):Prop:=
 match l with
 | [a,b]=>onT (λt=>onA (λq=>rl t.1<=10000000/\al q<=10000000/\K (.tup [pQ (if tchk t=0 then rotQ (tv t) (av q) else (0,0)),errV tE (tchk t)])) b) a
 | _=>False
theorem Va8 tE a b K:vF tE [a,b] K=(onT (λt=>onA (λq=>rl t.1<=10000000/\al q<=10000000/\K (.tup [pQ (if tchk t=0 then rotQ (tv t) (av q) else (0,0)),errV tE (tchk t)])) b) a):=propext Iff.rfl
@[congr] theorem XbX tE{K}{l l'}(h:l=l'):vF tE l K=vF tE l' K:=by subst h;rfl
attribute [go_sem,go_sem ↓] Va8
theorem yaX(tE:Nat):Good (vF tE):=Ya λas=>by
 unfold vF;split
 .exact(Jai λ_=>(VA λ_=>(.and λ_=>(.and λ_=>(.ret _)))))
 .exact .of λK hk=>hk.elim
def vaN(l:List AV)(K:AV->Prop):Prop:=
 match l with
 | [a,b]=>onT (λt=>onA (λq=>rl t.1<=10000000/\al q<=10000000/\K (pQ (rotQ (tv t) (av q)))) b) a
 | _=>False
theorem XaN a b K:vaN [a,b] K=(onT (λt=>onA (λq=>rl t.1<=10000000/\al q<=10000000/\K (pQ (rotQ (tv t) (av q)))) b) a):=propext Iff.rfl
@[congr] theorem jbZ{K}{l l'}(h:l=l'):vaN l K=vaN l' K:=by subst h;rfl
attribute [go_sem,go_sem ↓] XaN
def yC(tE:Nat)(l:List AV)(K:AV->Prop):Prop:=
 match l with
 | [a,b]=>onPo (λp=>onA (λq=>pl p<=1000000/\al q<=1000000/\K (.tup [pQ (if aok p q=true then appQ (pv p) (av q) else (0,0)),errV tE (if aok p q=true then 0 else 2)])) b) a
 | _=>False
theorem WaW tE a b K:yC tE [a,b] K=(onPo (λp=>onA (λq=>pl p<=1000000/\al q<=1000000/\K (.tup [pQ (if aok p q=true then appQ (pv p) (av q) else (0,0)),errV tE (if aok p q=true then 0 else 2)])) b) a):=propext Iff.rfl
@[congr] theorem JbX tE{K}{l l'}(h:l=l'):yC tE l K=yC tE l' K:=by subst h;rfl
attribute [go_sem,go_sem ↓] WaW
theorem Za8(tE:Nat):Good (yC tE):=Ya λas=>by
 unfold yC;split
 .exact(ZaK λ_=>(VA λ_=>(.and λ_=>(.and λ_=>(.ret _)))))
 .exact .of λK hk=>hk.elim
def uaN(l:List AV)(K:AV->Prop):Prop:=
 match l with
 | [a,b]=>onPo (λp=>onA (λq=>pl p<=1000000/\al q<=1000000/\K (pQ (appQ (pv p) (av q)))) b) a
 | _=>False
theorem XaR a b K:uaN [a,b] K=(onPo (λp=>onA (λq=>pl p<=1000000/\al q<=1000000/\K (pQ (appQ (pv p) (av q)))) b) a):=propext Iff.rfl
@[congr] theorem JbS{K}{l l'}(h:l=l'):uaN l K=uaN l' K:=by subst h;rfl
attribute [go_sem,go_sem ↓] XaR
def Xah(tE:Nat)(l:List AV)(K:AV->Prop):Prop:=
 match l with
 | [a]=>onT (λt=>rl t.1<=10000000/\K (.tup [tQ (if tchk t=0 then backQ (tv t) else (0,false)),errV tE (tchk t)])) a
 | _=>False
theorem yaD tE a K:Xah tE [a] K=(onT (λt=>rl t.1<=10000000/\K (.tup [tQ (if tchk t=0 then backQ (tv t) else (0,false)),errV tE (tchk t)])) a):=propext Iff.rfl
@[congr] theorem VbN tE{K}{l l'}(h:l=l'):Xah tE l K=Xah tE l' K:=by subst h;rfl
attribute [go_sem,go_sem ↓] yaD
def vaW(tE:Nat)(l:List AV)(K:AV->Prop):Prop:=
 match l with
 | [a]=>onPo (λp=>pl p<=1000000/\K (.tup [psQ (if pvld p=true then invQ (pv p) else ((0,false),(0,0))),errV tE (if pvld p=true then 0 else 2)])) a
 | _=>False
theorem vaM tE a K:vaW tE [a] K=(onPo (λp=>pl p<=1000000/\K (.tup [psQ (if pvld p=true then invQ (pv p) else ((0,false),(0,0))),errV tE (if pvld p=true then 0 else 2)])) a):=propext Iff.rfl
@[congr] theorem zbV tE{K}{l l'}(h:l=l'):vaW tE l K=vaW tE l' K:=by subst h;rfl
attribute [go_sem,go_sem ↓] vaM
def waN(l:List AV)(K:AV->Prop):Prop:=
 match l with
 | [a]=>onPo (λp=>pl p<=1000000/\K (psQ (invQ (pv p)))) a
 | _=>False
theorem ja0 a K:waN [a] K=(onPo (λp=>pl p<=1000000/\K (psQ (invQ (pv p)))) a):=propext Iff.rfl
@[congr] theorem ubT{K}{l l'}(h:l=l'):waN l K=waN l' K:=by subst h;rfl
attribute [go_sem,go_sem ↓] ja0
def Zn(f0 f1:Nat):AC:=(.seq (.ops false [.u 1 (.box 4 (.t 0)),.u 2 (.alloc [(.lit (.bool false)),.emp,.emp]),.m 3 (.c (.one (.lit .nilIface)))])
 (.fg [1,2] (.seq (.seq (.ops false [.u 7 (.ld none 4 true (.t 1)),.u 8 (.call f0 [(.t 7)]),.m 4 (.t 8)])
 (.fg [1,2,4] (.seq (.ops false [.m 9 (.t 4),.u 10 (.binn .neq (.t 9) (.c (.one (.lit .nilIface))))])
 (.fg [1,2,4,10] (.cond (.t 10) (.seq (.ops false [.u 11 (.build [.z [(.lit (.bool false)),.emp,.emp]]),.m 12 (.t 4),.n (.st none 3 (.t 2) (.t 11)),.m 3 (.t 12)])
 .ret) .skip)))))
 (.fg [1,2] (.seq (.ops false [.u 14 (.ld none 4 true (.t 1)),.u 15 (.call f1 [(.t 14)]),.m 13 (.t 15),.u 16 (.ext 0 (.t 13)),.u 17 (.ext 1 (.t 13)),.u 5 (.alloc [(.lit (.bool false)),.emp,.emp]),.u 6 (.alloc [(.lit (.bool false)),.emp,.emp]),.n (.st none 3 (.t 5) (.t 16)),.n (.st none 3 (.t 6) (.t 17))])
 (.fg [2,5] (.seq (.ops false [.u 18 (.ld none 3 true (.t 5)),.n (.st none 3 (.t 2) (.t 18)),.m 3 (.c (.one (.lit .nilIface)))])
 .ret)))))))
def Ym(f0 f1:Nat):AC:=(.seq (.ops false [.u 1 (.box 4 (.t 0)),.u 2 (.alloc [(.lit (.bool false)),.emp,.emp]),.m 3 (.c (.one (.lit .nilIface)))])
 (.fg [1,2] (.seq (.seq (.ops false [.u 7 (.ld none 4 true (.t 1)),.u 8 (.call f0 [(.t 7)]),.m 4 (.t 8)])
 (.fg [1,2,4] (.seq (.ops false [.m 9 (.t 4),.u 10 (.binn .neq (.t 9) (.c (.one (.lit .nilIface))))])
 (.fg [1,2,4,10] (.cond (.t 10) (.seq (.ops false [.u 11 (.build [.z [(.lit (.bool false)),.emp,.emp]]),.m 12 (.t 4),.n (.st none 3 (.t 2) (.t 11)),.m 3 (.t 12)])
 .ret) .skip)))))
 (.fg [1,2] (.seq (.ops false [.u 14 (.ld none 4 true (.t 1)),.u 15 (.call f1 [(.t 14)]),.m 13 (.t 15),.u 16 (.ext 0 (.t 13)),.u 17 (.ext 1 (.t 13)),.u 5 (.alloc [(.lit (.bool false)),.emp,.emp]),.u 6 (.alloc [(.lit (.bool false)),.emp,.emp]),.n (.st none 3 (.t 5) (.t 16)),.n (.st none 3 (.t 6) (.t 17))])
 (.fg [2,6] (.seq (.ops false [.u 18 (.ld none 3 true (.t 6)),.n (.st none 3 (.t 2) (.t 18)),.m 3 (.c (.one (.lit .nilIface)))])
 .ret)))))))
def Ui(f0 f1 f2 tE:Nat):AC:=(.seq (.ops false [.u 1 (.box 4 (.t 0)),.u 2 (.alloc [(.lit (.bool false)),.emp,.emp]),.u 3 (.alloc [(.lit (.bool false)),.emp,.emp]),.m 4 (.c (.one (.lit .nilIface)))])
 (.fg [1,2,3] (.seq (.seq (.ops false [.u 5 (.ld none 4 true (.t 1)),.u 6 (.call f0 [(.t 5)]),.u 7 (.binn .neq (.t 6) (.c (.one (.lit .nilIface))))])
 (.fg [1,2,3,7] (.cond (.t 7) (.seq (.ops false [.u 8 (.build [.z [(.lit (.bool false)),.emp,.emp]]),.u 9 (.build [.z [(.lit (.bool false)),.emp,.emp]]),.u 10 (.iface tE (.i 2)),.n (.st none 3 (.t 2) (.t 8)),.n (.st none 3 (.t 3) (.t 9)),.m 4 (.t 10)])
 .ret) .skip)))
 (.fg [1,2,3] (.seq (.seq (.ops false [.u 12 (.ld none 4 true (.t 1)),.u 13 (.call f1 [(.t 12)]),.m 11 (.t 13),.u 14 (.ext 0 (.t 11)),.u 15 (.ext 1 (.t 11)),.n (.st none 3 (.t 2) (.t 14)),.m 4 (.t 15)])
 (.fg [1,2,3,4] (.seq (.ops false [.m 16 (.t 4),.u 17 (.binn .neq (.t 16) (.c (.one (.lit .nilIface))))])
 (.fg [1,2,3,4,17] (.cond (.t 17) (.seq (.ops false [.u 18 (.build [.z [(.lit (.bool false)),.emp,.emp]]),.u 19 (.build [.z [(.lit (.bool false)),.emp,.emp]]),.m 20 (.t 4),.n (.st none 3 (.t 2) (.t 18)),.n (.st none 3 (.t 3) (.t 19)),.m 4 (.t 20)])
 .ret) .skip)))))
 (.fg [1,2,3] (.seq (.ops false [.u 22 (.ld none 4 true (.t 1)),.u 23 (.call f2 [(.t 22)]),.m 21 (.t 23),.u 24 (.ext 0 (.t 21)),.u 25 (.ext 1 (.t 21)),.n (.st none 3 (.t 3) (.t 24)),.m 4 (.t 25)])
 (.fg [2,3,4] (.seq (.ops true [.u 26 (.ld (some 2) 3 true (.t 2)),.u 27 (.ld (some 3) 3 true (.t 3)),.m 28 (.t 4),.n (.st (some 2) 3 (.t 2) (.t 26)),.n (.st (some 3) 3 (.t 3) (.t 27)),.m 4 (.t 28)])
 .ret)))))))))
def Wn(f0 f1 f2 f3:Nat):AC:=(.seq (.ops false [.u 2 (.box 4 (.t 0)),.u 3 (.box 6 (.t 1)),.u 4 (.alloc [(.lit (.bool false)),.emp,.emp,(.lit (.bool false)),.emp,.emp]),.m 5 (.c (.one (.lit .nilIface)))])
 (.fg [2,3,4] (.seq (.ops false [.u 10 (.ld none 4 true (.t 2)),.u 11 (.call f0 [(.t 10)]),.m 9 (.t 11),.u 12 (.ext 0 (.t 9)),.u 13 (.ext 1 (.t 9)),.u 14 (.ext 2 (.t 9)),.u 6 (.alloc [(.lit (.bool false)),.emp,.emp]),.u 7 (.alloc [(.lit (.bool false)),.emp,.emp]),.n (.st none 3 (.t 6) (.t 12)),.n (.st none 3 (.t 7) (.t 13)),.m 8 (.t 14)])
 (.fg [3,4,6,7,8] (.seq (.seq (.ops false [.m 15 (.t 8),.u 16 (.binn .neq (.t 15) (.c (.one (.lit .nilIface))))])
 (.fg [3,4,6,7,8,16] (.cond (.t 16) (.seq (.ops false [.u 17 (.build [.z [(.lit (.bool false)),.emp,.emp,(.lit (.bool false)),.emp,.emp]]),.m 18 (.t 8),.n (.st none 6 (.t 4) (.t 17)),.m 5 (.t 18)])
 .ret) .skip)))
 (.fg [3,4,6,7] (.seq (.ops true [.u 19 (.ld none 3 true (.t 6)),.u 20 (.fa 0 (.t 3)),.u 21 (.ld none 3 true (.t 20)),.u 22 (.call f1 [(.t 19),(.t 21)]),.u 23 (.ld none 3 true (.t 7)),.u 24 (.fa 3 (.t 3)),.u 25 (.ld none 3 true (.t 24)),.u 26 (.call f1 [(.t 23),(.t 25)]),.u 27 (.call f2 [(.t 22),(.t 26)]),.u 28 (.ld none 3 true (.t 7)),.u 29 (.fa 0 (.t 3)),.u 30 (.ld none 3 true (.t 29)),.u 31 (.call f1 [(.t 28),(.t 30)]),.u 32 (.ld none 3 true (.t 6)),.u 33 (.fa 3 (.t 3)),.u 34 (.ld none 3 true (.t 33)),.u 35 (.call f1 [(.t 32),(.t 34)]),.u 36 (.call f3 [(.t 31),(.t 35)]),.u 37 (.build [.x 3 (.t 27),.x 3 (.t 36)]),.n (.st none 6 (.t 4) (.t 37)),.m 5 (.c (.one (.lit .nilIface)))])
 .ret)))))))
def xl(f0 f1 f2 f3 tE:Nat):AC:=(.seq (.ops false [.u 2 (.box 10 (.t 0)),.u 3 (.box 6 (.t 1)),.u 4 (.alloc [(.lit (.bool false)),.emp,.emp,(.lit (.bool false)),.emp,.emp]),.m 5 (.c (.one (.lit .nilIface)))])
 (.fg [2,3,4] (.seq (.seq (.ops false [.u 8 (.ld none 10 true (.t 2)),.u 9 (.call f0 [(.t 8)]),.u 10 (.un .not (.t 9)),.m 11 (.t 10),.w 12 11 false (.ld none 6 true (.t 3)),.w 13 11 false (.call f1 [(.t 12)]),.w 14 11 false (.un .not (.t 13)),.u 15 (.pick (.t 11) .tr (.t 14))])
 (.fg [2,3,4,15] (.cond (.t 15) (.seq (.ops false [.u 16 (.build [.z [(.lit (.bool false)),.emp,.emp,(.lit (.bool false)),.emp,.emp]]),.u 17 (.iface tE (.i 2)),.n (.st none 6 (.t 4) (.t 16)),.m 5 (.t 17)])
 .ret) .skip)))
 (.fg [2,3,4] (.seq (.ops false [.u 19 (.fa 0 (.t 2)),.u 20 (.ld none 4 true (.t 19)),.u 21 (.ld none 6 true (.t 3)),.u 22 (.call f2 [(.t 20),(.t 21)]),.m 18 (.t 22),.u 23 (.ext 0 (.t 18)),.u 24 (.ext 1 (.t 18)),.u 6 (.alloc [(.lit (.bool false)),.emp,.emp,(.lit (.bool false)),.emp,.emp]),.n (.st none 6 (.t 6) (.t 23)),.m 7 (.t 24)])
 (.fg [2,4,6,7] (.seq (.seq (.ops false [.m 25 (.t 7),.u 26 (.binn .neq (.t 25) (.c (.one (.lit .nilIface))))])
 (.fg [2,4,6,7,26] (.cond (.t 26) (.seq (.ops false [.u 27 (.build [.z [(.lit (.bool false)),.emp,.emp,(.lit (.bool false)),.emp,.emp]]),.m 28 (.t 7),.n (.st none 6 (.t 4) (.t 27)),.m 5 (.t 28)])
 .ret) .skip)))
 (.fg [2,4,6] (.seq (.ops false [.u 29 (.ld none 6 true (.t 6)),.u 30 (.fa 4 (.t 2)),.u 31 (.ld none 6 true (.t 30)),.u 32 (.call f3 [(.t 29),(.t 31)]),.n (.st none 6 (.t 4) (.t 32)),.m 5 (.c (.one (.lit .nilIface)))])
 .ret)))))))))
theorem QaI(hΓ:Holds P Γ){f fk fd tE:Nat}(hk:Γ fk=.dat false (vk tE))(hd:Γ fd=.dat false uC)(hc:check P f=some (19,(Zn fk fd).strip,[.cell 2 3 true,.tmp 3])):Sound P f (.dat false (WE tE)):=by
 refine Wa hc (Ua5 tE) hΓ (λargs K hcl hfi hG=>?_);match args,hG with
 | [a],hG=>
  obtain⟨t,rfl,ht,hl,hK⟩:=hG;refine⟨by simp,?_⟩
  have e2:errV tE 2=.one (.lit (.iface tE (.int .i64 2))):=vc tE (by decide)
  rcases kK t with h | h
  .rw [h,if_pos rfl,ub]at hK;simp only [go_sem,Zn,Ym,hk,hd,tA,tC,ht,Qb,h,ub];exact⟨by omega,by omega,hK⟩
  .rw [h,if_neg (by decide),e2,wZ,Yb]at hK
   simp only [go_sem,Zn,Ym,hk,hd,tA,tC,ht,Qb,h,e2];exact⟨by omega,hK⟩
theorem zaF(hΓ:Holds P Γ){f fk fd tE:Nat}(hk:Γ fk=.dat false (vk tE))(hd:Γ fd=.dat false uC)(hc:check P f=some (19,(Ym fk fd).strip,[.cell 2 3 true,.tmp 3])):Sound P f (.dat false (zE tE)):=by
 refine Wa hc (QaO tE) hΓ (λargs K hcl hfi hG=>?_);match args,hG with
 | [a],hG=>
  obtain⟨t,rfl,ht,hl,hK⟩:=hG;refine⟨by simp,?_⟩
  have e2:errV tE 2=.one (.lit (.iface tE (.int .i64 2))):=vc tE (by decide)
  rcases kK t with h | h
  .rw [h,if_pos rfl,ub]at hK;simp only [go_sem,Zn,Ym,hk,hd,tA,tC,ht,Qb,h,ub];exact⟨by omega,by omega,hK⟩
  .rw [h,if_neg (by decide),e2,wZ,Yb]at hK
   simp only [go_sem,Zn,Ym,hk,hd,tA,tC,ht,Qb,h,e2];exact⟨by omega,hK⟩
theorem UaE(hΓ:Holds P Γ){f fk fc fs tE:Nat}(hk:Γ fk=.dat false (vk tE))(hc' : Γ fc=.dat false (WE tE))(hs:Γ fs=.dat false (zE tE))(hc:check P f=some (29,(Ui fk fc fs tE).strip,[.cell 2 3 true,.cell 3 3 true,.tmp 4])):Sound P f (.dat false (YC tE)):=by
 refine Wa hc (za3 tE) hΓ (λargs K hcl hfi hG=>?_);match args,hG with
 | [a],hG=>
  obtain⟨t,rfl,ht,hl,hK⟩:=hG;refine⟨by simp,?_⟩
  have e2:errV tE 2=.one (.lit (.iface tE (.int .i64 2))):=vc tE (by decide)
  rcases kK t with h | h
  .rw [h,if_pos rfl,if_pos rfl,ub]at hK;simp only [go_sem,Ui,hk,hc',hs,tA,tC,ht,Qb,h,ub];exact⟨by omega,by omega,by omega,hK⟩
  .rw [h,if_neg (by decide),if_neg (by decide),e2,wZ,Yb]at hK
   simp only [go_sem,Ui,hk,hc',hs,tA,tC,ht,Qb,h,e2];exact⟨by omega,hK⟩
theorem VaF(hΓ:Holds P Γ){f fd fm fs fa tE:Nat}(hd:Γ fd=.dat false (YC tE))(hm:Γ fm=.dat false vl)(hs:Γ fs=.dat false Vx)(ha:Γ fa=.dat false jl)(hc:check P f=some (38,(Wn fd fm fs fa).strip,[.cell 4 6 true,.tmp 5])):Sound P f (.dat false (vF tE)):=by
 refine Wa hc (yaX tE) hΓ (λargs K hcl hfi hG=>?_);match args,hG with
 | [a,b],hG=>
  obtain⟨t,rfl,ht,q,rfl,hq,hl,hl',hK⟩:=hG;refine⟨by simp,?_⟩
  have e2:errV tE 2=.one (.lit (.iface tE (.int .i64 2))):=vc tE (by decide)
  rcases kK t with h | h
  .skip
   have r1:=Jg ht;have q1:=Jg hq.1;have q2:=Jg hq.2;obtain⟨l1,l2⟩:=al1 hl';have cc:=wab (tv t);have ss:=uab (tv t);have hrt:rz (tv t).1=rz (rv t.1):=rfl;obtain⟨c,hcc⟩:∃c,cosQ (tv t)=c:=⟨_,rfl⟩;obtain⟨s,hss⟩:∃s,sinQ (tv t)=s:=⟨_,rfl⟩;rw [hcc]at cc;rw [hss]at ss;have m1:=qc c (rv q.1);have m2:=qc s (rv q.2);have m3:=qc s (rv q.1);have m4:=qc c (rv q.2);have er:rotQ (tv t) (av q)=(c*rv q.1-s*rv q.2,s*rv q.1+c*rv q.2):=by unfold rotQ;rw [hcc,hss];rfl
   rw [h,if_pos rfl,ub,er]at hK;simp only [go_sem,Wn,hd,hm,hs,ha,tA,tC,Wc,ht,hq.1,hq.2,Qb,h,ub,hcc,hss];exact⟨by omega,by omega,by omega,by omega,by omega,by omega,by omega,by omega,by omega,by omega,by omega,by omega,by omega,hK⟩
  .rw [h,if_neg (by decide),e2,Wa4,Yb]at hK
   simp only [go_sem,Wn,hd,hm,hs,ha,tA,tC,Wc,ht,Qb,h,e2];exact⟨by omega,hK⟩
theorem jaG(hΓ:Holds P Γ){f fv fw fr fp tE:Nat}(hv:Γ fv=.dat true Yu)(hw:Γ fw=.dat true Qe)(hr:Γ fr=.dat false (vF tE))(hp' : Γ fp=.dat false Jz)(hc:check P f=some (33,(xl fv fw fr fp tE).strip,[.cell 4 6 true,.tmp 5])):Sound P f (.dat false (yC tE)):=by
 refine Wa hc (Za8 tE) hΓ (λargs K hcl hfi hG=>?_);match args,hG with
 | [a,b],hG=>
  obtain⟨p,rfl,hp,q,rfl,hq,hl,hl',hK⟩:=hG;refine⟨by simp,?_⟩
  obtain⟨l1,l2⟩:=pl1 hl;have e8:errV tE 2=.one (.lit (.iface tE (.int .i64 2))):=vc tE (by decide)
  unfold aok at hK;cases h1:pvld p with
  | false=>
   rw [h1,Bool.false_and,if_neg (by decide),if_neg (by decide),e8,Wa4,Yb]at hK
   simp only [go_sem,xl,hv,hw,poA,pC,Wc,hp,Qb,h1];exact⟨by omega,hK⟩
  | true=>
   cases h2:avld q with
   | false=>
    rw [h1,h2,Bool.true_and,if_neg (by decide),if_neg (by decide),e8,Wa4,Yb]at hK
    simp only [go_sem,xl,hv,hw,poA,pC,Wc,hp,hq,Qb,h1,h2];exact⟨by omega,by omega,hK⟩
   | true=>
    rw [h1,h2,Bool.true_and,if_pos rfl,if_pos rfl,ub]at hK;have ht:tchk p.1=0:=by
     unfold pvld at h1;rw [Bool.and_eq_true,decide_eq_true_eq]at h1;exact h1.1
    have r1:=Jg hp.1;have q1:=vaJ hq;have z:=Ubl (tv p.1) (av q);have e1:rz (tv p.1).1=rz (rv p.1.1):=rfl;have e2:al (rcan (rotQ (tv p.1) (av q)).1,rcan (rotQ (tv p.1) (av q)).2)=zq (rotQ (tv p.1) (av q)):=rfl;simp only [go_sem,xl,hv,hw,hr,hp',poA,pC,Wc,hp,hp.1,hp.2,hq,Qb,h1,h2,ht,ub,zbX,Wb];exact⟨by omega,by omega,by omega,by omega,by rw [e2];omega,by omega,hK⟩
end Go.Abs
end
section
namespace Go.Num
def inA(y:Rat)(x:Arc):Bool:=decide (rv x.1<=y) && decide (y<rv x.2)
def idxOf(y:Rat)(l:List Arc):Int:=match l.findIdx? (inA y) with | some i=>i | none=>-1
end Go.Num
namespace Go.Abs
open Go.Num
variable {P:Program} {Γ:Nat->Spec}
def pA(y:R):AV:=.one (.ref [cb y,cn y,cd y])
def kA(f:Nat)(y:R):AV:=.one (.clo f [.ref [cb y,cn y,cd y]])
theorem XbM(x y:R)(h:pA x=pA y):x=y:=Yp x y (by simpa [pA,rA] using h)
theorem kbK(f:Nat)(x y:R)(h:kA f x=kA f y):x=y:=Yp x y (by simpa [kA,rA] using h)
def onP(k:R->Prop)(a:AV):Prop:=onE pA (λx=>WLR x/\k x) a
@[congr] theorem Ub3{k:R->Prop}{a a'}(h:a=a'):onP k a=onP k a':=by subst h;rfl
theorem wbK(k:R->Prop)(x:R):onP k (.one (.ref [cb x,cn x,cd x]))=(WLR x/\k x):=Qn XbM (λx=>WLR x/\k x) x
def onKl(f:Nat)(k:R->Prop)(a:AV):Prop:=onE (kA f) (λx=>WLR x/\k x) a
@[congr] theorem YbY{f}{k:R->Prop}{a a'}(h:a=a'):onKl f k a=onKl f k a':=by subst h;rfl
theorem vbo(f:Nat)(k:R->Prop)(x:R):onKl f k (.one (.clo f [.ref [cb x,cn x,cd x]]))=(WLR x/\k x):=Qn (kbK f) (λx=>WLR x/\k x) x
attribute [go_sem,go_sem ↓] wbK vbo
theorem yaF(y:R):CleanL [cb y,cn y,cd y]:=by
 intro c hc;simp only [List.mem_cons,List.not_mem_nil,or_false]at hc;rcases hc with rfl | rfl | rfl
 .exact of_eq_true (jj _)
 .exact of_eq_true (Zj _)
 .exact of_eq_true (Jj _)
def qan(l:List AV)(K:AV->Prop):Prop:=
 match l with
 | [a,b]=>onA (λx=>onP (λy=>al x<=4294967296/\rl y<=4294967296/\K (.one (.lit (.bool (inA (rv y) x))))) b) a
 | _=>False
theorem Jao a b K:qan [a,b] K=(onA (λx=>onP (λy=>al x<=4294967296/\rl y<=4294967296/\K (.one (.lit (.bool (inA (rv y) x))))) b) a):=propext Iff.rfl
@[congr] theorem kbP{K}{l l'}(h:l=l'):qan l K=qan l' K:=by subst h;rfl
attribute [go_sem,go_sem ↓] Jao
def ZaO(fc:Nat)(l:List AV)(K:AV->Prop):Prop:=
 match l with
 | [a,c]=>onAs (λl=>onKl fc (λy=>okAs 4294967296 l/\rl y<=4294967296/\K (.one (.lit (.int .i64 (idxOf (rv y) l))))) c) a
 | _=>False
theorem UaP fc a c K:ZaO fc [a,c] K=(onAs (λl=>onKl fc (λy=>okAs 4294967296 l/\rl y<=4294967296/\K (.one (.lit (.int .i64 (idxOf (rv y) l))))) c) a):=propext Iff.rfl
@[congr] theorem wbT fc{K}{l l'}(h:l=l'):ZaO fc l K=ZaO fc l' K:=by subst h;rfl
attribute [go_sem,go_sem ↓] UaP
def qah(fc:Nat)(l:List AV)(K:AV->Prop):Prop:=
 match l with
 | [a,c]=>onAs (λl=>onKl fc (λy=>okAs 4294967296 l/\rl y<=4294967296/\K (.one (.lit (.bool (l.any (inA (rv y))))))) c) a
 | _=>False
theorem Uax fc a c K:qah fc [a,c] K=(onAs (λl=>onKl fc (λy=>okAs 4294967296 l/\rl y<=4294967296/\K (.one (.lit (.bool (l.any (inA (rv y))))))) c) a):=propext Iff.rfl
@[congr] theorem ybQ fc{K}{l l'}(h:l=l'):qah fc l K=qah fc l' K:=by subst h;rfl
attribute [go_sem,go_sem ↓] Uax
def JaK(tE:Nat)(l:List AV)(K:AV->Prop):Prop:=
 match l with
 | [a,b]=>onAs (λl=>onR (λy=>okAs 4294967296 l/\rl y<=1000000000/\K (.tup [.one (.lit (.bool (decide (chk [l]=0) && (vldR y && l.any (inA (frac (rv y))))))),errV tE (if chk [l]=0 then (if vldR y then 0 else 3) else chk [l])])) b) a
 | _=>False
theorem ya6 tE a b K:JaK tE [a,b] K=(onAs (λl=>onR (λy=>okAs 4294967296 l/\rl y<=1000000000/\K (.tup [.one (.lit (.bool (decide (chk [l]=0) && (vldR y && l.any (inA (frac (rv y))))))),errV tE (if chk [l]=0 then (if vldR y then 0 else 3) else chk [l])])) b) a):=propext Iff.rfl
@[congr] theorem Ub1 tE{K}{l l'}(h:l=l'):JaK tE l K=JaK tE l' K:=by subst h;rfl
attribute [go_sem,go_sem ↓] ya6
end Go.Abs
end
section
namespace Go.Num
def longR(x:R):Bool:=decide (4<x.2.1.length+x.2.2.length)
def largeL(l:List Arc):Bool:=if 20<l.length then (decide (l.length<=64) || decide (200<l.length)) else l.any λx=>longR x.1 || longR x.2
def validL(l:List Arc):Bool:=!largeL l && decide (chk1 l=0)
end Go.Num
namespace Go.Abs
open Go.Num
variable {P:Program} {Γ:Nat->Spec}
def QY(l:List AV)(K:AV->Prop):Prop:=
 match l with
 | [a]=>onAs (λl=>okAs 1073741824 l/\K (.one (.lit (.int .i64 (chk1 l:Nat))))) a
 | _=>False
theorem Jab a K:QY [a] K=(onAs (λl=>okAs 1073741824 l/\K (.one (.lit (.int .i64 (chk1 l:Nat))))) a):=propext Iff.rfl
@[congr] theorem JbD{K}{l l'}(h:l=l'):QY l K=QY l' K:=by subst h;rfl
attribute [go_sem,go_sem ↓] Jab
def wag(l:List AV)(K:AV->Prop):Prop:=
 match l with
 | [a,b]=>onAs (λl=>onAs (λm=>okAs 1073741824 l/\okAs 1073741824 m/\K (.one (.lit (.bool (decide (vals l=vals m)))))) b) a
 | _=>False
theorem kap a b K:wag [a,b] K=(onAs (λl=>onAs (λm=>okAs 1073741824 l/\okAs 1073741824 m/\K (.one (.lit (.bool (decide (vals l=vals m)))))) b) a):=propext Iff.rfl
@[congr] theorem ubN{K}{l l'}(h:l=l'):wag l K=wag l' K:=by subst h;rfl
attribute [go_sem,go_sem ↓] kap
def Vak(l:List AV)(K:AV->Prop):Prop:=
 match l with
 | [a]=>onR (λx=>rl x<=1000000000/\K (.agg [cb (rcan (frac (rv x))),cn (rcan (frac (rv x))),cd (rcan (frac (rv x)))])) a
 | _=>False
theorem uan a K:Vak [a] K=(onR (λx=>rl x<=1000000000/\K (.agg [cb (rcan (frac (rv x))),cn (rcan (frac (rv x))),cd (rcan (frac (rv x)))])) a):=propext Iff.rfl
@[congr] theorem qbR{K}{l l'}(h:l=l'):Vak l K=Vak l' K:=by subst h;rfl
attribute [go_sem,go_sem ↓] uan
def ual(l:List AV)(K:AV->Prop):Prop:=
 match l with
 | [a,b]=>asInt (λk n=>asInt (λk' d=>k=.i64/\k' = .i64/\(-9223372036854775808<=n/\n<=9223372036854775807)/\(-9223372036854775808<=d/\d<=9223372036854775807)/\d≠0/\K (.agg [cb (rcan (Rat.divInt n d)),cn (rcan (Rat.divInt n d)),cd (rcan (Rat.divInt n d))])) b) a
 | _=>False
theorem jat a b K:ual [a,b] K=(asInt (λk n=>asInt (λk' d=>k=.i64/\k' = .i64/\(-9223372036854775808<=n/\n<=9223372036854775807)/\(-9223372036854775808<=d/\d<=9223372036854775807)/\d≠0/\K (.agg [cb (rcan (Rat.divInt n d)),cn (rcan (Rat.divInt n d)),cd (rcan (Rat.divInt n d))])) b) a):=propext Iff.rfl
@[congr] theorem XbR{K}{l l'}(h:l=l'):ual l K=ual l' K:=by subst h;rfl
attribute [go_sem,go_sem ↓] jat
def zaj(l:List AV)(K:AV->Prop):Prop:=
 match l with
 | [a]=>onR (λx=>rl x<=4294967296/\K (.one (.lit (.bool (longR x))))) a
 | _=>False
theorem Zao a K:zaj [a] K=(onR (λx=>rl x<=4294967296/\K (.one (.lit (.bool (longR x))))) a):=propext Iff.rfl
@[congr] theorem XbP{K}{l l'}(h:l=l'):zaj l K=zaj l' K:=by subst h;rfl
attribute [go_sem,go_sem ↓] Zao
def ZX(l:List AV)(K:AV->Prop):Prop:=
 match l with
 | [a]=>onAs (λl=>okAs 1073741824 l/\K (.one (.lit (.bool (largeL l))))) a
 | _=>False
theorem wad a K:ZX [a] K=(onAs (λl=>okAs 1073741824 l/\K (.one (.lit (.bool (largeL l))))) a):=propext Iff.rfl
@[congr] theorem XbA{K}{l l'}(h:l=l'):ZX l K=ZX l' K:=by subst h;rfl
attribute [go_sem,go_sem ↓] wad
def UL(l:List AV)(K:AV->Prop):Prop:=
 match l with
 | [a]=>onAs (λl=>okAs 1073741824 l/\K (.one (.lit (.bool (validL l))))) a
 | _=>False
theorem kU a K:UL [a] K=(onAs (λl=>okAs 1073741824 l/\K (.one (.lit (.bool (validL l))))) a):=propext Iff.rfl
@[congr] theorem Xbz{K}{l l'}(h:l=l'):UL l K=UL l' K:=by subst h;rfl
attribute [go_sem,go_sem ↓] kU
def jW(tE:Nat)(l:List AV)(K:AV->Prop):Prop:=
 match l with
 | [a]=>onAs (λl=>K (.tup [.one (.slice ((if 64<l.length then [] else l).map aC)),errV tE (if 64<l.length then 4 else 0)])) a
 | _=>False
theorem qac tE a K:jW tE [a] K=(onAs (λl=>K (.tup [.one (.slice ((if 64<l.length then [] else l).map aC)),errV tE (if 64<l.length then 4 else 0)])) a):=propext Iff.rfl
@[congr] theorem xbJ tE{K}{l l'}(h:l=l'):jW tE l K=jW tE l' K:=by subst h;rfl
attribute [go_sem,go_sem ↓] qac
end Go.Abs
end
