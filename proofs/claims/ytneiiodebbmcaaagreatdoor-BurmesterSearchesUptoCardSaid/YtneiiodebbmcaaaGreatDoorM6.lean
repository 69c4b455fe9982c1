/-
  Parts of the proof, merged: ArgD, RatC, RefA, RatD, RatE, PoseP, PoseB, PoseC, ChartE, ChartF.
-/
import Derived.Test.YtneiiodebbmcaaaGreatDoorM5
set_option linter.unusedVariables false
set_option linter.unusedSimpArgs false
set_option maxRecDepth 100000
section
namespace Go.Abs
open Go.Num
variable {H:Type} {enc:TypeId×Value->H} {bulk:DataW H->Nat} {P:Program} {w:World} {α:Type}
def okTn(n:Nat)(x:Tn):Prop:=rl x.1<=n/\WLR x.1
def okPose(n:Nat)(x:Ps):Prop:=okP n x
theorem Ua4(n n' : Nat)(a:Tn)(h:n<=n')(k:okTn n a):okTn n' a:=⟨Nat.le_trans k.1 h,k.2⟩
theorem vO(n n' : Nat)(a:Ps)(h:n<=n')(k:okPose n a):okPose n' a:=⟨k.1,Nat.le_trans k.2 h⟩
structure TnT (P:Program) (t:TypeId):Prop where
 ex:∃f0 f1:Field,P.underlying t=some (.struct #[f0,f1])/\f0.offset=0/\f1.offset=3/\P.cellsOf t=4/\P.cellsOf f0.type=3/\P.cellsOf f1.type=1/\RatT P f0.type/\P.underlying f1.type=some .bool
theorem kbd{t:TypeId}(B:Bk bulk)(h:TnT P t):Opens enc bulk P w t tC okTn:=by
 obtain⟨f0,f1,ht,o0,o1,hs,c0,c1,r0,r1⟩:=h.ex;have:=ZB (enc:=enc) (w:=w) B ht o0 (by omega) (by omega) wJ (λ_ _ _ _ h=>h) (ZF (enc:=enc) (w:=w) B r0) (kU (enc:=enc) (bulk:=bulk) (w:=w) r1)
 exact this.imp λn x h=>⟨h.1.1,h.1.2⟩
structure PsT (P:Program) (t:TypeId):Prop where
 ex:∃f0 f1:Field,P.underlying t=some (.struct #[f0,f1])/\f0.offset=0/\f1.offset=4/\P.cellsOf t=10/\P.cellsOf f0.type=4/\P.cellsOf f1.type=6/\TnT P f0.type/\ArcT P f1.type
theorem xbe{t:TypeId}(B:Bk bulk)(h:PsT P t):Opens enc bulk P w t pC okPose:=by
 obtain⟨f0,f1,ht,o0,o1,hs,c0,c1,r0,r1⟩:=h.ex;have:=ZB (enc:=enc) (w:=w) B ht o0 (by omega) (by omega) Ua4 XV (kbd (enc:=enc) (w:=w) B r0) (Xag (enc:=enc) (w:=w) B r1)
 exact this.imp λn x h=>⟨⟨h.1.2,h.2.1⟩,Nat.max_le.2 ⟨h.1.1,h.2.2⟩⟩
structure PosesT (P:Program) (t:TypeId):Prop where
 ex:∃u,P.underlying t=some (.slice u)/\P.cellsOf u=10/\PsT P u
theorem Uak{t:TypeId}(B:Bk bulk)(h:PosesT P t):Opens enc bulk P w t (λl:List Ps=>[.slice (l.map pC)]) (okLs okPose):=by
 obtain⟨u,ht,hc,hu⟩:=h.ex;exact vL (enc:=enc) (w:=w) (e:=pC) B ht (by omega) (λa=>by rw [hc];rfl) ju vO (xbe B hu)
structure DyT (P:Program) (t:TypeId):Prop where
 ex:∃f0 f1 f2:Field,P.underlying t=some (.struct #[f0,f1,f2])/\f0.offset=0/\f1.offset=6/\f2.offset=12/\P.cellsOf t=15/\P.cellsOf f0.type=6/\P.cellsOf f1.type=6/\P.cellsOf f2.type=3/\ArcT P f0.type/\ArcT P f1.type/\RatT P f2.type
end Go.Abs
end
section
namespace Go.Abs
open Go.Num
variable {P:Program} {Γ:Nat->Spec}
def ko(f0 f1 f2 f3:Nat):AC:=(.seq (.ops false [.u 1 (.box 3 (.t 0)),.m 2 .fa])
 (.fg [1] (.seq (.seq (.ops false [.u 5 (.fa 1 (.t 1)),.u 6 (.ld none 1 false (.t 5)),.u 7 (.len (.t 6)),.u 8 (.bin .eql (.t 7) (.i 0)),.m 9 (.t 8),.w 10 9 true (.fa 2 (.t 1)),.w 11 9 true (.ld none 1 false (.t 10)),.w 12 9 true (.len (.t 11)),.w 13 9 true (.bin .eql (.t 12) (.i 0)),.u 14 (.pick (.t 9) (.t 13) .fa)])
 (.fg [1,14] (.cond (.t 14) (.seq (.ops false [.u 15 (.fa 0 (.t 1)),.u 16 (.ld none 1 false (.t 15)),.u 17 (.un .not (.t 16)),.m 2 (.t 17)])
 .ret) .skip)))
 (.fg [1] (.seq (.ops true [.u 18 (.fa 1 (.t 1)),.u 19 (.ld (some 1) 1 false (.t 18)),.u 20 (.build [.z [(.lit (.bool false))],.x 1 (.t 19)]),.u 21 (.fa 2 (.t 1)),.u 22 (.ld (some 1) 1 false (.t 21)),.u 23 (.build [.z [(.lit (.bool false))],.x 1 (.t 22)]),.u 3 (.alloc [(.lit (.bool false)),.emp]),.u 4 (.alloc [(.lit (.bool false)),.emp]),.n (.st (some 3) 2 (.t 3) (.t 20)),.n (.st (some 4) 2 (.t 4) (.t 23))])
 (.fg [1,3,4] (.seq (.seq (.ops false [.u 24 (.fa 1 (.t 1)),.u 25 (.ld none 1 false (.t 24)),.u 26 (.len (.t 25)),.u 27 (.bin .eql (.t 26) (.i 0)),.m 28 (.t 27),.w 29 28 false (.fa 2 (.t 1)),.w 30 28 false (.ld none 1 false (.t 29)),.w 31 28 false (.len (.t 30)),.w 32 28 false (.bin .eql (.t 31) (.i 0)),.u 33 (.pick (.t 28) .tr (.t 32)),.m 34 (.t 33),.w 35 34 false (.ld none 2 true (.t 3)),.w 36 34 false (.call f0 [(.t 35)]),.w 37 34 false (.un .not (.t 36)),.u 38 (.pick (.t 34) .tr (.t 37)),.m 39 (.t 38),.w 40 39 false (.ld none 2 true (.t 4)),.w 41 39 false (.call f0 [(.t 40)]),.w 42 39 false (.un .not (.t 41)),.u 43 (.pick (.t 39) .tr (.t 42))])
 (.fg [3,4,43] (.cond (.t 43) (.seq (.ops false [.m 2 .fa])
 .ret) .skip)))
 (.fg [3,4] (.seq (.ops false [.u 44 (.ld none 2 true (.t 3)),.u 45 (.ld none 2 true (.t 4)),.u 46 (.call f1 [(.t 44),(.t 45)]),.u 47 (.call f2 []),.u 48 (.call f3 [(.t 46),(.t 47)]),.u 49 (.bin .eql (.t 48) (.i 0)),.m 2 (.t 49)])
 .ret)))))))))
def yo(f0 f1:Nat):AC:=(.seq (.ops false [.u 1 (.box 3 (.t 0)),.u 2 (.alloc [(.lit (.bool false)),.emp]),.u 3 (.alloc [(.lit (.bool false)),.emp])])
 (.fg [1,2,3] (.seq (.seq (.ops false [.u 4 (.ld none 3 true (.t 1)),.u 5 (.call f0 [(.t 4)]),.u 6 (.un .not (.t 5)),.m 7 (.t 6),.w 8 7 false (.fa 1 (.t 1)),.w 9 7 false (.ld none 1 false (.t 8)),.w 10 7 false (.len (.t 9)),.w 11 7 false (.bin .eql (.t 10) (.i 0)),.u 12 (.pick (.t 7) .tr (.t 11))])
 (.fg [1,2,3,12] (.cond (.t 12) (.seq (.ops false [.u 13 (.build [.z [(.lit (.bool false)),.emp]]),.u 14 (.call f1 []),.n (.st none 2 (.t 2) (.t 13)),.n (.st none 2 (.t 3) (.t 14))])
 .ret) .skip)))
 (.fg [1,2,3] (.seq (.ops true [.u 15 (.fa 0 (.t 1)),.u 16 (.ld none 1 false (.t 15)),.m 17 (.c (.one .emp)),.u 18 (.fa 1 (.t 1)),.u 19 (.ld none 1 false (.t 18)),.u 20 (.app0 1 (.t 17) (.t 19)),.u 21 (.build [.x 1 (.t 16),.x 1 (.t 20)]),.n (.st none 2 (.t 2) (.t 21))])
 (.fg [1,2,3] (.seq (.ops true [.u 22 (.ld none 2 true (.t 2)),.m 23 (.c (.one .emp)),.u 24 (.fa 2 (.t 1)),.u 25 (.ld none 1 false (.t 24)),.u 26 (.app0 1 (.t 23) (.t 25)),.u 27 (.build [.z [(.lit (.bool false))],.x 1 (.t 26)]),.n (.st none 2 (.t 2) (.t 22)),.n (.st none 2 (.t 3) (.t 27))])
 .ret)))))))
def Zr(f0 f1 f2 f3:Nat):AC:=(.seq (.ops false [.u 2 (.box 2 (.t 0)),.u 3 (.box 2 (.t 1)),.u 4 (.alloc [(.lit (.bool false)),.emp,.emp])])
 (.fg [2,3,4] (.seq (.seq (.ops false [.u 7 (.ld none 2 true (.t 2)),.u 8 (.call f0 [(.t 7)]),.u 9 (.bin .eql (.t 8) (.i 0))])
 (.fg [2,3,4,9] (.cond (.t 9) (.seq (.ops false [.u 10 (.build [.z [(.lit (.bool false)),.emp,.emp]]),.n (.st none 3 (.t 4) (.t 10))])
 .ret) .skip)))
 (.fg [2,3,4] (.seq (.seq (.ops false [.u 11 (.ld none 2 true (.t 3)),.u 12 (.call f0 [(.t 11)]),.u 13 (.bin .lss (.t 12) (.i 0))])
 (.fg [2,3,4,13] (.cond (.t 13) (.ops true [.u 14 (.ld none 2 true (.t 2)),.u 15 (.call f1 [(.t 14)]),.u 16 (.ld none 2 true (.t 3)),.u 17 (.call f1 [(.t 16)]),.n (.st none 2 (.t 2) (.t 15)),.n (.st none 2 (.t 3) (.t 17))]) .skip)))
 (.fg [2,3,4] (.seq (.ops false [.u 18 (.ld none 2 true (.t 2)),.u 19 (.ld none 2 true (.t 3)),.u 20 (.call f2 [(.t 18),(.t 19)]),.u 5 (.alloc [(.lit (.bool false)),.emp]),.n (.st none 2 (.t 5) (.t 20))])
 (.fg [2,3,4,5] (.seq (.ops false [.u 21 (.ld none 2 true (.t 2)),.u 22 (.call f0 [(.t 21)]),.u 23 (.bin .lss (.t 22) (.i 0)),.m 6 (.t 23)])
 (.fg [2,3,4,5,6] (.seq (.seq (.ops false [.m 24 (.t 6)])
 (.fg [2,3,4,5,6,24] (.cond (.t 24) (.ops false [.u 25 (.ld none 2 true (.t 2)),.u 26 (.call f1 [(.t 25)]),.n (.st none 2 (.t 2) (.t 26))]) .skip)))
 (.fg [2,3,4,5,6] (.seq (.ops false [.u 28 (.ld none 2 true (.t 2)),.u 29 (.ld none 2 true (.t 5)),.u 30 (.call f3 [(.t 28),(.t 29)]),.m 27 (.t 30),.u 31 (.ext 0 (.t 27)),.u 32 (.ext 1 (.t 27)),.u 33 (.ext 2 (.t 27)),.n (.st none 2 (.t 2) (.t 31))])
 (.fg [2,3,4,5,6] (.seq (.ops false [.u 35 (.ld none 2 true (.t 3)),.u 36 (.ld none 2 true (.t 5)),.u 37 (.call f3 [(.t 35),(.t 36)]),.m 34 (.t 37),.u 38 (.ext 0 (.t 34)),.u 39 (.ext 1 (.t 34)),.u 40 (.ext 2 (.t 34)),.n (.st none 2 (.t 3) (.t 38))])
 (.fg [2,3,4,6] (.seq (.ops false [.m 41 (.t 6),.u 42 (.fa 1 (.t 2)),.u 43 (.ld none 1 false (.t 42)),.u 44 (.fa 1 (.t 3)),.u 45 (.ld none 1 false (.t 44)),.u 46 (.build [.x 1 (.t 41),.x 1 (.t 43),.x 1 (.t 45)]),.n (.st none 3 (.t 4) (.t 46))])
 .ret)))))))))))))))))
def ym(f0:Nat):AC:=(.seq (.ops false [.u 0 (.alloc [(.lit (.bool false)),.emp])])
 (.fg [0] (.seq (.ops false [.u 1 (.call f0 [(.i 1)]),.n (.st none 2 (.t 0) (.t 1))])
 .ret)))
def uo(f0 f1 f2:Nat):AC:=(.seq (.ops false [.u 2 (.alloc [(.lit (.bool false)),.emp,.emp])])
 (.fg [0,2] (.seq (.ops false [.m 3 (.t 0),.u 4 (.call f0 [(.t 3)]),.u 5 (.call f1 []),.u 6 (.call f2 [(.t 4),(.t 5)]),.n (.st none 3 (.t 2) (.t 6))])
 .ret)))
def Xm(f0 f1 f2:Nat):AC:=(.seq (.ops false [.u 1 (.box 3 (.t 0)),.u 2 (.alloc [(.lit (.bool false)),.emp,.emp])])
 (.fg [1,2] (.seq (.ops false [.u 6 (.ld none 3 true (.t 1)),.u 7 (.call f0 [(.t 6)]),.m 5 (.t 7),.u 8 (.ext 0 (.t 5)),.u 9 (.ext 1 (.t 5)),.u 3 (.alloc [(.lit (.bool false)),.emp]),.u 4 (.alloc [(.lit (.bool false)),.emp]),.n (.st none 2 (.t 3) (.t 8)),.n (.st none 2 (.t 4) (.t 9))])
 (.fg [2,3,4] (.seq (.ops true [.u 10 (.ld none 2 true (.t 3)),.u 11 (.call f1 [(.t 10)]),.u 12 (.ld none 2 true (.t 4)),.u 13 (.call f2 [(.t 11),(.t 12)]),.n (.st none 3 (.t 2) (.t 13))])
 .ret)))))
def Jl(f0 f1:Nat):AC:=(.seq (.ops false [.u 1 (.box 3 (.t 0)),.m 2 (.i 0)])
 (.fg [1] (.seq (.ops false [.u 6 (.ld none 3 true (.t 1)),.u 7 (.call f0 [(.t 6)]),.m 5 (.t 7),.u 8 (.ext 0 (.t 5)),.u 9 (.ext 1 (.t 5)),.u 3 (.alloc [(.lit (.bool false)),.emp]),.u 4 (.alloc [(.lit (.bool false)),.emp]),.n (.st none 2 (.t 3) (.t 8)),.n (.st none 2 (.t 4) (.t 9))])
 (.fg [3] (.seq (.ops false [.u 10 (.ld none 2 true (.t 3)),.u 11 (.call f1 [(.t 10)]),.m 2 (.t 11)])
 .ret)))))
def jn(f0 f1 f2 f3:Nat):AC:=(.seq (.ops false [.u 2 (.box 3 (.t 0)),.u 3 (.box 3 (.t 1)),.u 4 (.alloc [(.lit (.bool false)),.emp,.emp])])
 (.fg [2,3,4] (.seq (.ops false [.u 10 (.ld none 3 true (.t 2)),.u 11 (.call f0 [(.t 10)]),.m 9 (.t 11),.u 12 (.ext 0 (.t 9)),.u 13 (.ext 1 (.t 9)),.u 5 (.alloc [(.lit (.bool false)),.emp]),.u 6 (.alloc [(.lit (.bool false)),.emp]),.n (.st none 2 (.t 5) (.t 12)),.n (.st none 2 (.t 6) (.t 13))])
 (.fg [3,4,5,6] (.seq (.ops false [.u 15 (.ld none 3 true (.t 3)),.u 16 (.call f0 [(.t 15)]),.m 14 (.t 16),.u 17 (.ext 0 (.t 14)),.u 18 (.ext 1 (.t 14)),.u 7 (.alloc [(.lit (.bool false)),.emp]),.u 8 (.alloc [(.lit (.bool false)),.emp]),.n (.st none 2 (.t 7) (.t 17)),.n (.st none 2 (.t 8) (.t 18))])
 (.fg [4,5,6,7,8] (.seq (.ops true [.u 19 (.ld none 2 true (.t 5)),.u 20 (.ld none 2 true (.t 8)),.u 21 (.call f1 [(.t 19),(.t 20)]),.u 22 (.ld none 2 true (.t 7)),.u 23 (.ld none 2 true (.t 6)),.u 24 (.call f1 [(.t 22),(.t 23)]),.u 25 (.call f2 [(.t 21),(.t 24)]),.u 26 (.ld none 2 true (.t 6)),.u 27 (.ld none 2 true (.t 8)),.u 28 (.call f1 [(.t 26),(.t 27)]),.u 29 (.call f3 [(.t 25),(.t 28)]),.n (.st none 3 (.t 4) (.t 29))])
 .ret)))))))
def Vm(f0 f1:Nat):AC:=(.seq (.ops false [.u 2 (.box 3 (.t 0)),.u 3 (.box 3 (.t 1)),.u 4 (.alloc [(.lit (.bool false)),.emp,.emp])])
 (.fg [2,3,4] (.seq (.ops true [.u 5 (.ld none 3 true (.t 2)),.u 6 (.ld none 3 true (.t 3)),.u 7 (.call f0 [(.t 6)]),.u 8 (.call f1 [(.t 5),(.t 7)]),.n (.st none 3 (.t 4) (.t 8))])
 .ret)))
def Qr(f0 f1 tE:Nat):AC:=(.seq (.ops false [.u 2 (.box 2 (.t 0)),.u 3 (.box 2 (.t 1)),.u 4 (.alloc [(.lit (.bool false)),.emp,.emp]),.m 5 (.c (.one (.lit .nilIface)))])
 (.fg [2,3,4] (.seq (.seq (.ops false [.u 6 (.ld none 2 true (.t 3)),.u 7 (.call f0 [(.t 6)]),.u 8 (.bin .eql (.t 7) (.i 0))])
 (.fg [2,3,4,8] (.cond (.t 8) (.seq (.ops false [.u 9 (.build [.z [(.lit (.bool false)),.emp,.emp]]),.u 10 (.iface tE (.i 8)),.n (.st none 3 (.t 4) (.t 9)),.m 5 (.t 10)])
 .ret) .skip)))
 (.fg [2,3,4] (.seq (.ops false [.u 11 (.ld none 2 true (.t 2)),.u 12 (.ld none 2 true (.t 3)),.u 13 (.call f1 [(.t 11),(.t 12)]),.n (.st none 3 (.t 4) (.t 13)),.m 5 (.c (.one (.lit .nilIface)))])
 .ret)))))
theorem WaN{n:Int}:n.sign<0↔n<0:=by
 rcases Int.lt_trichotomy n 0 with h | h | h
 .rw [Int.sign_eq_neg_one_of_neg h];omega
 .subst h;simp
 .rw [Int.sign_eq_one_of_pos h];omega
theorem ZD{n d N D:Int}{g:Nat}{m:Bool}(hd:d≠0)(hn:n≠0)(hN:0<=N)(hD:0<=D)(e1:N.natAbs=n.natAbs)(e2:D.natAbs=d.natAbs)(eg:g=Int.gcd n d)(em:m=decide (d.sign*n<0)) :
  AV.agg [.lit (.bool m),zm (zcan (N / (g:Int))),zm (zcan (D / (g:Int)))]=.agg [cb (rcan (Rat.divInt n d)),cn (rcan (Rat.divInt n d)),cd (rcan (Rat.divInt n d))]:=by
 obtain⟨N',rfl⟩:=Int.eq_ofNat_of_zero_le hN;obtain⟨D',rfl⟩:=Int.eq_ofNat_of_zero_le hD;simp only [Int.natAbs_natCast]at e1 e2;subst e1 e2 eg em;rw [yaK,yaH,JaF,qO hd hn,waG,waG];simp only [zcan];rw [<-Int.natCast_ediv,<-Int.natCast_ediv];simp only [Int.natAbs_natCast]
theorem vaV{v w:Int}{s:Nat}(h:w≠0)(hw:zs w<=s):zs ((Int.gcd v w:Nat):Int)<=s:=by
 refine Nat.le_trans (Qal ?_) hw;simp only [Int.natAbs_natCast];exact Nat.le_of_dvd (by omega) (Int.gcd_dvd_natAbs_right _ _)
theorem Waf{a b:Int}:ordI a b=0↔a=b:=by unfold ordI;split <;> (try split) <;> omega
theorem uaX{l:List Nat}(h:l≠[]):vldW (false,l)=decide (NZ l):=by unfold vldW;rw [if_neg h]
theorem zv_f{l:List Nat}(h:NZ l):zv (false,l)=(val l:Int):=by
 unfold zv;by_cases e:l=[]
 .subst e;simp [vldW]
 .rw [uaX e];simp [h]
theorem WP(hΓ:Holds P Γ){f fo:Nat}(ho:Γ fo=.dat false ZJ)(hc:check P f=some (2,(ym fo).strip,[.cell 0 2 true])):Sound P f (.dat false Qq):=by
 refine ka hc ua6 hΓ (λargs K hcl hfi hG=>?_);match args,hG with
 | [],hG=>
  have hK:=hG;simp only [Qq]at hK;refine⟨by simp,?_⟩
  simp only [go_sem,ym,ho];refine⟨by omega,by omega,hK⟩
theorem waa(hΓ:Holds P Γ){f fv fg fo fc:Nat}(hv:Γ fv=.dat true Xj)(hg:Γ fg=.dat false uu)(ho:Γ fo=.dat false Qq)(hc' : Γ fc=.dat true vD)(hc:check P f=some (50,(ko fv fg fo fc).strip,[.tmp 2])):Sound P f (.dat true wd):=by
 refine ka hc uM hΓ (λargs K hcl hfi hG=>?_);match args,hG with
 | [a],hG=>
  obtain⟨x,rfl,hx,hl,hK⟩:=hG;refine⟨by simp,?_⟩
  simp only [go_sem,ko,hv,hg,ho,hc',yaK,yaH,JaF];have hl1:x.2.1.length<=4294967296:=Nat.le_trans (Nat.le_max_left _ _) hl;have hl2:x.2.2.length<=4294967296:=Nat.le_trans (Nat.le_max_right _ _) hl;have key:x.2.1≠[]->x.2.2≠[]->WL x.2.1/\(vldW (false,x.2.1)=true->WL x.2.2/\(vldW (false,x.2.2)=true->WL x.2.1/\WL x.2.2/\zs (zv (false,x.2.1))<=17179869184/\zs (zv (false,x.2.2))<=17179869184/\
    K (AV.one (C.lit (Value.bool (decide (ordI (((zv (false,x.2.1)).gcd (zv (false,x.2.2)):Nat):Int) 1=0))))))/\(vldW (false,x.2.2)=false->K (AV.one (C.lit (Value.bool false)))))/\(vldW (false,x.2.1)=false->K (AV.one (C.lit (Value.bool false)))):=by
   intro hn hd;unfold vldR at hK;rw [if_neg (λe=>hn e.1)]at hK;rw [uaX hn,uaX hd];refine⟨hx.1,λh1=>⟨hx.2,λh2=>⟨hx.1,hx.2,?_,?_,?_⟩,λh2=>?_⟩,λh1=>?_⟩
   .rw [zv_f (of_decide_eq_true h1),zag,je hx.1 (of_decide_eq_true h1)];omega
   .rw [zv_f (of_decide_eq_true h2),zag,je hx.2 (of_decide_eq_true h2)];omega
   .rw [zv_f (of_decide_eq_true h1),zv_f (of_decide_eq_true h2)];have e:decide (ordI (((((val x.2.1:Nat):Int)).gcd ((val x.2.2:Nat):Int):Nat):Int) 1=0)=decide (x.2.1≠[]/\x.2.2≠[]/\NZ x.2.1/\NZ x.2.2/\Nat.gcd (val x.2.1) (val x.2.2)=1):=by
     rw [decide_eq_decide,Waf,Int.gcd_natCast_natCast];have h1':=of_decide_eq_true h1;have h2':=of_decide_eq_true h2;constructor
     .intro h;exact⟨hn,hd,h1',h2',by omega⟩
     .rintro⟨_,_,_,_,h⟩;omega
    rw [e];exact hK
   .rw [decide_eq_false (λh=>of_decide_eq_false h2 h.2.2.2.1)]at hK;exact hK
   .rw [decide_eq_false (λh=>of_decide_eq_false h1 h.2.2.1)]at hK;exact hK
  have e0:∀{l:List Nat},¬l.length=0->l≠[]:=λh e=>h (by rw [e];rfl)
  have key0:¬(x.2.1=[]/\x.2.2=[])->(x.2.1=[]∨x.2.2=[])->K (AV.one (C.lit (Value.bool false))):=by
   intro h1 h2;unfold vldR at hK;rw [if_neg h1,decide_eq_false (λh=>h2.elim h.1 h.2.1)]at hK;exact hK
  refine λ_=>⟨λhn _=>⟨λhd=>?_,λhd _=>⟨λh=>?_,λh=>absurd hn h⟩⟩,λhn _=>⟨λh=>absurd h hn,λ_ _=>⟨λhd=>?_,λhd=>key (e0 hn) (e0 hd)⟩⟩⟩
  .unfold vldR at hK;rw [if_pos ⟨List.eq_nil_of_length_eq_zero hn,List.eq_nil_of_length_eq_zero hd⟩]at hK;exact hK
  .exact key0 (λh=>e0 hd h.2) (.inl (List.eq_nil_of_length_eq_zero hn))
  .exact key0 (λh=>e0 hn h.1) (.inr (List.eq_nil_of_length_eq_zero hd))
theorem yaf(hΓ:Holds P Γ){f fv fo:Nat}(hv:Γ fv=.dat true wd)(ho:Γ fo=.dat false Qq)(hc:check P f=some (28,(yo fv fo).strip,[.cell 2 2 true,.cell 3 2 true])):Sound P f (.dat false Ve):=by
 refine ka hc xK hΓ (λargs K hcl hfi hG=>?_);match args,hG with
 | [a],hG=>
  obtain⟨x,rfl,hx,hl,hK⟩:=hG;refine⟨by simp,?_⟩
  simp only [go_sem,yo,hv,ho,yaK,yaH,JaF];have hl1:x.2.1.length<=4294967296:=Nat.le_trans (Nat.le_max_left _ _) hl;have hl2:x.2.2.length<=4294967296:=Nat.le_trans (Nat.le_max_right _ _) hl;have e0:(zcan 0)=(false,[]):=by simp [zcan,Wb]
  have h0:rv x=0->K (AV.tup [AV.agg [C.lit (Value.bool false),C.slice []],AV.agg [zb (zcan 1),zm (zcan 1)]]):=by
   intro h;rw [h]at hK;have e1:((0:Rat).num)=0:=rfl;have e2:((0:Rat).den:Int)=1:=rfl;rw [e1,e2,e0]at hK;exact hK
  refine⟨hx,hl,λhv _=>⟨λhn=>h0 ?_,λhn=>⟨by omega,by omega,?_⟩⟩,λhv=>h0 (uan hv)⟩
  .unfold rv;rw [if_pos hv,List.eq_nil_of_length_eq_zero hn];simp [val,sg]
  .obtain⟨p1,p2,p3,p4,p5,p6⟩:=qY hx hv (λe=>hn (by rw [e];rfl))
   have hn0:=jd p4 (λe=>hn (by rw [e];rfl))
   rw [p1,p2]at hK;have e1:zcan (sg x.1 (val x.2.1))=(x.1,x.2.1):=by
    rw [<-ZW,je hx.1 p4];have:decide (0<x.2.1.length)=true:=by simp only [decide_eq_true_eq];omega
    rw [this,Bool.and_true]
   have e2:zcan ((val x.2.2:Nat):Int)=(false,x.2.2):=by
    have:=ZW false (val x.2.2);rw [je hx.2 p5,Bool.false_and]at this;exact this.symm
   rw [e1,e2]at hK;exact hK
theorem zan(hΓ:Holds P Γ){f fs fn fg fd:Nat}(hs:Γ fs=.dat true vg)(hn:Γ fn=.dat false Zw)(hg:Γ fg=.dat false uu)(hd:Γ fd=.dat false WE)(hc:check P f=some (47,(Zr fs fn fg fd).strip,[.cell 4 3 true])):Sound P f (.dat false Jj):=by
 refine ka hc WQ hΓ (λargs K hcl hfi hG=>?_);match args,hG with
 | [a,b],hG=>
  obtain⟨v,rfl,hv,w,rfl,hw,hz,hz',h0,hK⟩:=hG;refine⟨by simp,?_⟩
  simp only [go_sem,Zr,hs,hn,hg,hd,hv,hw];generalize zv v=n at *
  generalize zv w=d at *
  have hd0:=h0;refine⟨λh=>?_,λh=>?_⟩
  .rw [Int.sign_eq_zero_iff_zero.1 h,Rat.zero_divInt,Jc]at hK;exact hK
  have hn0:n≠0:=λe=>h (by rw [e];rfl)
  have hg0:((Int.gcd n d:Nat):Int)≠0:=by
   have:=Int.gcd_pos_of_ne_zero_left d hn0;omega
  have hgz:zs ((Int.gcd n d:Nat):Int)<=17179869184:=vaV hd0 hz';simp only [Int.gcd_neg,Int.neg_gcd,zad,WaN];refine⟨λhdn=>⟨by omega,by omega,hz,hz',λhnn=>⟨by omega,hz,hgz,hg0,hz',hgz,hg0,?_⟩,λhnn=>⟨hz,hgz,hg0,hz',hgz,hg0,?_⟩⟩,λhdn=>⟨hz,hz',λhnn=>⟨by omega,hz,hgz,hg0,hz',hgz,hg0,?_⟩,λhnn=>⟨hz,hgz,hg0,hz',hgz,hg0,?_⟩⟩⟩
  .rw [ZD hd0 hn0 (by omega) (by omega) (by omega) (by omega) rfl (by rw [decide_eq_decide,Int.sign_eq_neg_one_of_neg hdn];omega)];exact hK
  .rw [ZD hd0 hn0 (by omega) (by omega) (by omega) (by omega) rfl (by rw [decide_eq_decide,Int.sign_eq_neg_one_of_neg hdn];omega)];exact hK
  .rw [ZD hd0 hn0 (by omega) (by omega) (by omega) (by omega) rfl (by rw [decide_eq_decide,Int.sign_eq_one_of_pos (by omega)];omega)];exact hK
  .rw [ZD hd0 hn0 (by omega) (by omega) (by omega) (by omega) rfl (by rw [decide_eq_decide,Int.sign_eq_one_of_pos (by omega)];omega)];exact hK
theorem yae(hΓ:Holds P Γ){f fo fn ff:Nat}(ho:Γ fo=.dat false ZJ)(hn:Γ fn=.dat false Qq)(hf:Γ ff=.dat false Jj)(hc:check P f=some (7,(uo fo fn ff).strip,[.cell 2 3 true])):Sound P f (.dat false zC):=by
 refine ka hc Wbf hΓ (λargs K hcl hfi hG=>?_);match args,hG with
 | [a],hG=>
  obtain⟨k,n,rfl,rfl,hn1,hn2,hK⟩:=Jb hG;refine⟨by simp,?_⟩
  simp only [go_sem,uo,ho,hn,hf];have e:Rat.divInt n 1=(n:Rat):=Rat.num_divInt_den (n:Rat);rw [e];have h1:zs 1<=2:=Jr (by decide)
  have h2:zs n<=2:=Jr (by omega)
  exact⟨hn1,hn2,by omega,by omega,by decide,hK⟩
theorem qR(hΓ:Holds P Γ){f fp fn ff:Nat}(hp:Γ fp=.dat false Ve)(hn:Γ fn=.dat false Zw)(hf:Γ ff=.dat false Jj)(hc:check P f=some (14,(Xm fp fn ff).strip,[.cell 2 3 true])):Sound P f (.dat false kB):=by
 refine ka hc qa4 hΓ (λargs K hcl hfi hG=>?_);match args,hG with
 | [a],hG=>
  obtain⟨x,rfl,hx,hl,hK⟩:=hG;refine⟨by simp,?_⟩
  simp only [go_sem,Xm,hp,hn,hf,hx];have n1:=QH hx;have d1:=zH hx;rw [ja2,zad];exact⟨hl,by omega,by omega,by omega,VB _,hK⟩
theorem kL(hΓ:Holds P Γ){f fp fs:Nat}(hp:Γ fp=.dat false Ve)(hs:Γ fs=.dat true vg)(hc:check P f=some (12,(Jl fp fs).strip,[.tmp 2])):Sound P f (.dat true Yh):=by
 refine ka hc jaH hΓ (λargs K hcl hfi hG=>?_);match args,hG with
 | [a],hG=>
  obtain⟨x,rfl,hx,hl,hK⟩:=hG;refine⟨by simp,?_⟩
  simp only [go_sem,Jl,hp,hs,hx];rw [<-Wa7];exact⟨hl,hK⟩
theorem QQ(hΓ:Holds P Γ){f fp fm fa ff:Nat}(hp:Γ fp=.dat false Ve)(hm:Γ fm=.dat false qw)(ha:Γ fa=.dat false Wy)(hf:Γ ff=.dat false Jj)(hc:check P f=some (30,(jn fp fm fa ff).strip,[.cell 4 3 true])):Sound P f (.dat false yi):=by
 refine ka hc Qa3 hΓ (λargs K hcl hfi hG=>?_);match args,hG with
 | [a,b],hG=>
  obtain⟨x,rfl,hx,y,rfl,hy,hl,hl',hK⟩:=hG;refine⟨by simp,?_⟩
  simp only [go_sem,jn,hp,hm,ha,hf,hx,hy];have n1:=QH hx;have d1:=zH hx;have n2:=QH hy;have d2:=zH hy;rw [Int.natCast_mul,Qad];have m1:=jq (rv x).num (rv y).den;have m2:=jq (rv y).num (rv x).den;have m3:=jq ((rv x).den:Int) (rv y).den;have a1:=jL ((rv x).num*(rv y).den) ((rv y).num*(rv x).den);exact⟨hl,hl',by omega,by omega,by omega,by omega,by omega,by omega,by omega,by omega,by omega,by omega,Int.mul_ne_zero (VB _) (VB _),hK⟩
theorem YQ(hΓ:Holds P Γ){f fn fa:Nat}(hn:Γ fn=.dat false kB)(ha:Γ fa=.dat false yi)(hc:check P f=some (9,(Vm fn fa).strip,[.cell 4 3 true])):Sound P f (.dat false Wq):=by
 refine ka hc xa5 hΓ (λargs K hcl hfi hG=>?_);match args,hG with
 | [a,b],hG=>
  obtain⟨x,rfl,hx,y,rfl,hy,hl,hl',hK⟩:=hG;refine⟨by simp,?_⟩
  simp only [go_sem,Vm,hn,ha,hx,hy];rw [<-Rat.sub_eq_add_neg,JM];exact⟨hl',hl,Nat.le_trans (ug hy) hl',hK⟩
end Go.Abs
end
section
namespace Go.Num
def bln(n:Nat):Nat:=if n=0 then 0 else bln (n / 2)+1
termination_by n
decreasing_by omega
theorem jJ:bln 0=0:=by rw [bln];rfl
theorem Ual{n:Nat}(h:n≠0):bln n=bln (n / 2)+1:=by rw [bln,if_neg h]
theorem UbC(n:Nat):n<2 ^ bln n:=by
 induction n using Nat.strongRecOn with
 | _ n ih=>
  by_cases h:n=0
  .subst h;rw [jJ];decide
  .rw [Ual h,Nat.pow_succ];have:=ih (n / 2) (by omega)
   omega
theorem Ybh{n k:Nat}(h:n<2 ^ k):bln n<=k:=by
  induction k generalizing n with
  | zero => have : n = 0 := by omega
            subst this;rw [jJ];exact Nat.le_refl _
  | succ k ih=>
    by_cases h0:n=0
    . subst h0;rw [jJ];omega
    . rw [Ual h0]
      have:=ih (n:=n / 2) (by rw [Nat.pow_succ]at h;omega)
      omega
theorem wX(l:List Nat)(m:Nat):val l=val (l.take m)+4294967296 ^ m*val (l.drop m):=by
 by_cases h:m<=l.length
 .conv=>lhs;rw [<-List.take_append_drop m l,vc,List.length_take,Nat.min_eq_left h]
 .rw [List.take_of_length_le (by omega),List.drop_of_length_le (by omega)];simp [val]
theorem UC(l:List Nat)(m:Nat):val (l.drop m)=l.getD m 0+4294967296*val (l.drop (m+1)):=by
 by_cases h:m<l.length
 .have:=WO l (n:=m+1) (by omega) (by omega)
  exact this
 .rw [List.drop_of_length_le (by omega),List.drop_of_length_le (by omega),List.getD_eq_getElem?_getD,List.getElem?_eq_none (by omega)];simp [val]
theorem Zao{l:List Nat}(h:WL l)(m:Nat):val (l.take m)<4294967296 ^ m:=
 Nat.lt_of_lt_of_le (Wm (Jz h m)) (Nat.pow_le_pow_right (by omega) (by rw [List.length_take];omega))
theorem ubi{x y:List Nat}{m:Nat}(hx:WL x)(hd:val (x.drop (m+1))=val (y.drop (m+1)))(h:x.getD m 0<y.getD m 0):val x<val y:=by
 have h1:=wX x m;have h2:=wX y m;have h3:=Zao hx m;rw [UC,hd]at h1;rw [UC]at h2;generalize 4294967296 ^ m=p at *
 have:p*(x.getD m 0+4294967296*val (y.drop (m+1))+1)<=p*(y.getD m 0+4294967296*val (y.drop (m+1))):=Nat.mul_le_mul_left _ (by omega)
 rw [Nat.mul_add p _ 1]at this;omega
theorem VX{x y c:Nat}(hx:x<4294967296)(hy:y<4294967296)(hc:c<=1):∃s:Nat,((((4294967296+(x:Int)) % 18446744073709551616-(y:Int)) % 18446744073709551616-(c:Int)) % 18446744073709551616)=(s:Int)/\
  (1-(s:Int) / 4294967296) % 18446744073709551616=((1-s / 4294967296:Nat):Int)/\s % 4294967296+y+c=x+4294967296*(1-s / 4294967296)/\1-s / 4294967296<=1:=by
 exact⟨4294967296+x-y-c,by omega,by omega,by omega,by omega⟩
theorem Wba{V Q c xa ya a b u w B:Nat}(h:V+Q*c=xa+ya)(hs:u+B*w=a+b+c):V+Q*u+Q*B*w=xa+Q*a+(ya+Q*b):=by
 have:=congrArg (Q * ·) hs;simp only [Nat.mul_add]at this;rw [Nat.mul_assoc Q B w];omega
theorem waR{o l post:List Nat}(h:o.length<=l.length):(o++(l.drop o.length++post)).length=l.length+post.length:=by simp;omega
theorem Vai{o l post:List Nat}(h:o.length<=l.length):(o++(l.drop o.length++post)).take l.length=o++l.drop o.length:=by
 rw [<-List.append_assoc,List.take_append_of_le_length (by simp;omega),List.take_of_length_le (by simp;omega)]
theorem yar(o l:List Nat)(k:Nat):(o++l.drop o.length).getD (o.length+k) 0=l.getD (o.length+k) 0:=by
 simp only [List.getD_eq_getElem?_getD];rw [List.getElem?_append_right (by omega),List.getElem?_drop,show o.length+(o.length+k-o.length)=o.length+k by omega]
theorem zZ(o l:List Nat):(o++l.drop o.length).getD o.length 0=l.getD o.length 0:=yar o l 0
theorem Xau{o l post:List Nat}(v:Nat)(h:o.length<l.length):(o++(l.drop o.length++post)).set o.length v=(o++[v])++(l.drop (o++[v]).length++post):=by
 have:=qal [] o l post v h;simpa using this
theorem kbw{o l:List Nat}(h:o.length<=l.length):(o++l.drop o.length).length=l.length:=by simp;omega
theorem xbp{o l:List Nat}(v:Nat)(h:o.length<l.length):(o++l.drop o.length).set o.length v=(o++[v])++l.drop (o++[v]).length:=by
 have:=Xau (post:=[]) v h;simpa using this
theorem Jbs{o l:List Nat}(ho:WL o)(hl:WL l):WL (o++l.drop o.length):=ue.2 ⟨ho,ubt hl _⟩
theorem Vbe{a b:Nat}(ha:a<4294967296)(hb:b<4294967296):(a / 2 ||| b*2147483648 % 18446744073709551616) % 4294967296=(a+4294967296*b) / 2 ^ 1 % 4294967296:=by
 have:=Nat.two_pow_add_eq_or_of_lt (i:=31) (b:=a / 2) (by omega) b
 rw [Nat.mod_eq_of_lt (show b*2147483648<18446744073709551616 by omega),Nat.or_comm,show b*2147483648=2 ^ 31*b by omega,<-this]
 omega
theorem xaV{l post:List Nat}{i:Nat}(h:i<l.length):(l++post).getD i 0=l.getD i 0:=by
 simp only [List.getD_eq_getElem?_getD];rw [List.getElem?_append_left h]
theorem Jm{a:Nat}(h:a≠0):0<(digs a).length:=by rw [Jt h];simp
theorem qy{a:Nat}(h:a≠0)(p:List Nat):(digs a++p).getD 0 0=a % 4294967296:=by rw [Jt h];rfl
theorem Uy{a:Nat}:(digs a).length=0↔a=0:=by rw [List.length_eq_zero_iff,kg]
theorem ZbL{a b k g:Nat}(ha:a % 2=0)(hb:b % 2=0)(h:Nat.gcd a b*2 ^ k=g):Nat.gcd (a / 2) (b / 2)*2 ^ (k+1)=g:=by
 obtain⟨a',rfl⟩:∃a',a=2*a':=⟨a / 2,by omega⟩
 obtain⟨b',rfl⟩:∃b',b=2*b':=⟨b / 2,by omega⟩
 rw [Nat.gcd_mul_left]at h;rw [Nat.mul_div_cancel_left _ (by omega),Nat.mul_div_cancel_left _ (by omega),Nat.pow_succ,<-h]
 rw [Nat.mul_comm (2 ^ k) 2,<-Nat.mul_assoc,Nat.mul_comm _ 2]
theorem Qa9{a b:Nat}(ha:a % 2=0)(hb:b % 2≠0):Nat.gcd (a / 2) b=Nat.gcd a b:=by
 obtain⟨a',rfl⟩:∃a',a=2*a':=⟨a / 2,by omega⟩
 rw [Nat.mul_div_cancel_left _ (by omega)]
 have:Nat.Coprime 2 b:=by
  rw [Nat.coprime_iff_gcd_eq_one,Nat.gcd_rec,show b % 2=1 by omega];rfl
 exact(Nat.Coprime.gcd_mul_left_cancel a' this).symm
theorem xbm{a b:Nat}(ha:a % 2≠0)(hb:b % 2=0):Nat.gcd a (b / 2)=Nat.gcd a b:=by
 rw [Nat.gcd_comm a,Nat.gcd_comm a];exact Qa9 hb ha
theorem uY{a b:Nat}(h:b<=a):Nat.gcd (a-b) b=Nat.gcd a b:=Nat.gcd_sub_self_left h
theorem Jbq{k n:Nat}(h:2 ^ k<=n){s:Nat}(hn:n<4294967296 ^ s):k<32*s:=by
 have e:(4294967296:Nat) ^ s=2 ^ (32*s):=by rw [Nat.pow_mul]
 rw [e]at hn;exact(Nat.pow_lt_pow_iff_right (by omega)).1 (Nat.lt_of_le_of_lt h hn)
theorem xJ{a b:Nat}:ordN a b<0↔a<b:=by unfold ordN;split <;> (try split) <;> omega
theorem ybn{x:List Nat}(hx:WL x)(h:x.length≠0):val x<2 ^ (32*(x.length-1)+bln (x.getD (x.length-1) 0)):=by
 have h1:=wX x (x.length-1);have h2:=UC x (x.length-1);rw [show x.length-1+1=x.length by omega,List.drop_length]at h2
 have h3:=Zao hx (x.length-1);have h4:=UbC (x.getD (x.length-1) 0);have e:(4294967296:Nat) ^ (x.length-1)=2 ^ (32*(x.length-1)):=by rw [Nat.pow_mul]
 rw [h2,show val []=0 from rfl,Nat.mul_zero,Nat.add_zero]at h1;rw [Nat.pow_add,<-e];generalize 4294967296 ^ (x.length-1)=p at *
 generalize 2 ^ bln (x.getD (x.length-1) 0)=q at *
 have:p*(x.getD (x.length-1) 0+1)<=p*q:=Nat.mul_le_mul_left _ h4;rw [Nat.mul_add,Nat.mul_one]at this;omega
theorem digit(x:List Nat){m:Nat}(hx:WL x):val x / 4294967296 ^ m=x.getD m 0+4294967296*val (x.drop (m+1)):=by
 rw [wX x m,UC,Nat.add_mul_div_left _ _ (Nat.pow_pos (by omega)),Nat.div_eq_of_lt (Zao hx m),Nat.zero_add]
theorem QL(i:Nat):(2:Nat) ^ i=4294967296 ^ (i / 32)*2 ^ (i % 32):=by
 have e:(4294967296:Nat) ^ (i / 32)=2 ^ (32*(i / 32)):=by rw [Nat.pow_mul]
 rw [e,<-Nat.pow_add,Nat.div_add_mod]
theorem VbE{x:List Nat}(hx:WL x)(i:Nat):x.getD (i / 32) 0 / 2 ^ (i % 32) % 2=val x / 2 ^ i % 2:=by
 rw [QL i,<-Nat.div_div_eq_div_mul,digit x hx];have hs:i % 32<32:=Nat.mod_lt _ (by omega)
 generalize i % 32=s at *
 generalize val (x.drop (i / 32+1))=r;have e:(4294967296:Nat)=2 ^ s*(2*2 ^ (31-s)):=by
  rw [Nat.mul_left_comm,<-Nat.pow_add,show s+(31-s)=31 by omega]
 rw [e,Nat.mul_assoc,Nat.add_mul_div_left _ _ (Nat.pow_pos (by omega)),Nat.mul_assoc,Nat.add_mul_mod_self_left]
theorem waz(v i:Nat):v / 2 ^ i=2*(v / 2 ^ (i+1))+v / 2 ^ i % 2:=by
 rw [Nat.pow_succ,<-Nat.div_div_eq_div_mul];omega
theorem wbG{a c:Nat}(hc:c<=1):a*2 % 4294967296 ||| c=a*2 % 4294967296+c:=by
 have:=Nat.two_pow_add_eq_or_of_lt (i:=1) (b:=c) (by omega) (a*2 % 4294967296 / 2)
 rw [show 2 ^ 1*(a*2 % 4294967296 / 2)=a*2 % 4294967296 by omega]at this
 exact this.symm
theorem Zbu{a s:Nat}(hs:s<32)(h:a % 2 ^ (s+1)=0):a ||| 2 ^ s=a+2 ^ s:=by
 have:=Nat.two_pow_add_eq_or_of_lt (i:=s+1) (b:=2 ^ s) (Nat.pow_lt_pow_right (by omega) (by omega)) (a / 2 ^ (s+1))
 rw [Nat.mul_div_cancel' (Nat.dvd_of_mod_eq_zero h)]at this;exact this.symm
theorem Vbf{q:List Nat}(hq:WL q){i Q:Nat}(h:val q=Q*2 ^ (i+1)):q.getD (i / 32) 0 % 2 ^ (i % 32+1)=0:=by
 have hs:i % 32<32:=Nat.mod_lt _ (by omega)
 have h1:=digit q hq (m:=i / 32);have e1:(2:Nat) ^ (i+1)=4294967296 ^ (i / 32)*2 ^ (i % 32+1):=by rw [Nat.pow_succ,QL,Nat.pow_succ,Nat.mul_assoc]
 rw [h,e1,Nat.mul_left_comm,Nat.mul_div_cancel_left _ (Nat.pow_pos (by omega))]at h1
 generalize i % 32=s at *
 generalize val (q.drop (i / 32+1))=r at *
 have e2:(4294967296:Nat)=2 ^ (s+1)*2 ^ (31-s):=by
  rw [<-Nat.pow_add,show s+1+(31-s)=32 by omega]
 have:(q.getD (i / 32) 0+4294967296*r) % 2 ^ (s+1)=0:=by rw [<-h1];exact Nat.mul_mod_left _ _
 rw [e2,Nat.mul_assoc,Nat.add_mul_mod_self_left]at this;exact this
theorem Ybc{vo p c tr bit x:Nat}(h:vo+p*c=2*tr+bit)(hx:x<4294967296):vo+p*(x*2 % 4294967296+c)+p*4294967296*(x / 2147483648)=2*(tr+p*x)+bit:=by
 have e:x*2 % 4294967296+4294967296*(x / 2147483648)=2*x:=by omega
 have:=congrArg (p * ·) e;simp only [Nat.mul_add]at this ⊢;rw [Nat.mul_assoc p 4294967296];have e2:p*(2*x)=2*(p*x):=by rw [Nat.mul_left_comm]
 omega
theorem ka4{v y i q r bit:Nat}(hy:0<y)(hb:v / 2 ^ i % 2=bit)(hq:q=v / 2 ^ (i+1) / y*2 ^ (i+1))(hr:r=v / 2 ^ (i+1) % y)(h:y<=2*r+bit):q+2 ^ i=v / 2 ^ i / y*2 ^ i/\2*r+bit-y=v / 2 ^ i % y:=by
 have e:=waz v i;rw [hb]at e;have d:=Nat.div_add_mod (v / 2 ^ (i+1)) y;have hm:=Nat.mod_lt (v / 2 ^ (i+1)) hy;rw [<-hr]at d hm;generalize hQ:v / 2 ^ (i+1) / y=Q at *
 generalize v / 2 ^ (i+1)=X at *
 have hb1:bit<=1:=by omega
 have key:v / 2 ^ i=y*(2*Q+1)+(2*r+bit-y):=by
  have e2:y*(2*Q+1)=2*(y*Q)+y:=by rw [Nat.mul_add,Nat.mul_one,Nat.mul_left_comm y 2 Q]
  rw [e,<-d,e2];omega
 have hlt:2*r+bit-y<y:=by omega
 constructor
 .rw [key,Nat.mul_add_div hy,Nat.div_eq_of_lt hlt,Nat.add_zero,hq,Nat.pow_succ,Nat.add_mul,Nat.one_mul,Nat.mul_comm 2 Q,Nat.mul_assoc,Nat.mul_comm 2]
 .rw [key,Nat.mul_add_mod,Nat.mod_eq_of_lt hlt]
theorem jaZ{v y i q r bit:Nat}(hy:0<y)(hb:v / 2 ^ i % 2=bit)(hq:q=v / 2 ^ (i+1) / y*2 ^ (i+1))(hr:r=v / 2 ^ (i+1) % y)(h:2*r+bit<y):q=v / 2 ^ i / y*2 ^ i/\2*r+bit=v / 2 ^ i % y:=by
 have e:=waz v i;rw [hb]at e;have d:=Nat.div_add_mod (v / 2 ^ (i+1)) y;rw [<-hr]at d;generalize hQ:v / 2 ^ (i+1) / y=Q at *
 generalize v / 2 ^ (i+1)=X at *
 have key:v / 2 ^ i=y*(2*Q)+(2*r+bit):=by
  have e2:y*(2*Q)=2*(y*Q):=by rw [Nat.mul_left_comm y 2 Q]
  rw [e,<-d,e2];omega
 constructor
 .rw [key,Nat.mul_add_div hy,Nat.div_eq_of_lt h,Nat.add_zero,hq,Nat.pow_succ,Nat.mul_comm 2 Q,Nat.mul_assoc,Nat.mul_comm 2]
 .rw [key,Nat.mul_add_mod,Nat.mod_eq_of_lt h]
end Go.Num
namespace Go.Abs
open Go.Num
theorem share4{c1 c2 c3 p d1 d2 d3 q X L:Prop}(h1:c1)(h2:c2)(h3:c3)(k1:d1)(k2:d2)(k3:d3)(hx:p->q->X)(hl:¬p∨¬q->L):c1/\c2/\c3/\(p->d1/\d2/\d3/\(q->X)/\(¬q->L))/\(¬p->L):=
 ⟨h1,h2,h3,λhp=>⟨k1,k2,k3,hx hp,λhq=>hl (.inr hq)⟩,λhp=>hl (.inl hp)⟩
theorem wn(K:AV->Prop)(a:Nat):arith K .and .u32 (a:Int) 1=(a<2 ^ IntKind.u32.bits/\intR K .u32 ((a % 2:Nat):Int)):=uaH K .u32 a rfl (by decide)
theorem Zab{h' : Nat->HB}{k v v' z:Nat}{b:Bool}{es:List (List C)}{l' : List Nat}{r:List (Nat×HB)}(e:es=l'.map wc):okH (mkH ((k,⟨v,some ⟨es,z,b⟩⟩)::r)) h' [(k,⟨v',some ⟨l'.map wc,z,b⟩⟩)]:=by
 subst e;exact Xg rfl
theorem zaQ{h h' : Nat->HB}{z:Nat}{b:Bool}{es:List (List C)}{l' : List Nat}(e:es=l'.map wc):okB h h' (some ⟨es,z,b⟩) (some ⟨l'.map wc,z,b⟩):=by
 subst e;exact Vb rfl
theorem jaT(L:List Nat)(i s:Nat):(L.map wc).set i [C.lit (.int .u32 ((s:Int) % 4294967296))]=(L.set i (s % 4294967296)).map wc:=by
 rw [List.map_set];simp [wc]
def onWx(k:List Nat->Prop)(a:AV):Prop:=∃l,(a=.one (ws l)∨a=.one (.full (l.map wc))∨(a=.one .emp/\l=[]))/\WL l/\k l
@[congr] theorem JbS{k:List Nat->Prop}{a a'}(h:a=a'):onWx k a=onWx k a':=by subst h;rfl
theorem X7(k:List Nat->Prop)(l:List Nat):onWx k (.one (.slice (l.map wc)))=(WL l/\k l):=by
 refine propext ⟨λ⟨x,h,h1,h2⟩=>?_,λh=>⟨l,.inl rfl,h⟩⟩;rcases h with h | h | h
 .have:=jA l x h;subst this;exact⟨h1,h2⟩
 .simp at h
 .simp at h
theorem ZaL(k:List Nat->Prop)(l:List Nat):onWx k (.one (.full (l.map wc)))=(WL l/\k l):=by
 refine propext ⟨λ⟨x,h,h1,h2⟩=>?_,λh=>⟨l,.inr (.inl rfl),h⟩⟩;rcases h with h | h | h
 .simp [ws]at h
 .have:=jR (x:=l) (y:=x) (by simpa using h);subst this;exact⟨h1,h2⟩
 .simp at h
theorem JaP(k:List Nat->Prop):onWx k (.one .emp)=k []:=by
 refine propext ⟨λ⟨x,h,h1,h2⟩=>?_,λh=>⟨[],.inr (.inr ⟨rfl,rfl⟩),Xc,h⟩⟩;rcases h with h | h | h
 .simp [ws]at h
 .simp at h
 .obtain⟨_,rfl⟩:=h;exact h2
attribute [go_sem,go_sem ↓] X7 ZaL JaP
theorem kbK{β:Type}{T:List Nat->(β->Prop)->Prop}(h:∀l,GoodT (T l)){a:AV}:GoodT λK=>onWx (λl=>T l K) a:=
 .of λK hx=>by
  obtain⟨l,ha,hw,hk⟩:=hx;rcases ha with ha | ha | ⟨ha,rfl⟩
  .have:(λK=>onWx (λl=>T l K) a)=λK=>WL l/\T l K:=funext λK=>by rw [ha];exact X7 _ l
   rw [this];exact .and λ_=>h l
  .have:(λK=>onWx (λl=>T l K) a)=λK=>WL l/\T l K:=funext λK=>by rw [ha];exact ZaL _ l
   rw [this];exact .and λ_=>h l
  .have:(λK=>onWx (λl=>T l K) a)=T []:=funext λK=>by rw [ha];exact JaP _
   rw [this];exact h []
def vw(l:List AV)(K:List (List C)->Prop):Prop:=
 match l with
 | [a]=>onWx (λl=>l.length<=68719476736/\K ((digs (val l)).map wc)) a
 | _=>False
theorem Qba a K:vw [a] K=(onWx (λl=>l.length<=68719476736/\K ((digs (val l)).map wc)) a):=propext Iff.rfl
@[congr] theorem VbV{K}{l l'}(h:l=l'):vw l K=vw l' K:=by subst h;rfl
attribute [go_sem,go_sem ↓] Qba
theorem xa3:Good vw:=Wa λas=>by
 unfold vw;split
 .exact(kbK λ_=>(.and λ_=>(.ret _)))
 .exact .of λK hk=>hk.elim
def jv(l:List AV)(K:AV->Prop):Prop:=
 match l with
 | [a,b]=>onWs (λx=>onWs (λy=>K (.one (.lit (.int .i64 (ordN (val x) (val y)))))) b) a
 | _=>False
theorem vap a b K:jv [a,b] K=(onWs (λx=>onWs (λy=>K (.one (.lit (.int .i64 (ordN (val x) (val y)))))) b) a):=propext Iff.rfl
@[congr] theorem XbO{K}{l l'}(h:l=l'):jv l K=jv l' K:=by subst h;rfl
attribute [go_sem,go_sem ↓] vap
theorem zaI:Good jv:=Wa λas=>by
 unfold jv;split
 .exact(Xf λ_=>(Xf λ_=>(.ret _)))
 .exact .of λK hk=>hk.elim
def Uz(l:List AV)(K:AV->Prop):Prop:=
 match l with
 | [a,b]=>onWs (λx=>onWs (λy=>x.length<=17179869184/\y.length<=17179869184/\K (.one (.slice ((digs (Nat.gcd (val x) (val y))).map wc)))) b) a
 | _=>False
theorem YaD a b K:Uz [a,b] K=(onWs (λx=>onWs (λy=>x.length<=17179869184/\y.length<=17179869184/\K (.one (.slice ((digs (Nat.gcd (val x) (val y))).map wc)))) b) a):=propext Iff.rfl
@[congr] theorem zbN{K}{l l'}(h:l=l'):Uz l K=Uz l' K:=by subst h;rfl
attribute [go_sem,go_sem ↓] YaD
theorem JaK:Good Uz:=Wa λas=>by
 unfold Uz;split
 .exact(Xf λ_=>(Xf λ_=>(.and λ_=>(.and λ_=>(.ret _)))))
 .exact .of λK hk=>hk.elim
def ut(l:List AV)(K:AV->Prop):Prop:=
 match l with
 | [a]=>onWs (λx=>x.length<=68719476736/\K (.one (.lit (.int .i64 ((if x.length=0 then 0 else 32*(x.length-1)+bln (x.getD (x.length-1) 0):Nat):Int))))) a
 | _=>False
theorem Qah a K:ut [a] K=(onWs (λx=>x.length<=68719476736/\K (.one (.lit (.int .i64 ((if x.length=0 then 0 else 32*(x.length-1)+bln (x.getD (x.length-1) 0):Nat):Int))))) a):=propext Iff.rfl
@[congr] theorem QbC{K}{l l'}(h:l=l'):ut l K=ut l' K:=by subst h;rfl
attribute [go_sem,go_sem ↓] Qah
theorem Zal:Good ut:=Wa λas=>by
 unfold ut;split
 .exact(Xf λ_=>(.and λ_=>(.ret _)))
 .exact .of λK hk=>hk.elim
def QF(l:List AV)(K:AV->Prop):Prop:=
 match l with
 | [a,b]=>onW (λv=>onW (λw=>zs (zv v)<=17179869184/\zs (zv w)<=17179869184/\K (.agg [zb (zcan (zv v-zv w)),zm (zcan (zv v-zv w))])) b) a
 | _=>False
theorem uaT a b K:QF [a,b] K=(onW (λv=>onW (λw=>zs (zv v)<=17179869184/\zs (zv w)<=17179869184/\K (.agg [zb (zcan (zv v-zv w)),zm (zcan (zv v-zv w))])) b) a):=propext Iff.rfl
@[congr] theorem ybW{K}{l l'}(h:l=l'):QF l K=QF l' K:=by subst h;rfl
attribute [go_sem,go_sem ↓] uaT
theorem WaL:Good QF:=Wa λas=>by
 unfold QF;split
 .exact(xn λ_=>(xn λ_=>(.and λ_=>(.and λ_=>(.ret _)))))
 .exact .of λK hk=>hk.elim
def Ys(l:List AV)(K:AV->Prop):Prop:=
 match l with
 | [a,b]=>onW (λv=>onW (λw=>zs (zv v)<=17179869184/\zs (zv w)<=17179869184/\zs (zv v-zv w)<=17179869184/\K (.one (.lit (.int .i64 (ordI (zv v) (zv w)))))) b) a
 | _=>False
theorem qae a b K:Ys [a,b] K=(onW (λv=>onW (λw=>zs (zv v)<=17179869184/\zs (zv w)<=17179869184/\zs (zv v-zv w)<=17179869184/\K (.one (.lit (.int .i64 (ordI (zv v) (zv w)))))) b) a):=propext Iff.rfl
@[congr] theorem JbC{K}{l l'}(h:l=l'):Ys l K=Ys l' K:=by subst h;rfl
attribute [go_sem,go_sem ↓] qae
theorem yak:Good Ys:=Wa λas=>by
 unfold Ys;split
 .exact(xn λ_=>(xn λ_=>(.and λ_=>(.and λ_=>(.and λ_=>(.ret _))))))
 .exact .of λK hk=>hk.elim
def Zs(l:List AV)(K:AV->Prop):Prop:=
 match l with
 | [a,b]=>onW (λv=>onW (λw=>zs (zv v)<=17179869184/\zs (zv w)<=17179869184/\zv w≠0/\K (.tup [.agg [zb (zcan (zv v / zv w)),zm (zcan (zv v / zv w))],.agg [zb (zcan (zv v % zv w)),zm (zcan (zv v % zv w))],.one (.lit (.int .i64 0))])) b) a
 | _=>False
theorem xaf a b K:Zs [a,b] K=(onW (λv=>onW (λw=>zs (zv v)<=17179869184/\zs (zv w)<=17179869184/\zv w≠0/\K (.tup [.agg [zb (zcan (zv v / zv w)),zm (zcan (zv v / zv w))],.agg [zb (zcan (zv v % zv w)),zm (zcan (zv v % zv w))],.one (.lit (.int .i64 0))])) b) a):=propext Iff.rfl
@[congr] theorem Ubz{K}{l l'}(h:l=l'):Zs l K=Zs l' K:=by subst h;rfl
attribute [go_sem,go_sem ↓] xaf
theorem Xao:Good Zs:=Wa λas=>by
 unfold Zs;split
 .exact(xn λ_=>(xn λ_=>(.and λ_=>(.and λ_=>(.and λ_=>(.ret _))))))
 .exact .of λK hk=>hk.elim
def W4(d:Option Nat)(args:List AV)(h:Nat->HB)(K:AV->(Nat->HB)->Prop):Prop:=
 match args with
 | [.one (.own r ver 1 0 len)]=>∃l post,len=l.length/\h r=⟨ver,some ⟨(l++post).map wc,1,true⟩⟩/\WL l/\len<=68719476736/\
   ∀post',K (.one (.own r ver 1 0 (digs (val l)).length)) (upd h r ⟨ver,some ⟨(digs (val l)++post').map wc,1,true⟩⟩)
 | _=>False
@[congr] theorem Yb1 {d:Option Nat} {l l' : List AV} {h h' : Nat->HB} {K:AV->(Nat->HB)->Prop} (e1:l=l') (e2:h=h'):W4 d l h K=W4 d l' h' K:=by subst e1;subst e2;rfl
def Xq(d:Option Nat)(args:List AV)(h:Nat->HB)(K:AV->(Nat->HB)->Prop):Prop:=
 match args with
 | [.one (.own r ver 1 0 len)]=>∃l post,len=l.length/\h r=⟨ver,some ⟨(l++post).map wc,1,true⟩⟩/\WL l/\len<=68719476736/\
   ∀post',K (.one (.own r ver 1 0 (digs (val l / 2)).length)) (upd h r ⟨ver,some ⟨(digs (val l / 2)++post').map wc,1,true⟩⟩)
 | _=>False
@[congr] theorem JbM {d:Option Nat} {l l' : List AV} {h h' : Nat->HB} {K:AV->(Nat->HB)->Prop} (e1:l=l') (e2:h=h'):Xq d l h K=Xq d l' h' K:=by subst e1;subst e2;rfl
def Vy(d:Option Nat)(args:List AV)(h:Nat->HB)(K:AV->(Nat->HB)->Prop):Prop:=
 match args with
 | [.one (.own r ver 1 0 len),.one (.own r2 ver2 1 0 len2)]=>∃l post y posty,r≠r2/\len=l.length/\h r=⟨ver,some ⟨(l++post).map wc,1,true⟩⟩/\WL l/\len<=68719476736/\
   len2=y.length/\h r2=⟨ver2,some ⟨(y++posty).map wc,1,true⟩⟩/\WL y/\val y<=val l/\
   K (.tup []) (upd (upd h r2 ⟨ver2,some ⟨(y++posty).map wc,1,true⟩⟩) r ⟨ver,some ⟨(dig l.length (val l-val y)++post).map wc,1,true⟩⟩)
 | [.one (.own r ver 1 0 len),b]=>onWs (λy=>∃l post,len=l.length/\h r=⟨ver,some ⟨(l++post).map wc,1,true⟩⟩/\WL l/\len<=68719476736/\val y<=val l/\
   K (.tup []) (upd h r ⟨ver,some ⟨(dig l.length (val l-val y)++post).map wc,1,true⟩⟩)) b
 | _=>False
@[congr] theorem JbV {d:Option Nat} {l l' : List AV} {h h' : Nat->HB} {K:AV->(Nat->HB)->Prop} (e1:l=l') (e2:h=h'):Vy d l h K=Vy d l' h' K:=by subst e1;subst e2;rfl
end Go.Abs
end
section
namespace Go.Abs
open Go.Num
variable {P:Program} {Γ:Nat->Spec}
def qh(f0 f1 f2 f3:Nat):AC:=(.seq (.ops false [.u 1 (.box 3 (.t 0)),.m 2 .fa])
 (.fg [1] (.seq (.seq (.ops false [.u 3 (.fa 1 (.t 1)),.u 4 (.ld none 1 false (.t 3)),.u 5 (.len (.t 4)),.u 6 (.bin .eql (.t 5) (.i 0)),.m 7 (.t 6),.w 8 7 true (.fa 2 (.t 1)),.w 9 7 true (.ld none 1 false (.t 8)),.w 10 7 true (.len (.t 9)),.w 11 7 true (.bin .eql (.t 10) (.i 0)),.u 12 (.pick (.t 7) (.t 11) .fa)])
 (.fg [1,12] (.cond (.t 12) (.seq (.ops false [.u 13 (.fa 0 (.t 1)),.u 14 (.ld none 1 false (.t 13)),.u 15 (.un .not (.t 14)),.m 2 (.t 15)])
 .ret) .skip)))
 (.fg [1] (.seq (.ops false [.u 16 (.fa 1 (.t 1)),.u 17 (.ld none 1 false (.t 16)),.u 18 (.call f0 [(.t 17)]),.m 19 (.t 18),.w 20 19 true (.fa 2 (.t 1)),.w 21 19 true (.ld none 1 false (.t 20)),.w 22 19 true (.call f0 [(.t 21)]),.u 23 (.pick (.t 19) (.t 22) .fa),.m 24 (.t 23),.w 25 24 true (.fa 1 (.t 1)),.w 26 24 true (.ld none 1 false (.t 25)),.w 27 24 true (.build [.z [(.lit (.bool false))],.x 1 (.t 26)]),.w 28 24 true (.fa 2 (.t 1)),.w 29 24 true (.ld none 1 false (.t 28)),.w 30 24 true (.build [.z [(.lit (.bool false))],.x 1 (.t 29)]),.w 31 24 true (.call f1 [(.t 27),(.t 30)]),.w 32 24 true (.call f2 []),.w 33 24 true (.call f3 [(.t 31),(.t 32)]),.w 34 24 true (.bin .eql (.t 33) (.i 0)),.u 35 (.pick (.t 24) (.t 34) .fa),.m 2 (.t 35)])
 .ret)))))
def wh(f0 f1:Nat):AC:=(.seq (.ops false [.u 1 (.box 3 (.t 0)),.u 2 (.alloc [(.lit (.bool false)),.emp]),.u 3 (.alloc [(.lit (.bool false)),.emp])])
 (.fg [1,2,3] (.seq (.seq (.ops false [.u 4 (.ld none 3 true (.t 1)),.u 5 (.call f0 [(.t 4)]),.u 6 (.un .not (.t 5)),.m 7 (.t 6),.w 8 7 false (.fa 1 (.t 1)),.w 9 7 false (.ld none 1 false (.t 8)),.w 10 7 false (.len (.t 9)),.w 11 7 false (.bin .eql (.t 10) (.i 0)),.u 12 (.pick (.t 7) .tr (.t 11))])
 (.fg [1,2,3,12] (.cond (.t 12) (.seq (.ops false [.u 13 (.build [.z [(.lit (.bool false)),.emp]]),.u 14 (.call f1 []),.n (.st none 2 (.t 2) (.t 13)),.n (.st none 2 (.t 3) (.t 14))])
 .ret) .skip)))
 (.fg [1,2,3] (.seq (.ops true [.u 15 (.fa 0 (.t 1)),.u 16 (.ld (some 1) 1 false (.t 15)),.u 17 (.fa 1 (.t 1)),.u 18 (.ld (some 1) 1 false (.t 17)),.u 19 (.build [.x 1 (.t 16),.x 1 (.t 18)]),.u 20 (.fa 2 (.t 1)),.u 21 (.ld (some 1) 1 false (.t 20)),.u 22 (.build [.z [(.lit (.bool false))],.x 1 (.t 21)]),.n (.st (some 2) 2 (.t 2) (.t 19)),.n (.st (some 3) 2 (.t 3) (.t 22))])
 .ret)))))
def Wj(f0 f1 f2 f3:Nat):AC:=(.seq (.ops false [.u 2 (.box 2 (.t 0)),.u 3 (.box 2 (.t 1)),.u 4 (.alloc [(.lit (.bool false)),.emp,.emp])])
 (.fg [2,3,4] (.seq (.seq (.ops false [.u 12 (.ld none 2 true (.t 2)),.u 13 (.call f0 [(.t 12)]),.u 14 (.bin .eql (.t 13) (.i 0))])
 (.fg [2,3,4,14] (.cond (.t 14) (.seq (.ops false [.u 15 (.build [.z [(.lit (.bool false)),.emp,.emp]]),.n (.st none 3 (.t 4) (.t 15))])
 .ret) .skip)))
 (.fg [2,3,4] (.seq (.seq (.ops false [.u 16 (.ld none 2 true (.t 3)),.u 17 (.call f0 [(.t 16)]),.u 18 (.bin .lss (.t 17) (.i 0))])
 (.fg [2,3,4,18] (.cond (.t 18) (.ops true [.u 19 (.ld none 2 true (.t 2)),.u 20 (.call f1 [(.t 19)]),.u 21 (.ld none 2 true (.t 3)),.u 22 (.call f1 [(.t 21)]),.n (.st none 2 (.t 2) (.t 20)),.n (.st none 2 (.t 3) (.t 22))]) .skip)))
 (.fg [2,3,4] (.seq (.ops false [.u 23 (.ld none 2 true (.t 2)),.u 24 (.ld none 2 true (.t 3)),.u 25 (.call f2 [(.t 23),(.t 24)]),.u 5 (.alloc [(.lit (.bool false)),.emp]),.n (.st none 2 (.t 5) (.t 25))])
 (.fg [2,3,4,5] (.seq (.ops false [.u 27 (.ld none 2 true (.t 2)),.u 28 (.ld none 2 true (.t 5)),.u 29 (.call f3 [(.t 27),(.t 28)]),.m 26 (.t 29),.u 30 (.ext 0 (.t 26)),.u 31 (.ext 1 (.t 26)),.u 32 (.ext 2 (.t 26)),.u 6 (.alloc [(.lit (.bool false)),.emp]),.u 7 (.alloc [(.lit (.bool false)),.emp]),.n (.st none 2 (.t 6) (.t 30)),.n (.st none 2 (.t 7) (.t 31)),.m 8 (.t 32)])
 (.fg [3,4,5,6] (.seq (.ops false [.u 34 (.ld none 2 true (.t 3)),.u 35 (.ld none 2 true (.t 5)),.u 36 (.call f3 [(.t 34),(.t 35)]),.m 33 (.t 36),.u 37 (.ext 0 (.t 33)),.u 38 (.ext 1 (.t 33)),.u 39 (.ext 2 (.t 33)),.u 9 (.alloc [(.lit (.bool false)),.emp]),.u 10 (.alloc [(.lit (.bool false)),.emp]),.n (.st none 2 (.t 9) (.t 37)),.n (.st none 2 (.t 10) (.t 38)),.m 11 (.t 39)])
 (.fg [4,6,9] (.seq (.ops false [.u 40 (.fa 0 (.t 6)),.u 41 (.ld none 1 false (.t 40)),.u 42 (.fa 1 (.t 6)),.u 43 (.ld none 1 false (.t 42)),.u 44 (.fa 1 (.t 9)),.u 45 (.ld none 1 false (.t 44)),.u 46 (.build [.x 1 (.t 41),.x 1 (.t 43),.x 1 (.t 45)]),.n (.st none 3 (.t 4) (.t 46))])
 .ret)))))))))))))
def Vj(f0 f1:Nat):AC:=(.seq (.ops false [.u 2 (.box 2 (.t 0)),.u 3 (.box 2 (.t 1)),.u 4 (.alloc [(.lit (.bool false)),.emp,.emp]),.m 5 (.i 0)])
 (.fg [2,3,4] (.seq (.seq (.ops false [.u 6 (.ld none 2 true (.t 3)),.u 7 (.call f0 [(.t 6)]),.u 8 (.bin .eql (.t 7) (.i 0))])
 (.fg [2,3,4,8] (.cond (.t 8) (.seq (.ops false [.u 9 (.build [.z [(.lit (.bool false)),.emp,.emp]]),.n (.st none 3 (.t 4) (.t 9)),.m 5 (.i 8)])
 .ret) .skip)))
 (.fg [2,3,4] (.seq (.ops false [.u 10 (.ld none 2 true (.t 2)),.u 11 (.ld none 2 true (.t 3)),.u 12 (.call f1 [(.t 10),(.t 11)]),.n (.st none 3 (.t 4) (.t 12)),.m 5 (.i 0)])
 .ret)))))
def vh:AC:=(.seq (.ops false [.m 2 .fa])
 (.fg [0] (.seq (.ops false [.m 3 (.t 0),.u 4 (.len (.t 3)),.u 5 (.bin .gtr (.t 4) (.i 0)),.m 6 (.t 5),.w 7 6 true (.mv (.t 0)),.w 8 6 true (.mv (.t 0)),.w 9 6 true (.len (.t 8)),.w 10 6 true (.bin .sub (.t 9) (.i 1)),.w 11 6 true (.idx 1 (.t 7) (.t 10)),.w 12 6 true (.ld none 1 false (.t 11)),.w 13 6 true (.bin .neq (.t 12) (.c (.one (.lit (.int .u32 0))))),.u 14 (.pick (.t 6) (.t 13) .fa),.m 2 (.t 14)])
 .ret)))
theorem xM{n d N D:Int}{g:Nat}(hd:d≠0)(hn:n≠0)(hN:N=d.sign*n)(hD:0<=D)(e2:D.natAbs=d.natAbs)(eg:g=Int.gcd n d) :
  AV.agg [zb (zcan (N / (g:Int))),zm (zcan (N / (g:Int))),zm (zcan (D / (g:Int)))]=.agg [cb (rcan (Rat.divInt n d)),cn (rcan (Rat.divInt n d)),cd (rcan (Rat.divInt n d))]:=by
 obtain⟨D',rfl⟩:=Int.eq_ofNat_of_zero_le hD;simp only [Int.natAbs_natCast]at e2;subst e2 eg hN;have hg:0<Int.gcd n d:=Int.gcd_pos_of_ne_zero_left _ hn;rw [yaK,yaH,JaF,qO hd hn,waG,waG,ybq];have hdv:((Int.gcd n d:Nat):Int) ∣ d.sign*n:=Int.dvd_mul_of_dvd_right (Int.gcd_dvd_left _ _);obtain⟨k,hk⟩:=hdv;have hs:(d.sign*n).natAbs=n.natAbs:=by
  rw [Int.natAbs_mul,Int.natAbs_sign_of_ne_zero hd,Nat.one_mul]
 have e:(d.sign*n / ((Int.gcd n d:Nat):Int))=k:=by rw [hk,Int.mul_ediv_cancel_left _ (by omega)]
 rw [e,<-Int.natCast_ediv];simp only [zcan,Int.natAbs_natCast];have hk2:k.natAbs=n.natAbs / Int.gcd n d:=by
  rw [<-hs,hk,Int.natAbs_mul];simp only [Int.natAbs_natCast];rw [Nat.mul_div_cancel_left _ hg]
 have:decide (k<0)=decide (d.sign*n<0):=by
  rw [decide_eq_decide,hk];constructor
  .intro h;exact Int.mul_neg_of_pos_of_neg (by omega) h
  .intro h;rcases Int.lt_or_le k 0 with h' | h'
   .exact h'
   .have:=Int.mul_nonneg (show(0:Int)<=((Int.gcd n d:Nat):Int) by omega) h';omega
 rw [hk2,this]
theorem JP(hΓ:Holds P Γ){f:Nat}(hc:check P f=some (15,vh.strip,[.tmp 2])):Sound P f (.dat true yt):=by
 refine ka hc jan hΓ (λargs K hcl hfi hG=>?_);match args,hG with
 | [a],hG=>
  obtain⟨l,rfl,hl,hK⟩:=hG;refine⟨by simp,?_⟩
  simp only [go_sem,vh];intro _;refine⟨λh _=>⟨by omega,by omega,by omega,?_⟩,λh=>?_⟩
  .have hne:l≠[]:=λe=>by rw [e]at h;simp at h
   rw [show((l.length:Int)-1).toNat=l.length-1 by omega]
   have e:(!decide (l.getD (l.length-1) 0=0))=decide (l≠[]/\NZ l):=by
    rw [<-decide_not,decide_eq_decide];unfold NZ;rw [List.getLast?_eq_getElem?,List.getElem?_eq_getElem (by omega),List.getD_eq_getElem?_getD,List.getElem?_eq_getElem (by omega)]
    simp [hne]
   rw [e];exact hK
  .have hne:l=[]:=List.eq_nil_of_length_eq_zero (by omega)
   rw [decide_eq_false (λe=>e.1 hne)]at hK;exact hK
theorem VP(hΓ:Holds P Γ){f fv fg fo fc:Nat}(hv:Γ fv=.dat true yt)(hg:Γ fg=.dat false uu)(ho:Γ fo=.dat false Qq)(hc' : Γ fc=.dat true Ys)(hc:check P f=some (36,(qh fv fg fo fc).strip,[.tmp 2])):Sound P f (.dat true wd):=by
 refine ka hc uM hΓ (λargs K hcl hfi hG=>?_);match args,hG with
 | [a],hG=>
  obtain⟨x,rfl,hx,hl,hK⟩:=hG;refine⟨by simp,?_⟩
  simp only [go_sem,qh,hv,hg,ho,hc',yaK,yaH,JaF];have hl1:x.2.1.length<=4294967296:=Nat.le_trans (Nat.le_max_left _ _) hl;have hl2:x.2.2.length<=4294967296:=Nat.le_trans (Nat.le_max_right _ _) hl;have e0:∀{l:List Nat},¬l.length=0->l≠[]:=λh e=>h (by rw [e];rfl)
  have key:¬(x.2.1=[]/\x.2.2=[])->WL x.2.1/\(x.2.1≠[]/\NZ x.2.1->WL x.2.2/\(x.2.2≠[]/\NZ x.2.2->WL x.2.1/\WL x.2.2/\zs (zv (false,x.2.1))<=17179869184/\zs (zv (false,x.2.2))<=17179869184/\
    zs (((zv (false,x.2.1)).gcd (zv (false,x.2.2)):Nat):Int)<=17179869184/\zs 1<=17179869184/\zs ((((zv (false,x.2.1)).gcd (zv (false,x.2.2)):Nat):Int)-1)<=17179869184/\
    K (AV.one (C.lit (Value.bool (decide (ordI (((zv (false,x.2.1)).gcd (zv (false,x.2.2)):Nat):Int) 1=0))))))/\(¬(x.2.2≠[]/\NZ x.2.2)->K (AV.one (C.lit (Value.bool false)))))/\(¬(x.2.1≠[]/\NZ x.2.1)->K (AV.one (C.lit (Value.bool false)))):=by
   intro hnd;unfold vldR at hK;rw [if_neg hnd]at hK;refine⟨hx.1,λh1=>⟨hx.2,λh2=>?_,λh2=>?_⟩,λh1=>?_⟩
   .have s2:zs (zv (false,x.2.2))<=4294967296:=by rw [zv_f h2.2,zag,je hx.2 h2.2];exact hl2
    have hne:zv (false,x.2.2)≠0:=by
     rw [zv_f h2.2];have:=jd h2.2 h2.1;omega
    have s3:=vaV (v:=zv (false,x.2.1)) hne s2;have s4:zs 1<=2:=Jr (by decide)
    have s5:=jL ((((zv (false,x.2.1)).gcd (zv (false,x.2.2)):Nat):Int)) (-1);rw [zad,<-Int.sub_eq_add_neg]at s5;refine⟨hx.1,hx.2,?_,by omega,by omega,by omega,by omega,?_⟩
    .rw [zv_f h1.2,zag,je hx.1 h1.2];omega
    .rw [zv_f h1.2,zv_f h2.2];have e:decide (ordI (((((val x.2.1:Nat):Int)).gcd ((val x.2.2:Nat):Int):Nat):Int) 1=0)=decide (x.2.1≠[]/\x.2.2≠[]/\NZ x.2.1/\NZ x.2.2/\Nat.gcd (val x.2.1) (val x.2.2)=1):=by
      rw [decide_eq_decide,Waf,Int.gcd_natCast_natCast];constructor
      .intro h;exact⟨h1.1,h2.1,h1.2,h2.2,by omega⟩
      .rintro⟨_,_,_,_,h⟩;omega
     rw [e];exact hK
   .rw [decide_eq_false (λh=>h2 ⟨h.2.1,h.2.2.2.1⟩)]at hK;exact hK
   .rw [decide_eq_false (λh=>h1 ⟨h.1,h.2.2.1⟩)]at hK;exact hK
  refine λ_=>⟨λhn _=>⟨λhd=>?_,λhd=>key (λh=>e0 hd h.2)⟩,λhn=>key (λh=>e0 hn h.1)⟩;unfold vldR at hK;rw [if_pos ⟨List.eq_nil_of_length_eq_zero hn,List.eq_nil_of_length_eq_zero hd⟩]at hK;exact hK
theorem kP(hΓ:Holds P Γ){f fv fo:Nat}(hv:Γ fv=.dat true wd)(ho:Γ fo=.dat false Qq)(hc:check P f=some (23,(wh fv fo).strip,[.cell 2 2 true,.cell 3 2 true])):Sound P f (.dat false Ve):=by
 refine ka hc xK hΓ (λargs K hcl hfi hG=>?_);match args,hG with
 | [a],hG=>
  obtain⟨x,rfl,hx,hl,hK⟩:=hG;refine⟨by simp,?_⟩
  simp only [go_sem,wh,hv,ho,yaK,yaH,JaF];have hl1:x.2.1.length<=4294967296:=Nat.le_trans (Nat.le_max_left _ _) hl;have hl2:x.2.2.length<=4294967296:=Nat.le_trans (Nat.le_max_right _ _) hl;have e0:(zcan 0)=(false,[]):=by simp [zcan,Wb]
  have h0:rv x=0->K (AV.tup [AV.agg [C.lit (Value.bool false),C.slice []],AV.agg [zb (zcan 1),zm (zcan 1)]]):=by
   intro h;rw [h]at hK;have e1:((0:Rat).num)=0:=rfl;have e2:((0:Rat).den:Int)=1:=rfl;rw [e1,e2,e0]at hK;exact hK
  refine⟨hx,hl,λhv _=>⟨λhn=>h0 ?_,λhn=>?_⟩,λhv=>h0 (uan hv)⟩
  .unfold rv;rw [if_pos hv,List.eq_nil_of_length_eq_zero hn];simp [val,sg]
  .obtain⟨p1,p2,p3,p4,p5,p6⟩:=qY hx hv (λe=>hn (by rw [e];rfl))
   have hn0:=jd p4 (λe=>hn (by rw [e];rfl))
   rw [p1,p2]at hK;have e1:zcan (sg x.1 (val x.2.1))=(x.1,x.2.1):=by
    rw [<-ZW,je hx.1 p4];have:decide (0<x.2.1.length)=true:=by simp only [decide_eq_true_eq];omega
    rw [this,Bool.and_true]
   have e2:zcan ((val x.2.2:Nat):Int)=(false,x.2.2):=by
    have:=ZW false (val x.2.2);rw [je hx.2 p5,Bool.false_and]at this;exact this.symm
   rw [e1,e2]at hK;exact hK
theorem wY(hΓ:Holds P Γ){f fs fn fg fd:Nat}(hs:Γ fs=.dat true vg)(hn:Γ fn=.dat false Zw)(hg:Γ fg=.dat false uu)(hd:Γ fd=.dat false Zs)(hc:check P f=some (47,(Wj fs fn fg fd).strip,[.cell 4 3 true])):Sound P f (.dat false Jj):=by
 refine ka hc WQ hΓ (λargs K hcl hfi hG=>?_);match args,hG with
 | [a,b],hG=>
  obtain⟨v,rfl,hv,w,rfl,hw,hz,hz',h0,hK⟩:=hG;refine⟨by simp,?_⟩
  simp only [go_sem,Wj,hs,hn,hg,hd,hv,hw];generalize zv v=n at *
  generalize zv w=d at *
  have hd0:=h0;refine⟨λh=>?_,λh=>?_⟩
  .rw [Int.sign_eq_zero_iff_zero.1 h,Rat.zero_divInt,Jc]at hK;exact hK
  have hn0:n≠0:=λe=>h (by rw [e];rfl)
  have hg0:((Int.gcd n d:Nat):Int)≠0:=by
   have:=Int.gcd_pos_of_ne_zero_left d hn0;omega
  have hgz:zs ((Int.gcd n d:Nat):Int)<=17179869184:=vaV hd0 hz';simp only [Int.gcd_neg,Int.neg_gcd,zad,WaN];refine⟨λhdn=>⟨by omega,by omega,hz,hz',hz,hgz,hg0,hz',hgz,hg0,?_⟩,λhdn=>⟨hz,hz',hz,hgz,hg0,hz',hgz,hg0,?_⟩⟩
  .rw [xM hd0 hn0 (by rw [Int.sign_eq_neg_one_of_neg hdn];omega) (by omega) (by omega) rfl];exact hK
  .rw [xM hd0 hn0 (by rw [Int.sign_eq_one_of_pos (by omega)];omega) (by omega) (by omega) rfl];exact hK
end Go.Abs
end
section
namespace Go.Num
open Go.Abs
theorem rz_0:rz 0=0:=by unfold rz;rw [Jc];rfl
theorem rz_1:rz 1<=2:=by
 have:=vas 1;have h1:zs 1<=2:=Jr (by decide)
 have e:((1:Int):Rat)=1:=rfl;rw [e]at this;omega
theorem Xb(p q:Rat):rz (p*q)<=rz p+rz q+2:=by
 rw [<-V7];have n1:=yK p;have n2:=yK q;have d1:=yO p;have d2:=yO q;have m1:=jq p.num q.num;have m2:=jq (p.den:Int) (q.den:Int);refine WN (by exact Int.mul_ne_zero (VB _) (VB _)) (by omega) (by omega)
theorem yab{p q:Rat}(hq:q≠0):Rat.divInt (p.num*q.den) (p.den*q.num)=p / q:=by
 have hn:q.num≠0:=WaU hq;have e1:(p.num:Rat) / (p.den:Rat)=p:=by have:=Rat.num_divInt_den p;rw [Rat.divInt_eq_div]at this;exact this
 have e2:(q.num:Rat) / (q.den:Rat)=q:=by have:=Rat.num_divInt_den q;rw [Rat.divInt_eq_div]at this;exact this
 have d1:(p.den:Rat)≠0:=by exact_mod_cast p.den_nz
 have d2:(q.den:Rat)≠0:=by exact_mod_cast q.den_nz
 have d3:(q.num:Rat)≠0:=by exact_mod_cast hn
 rw [Rat.divInt_eq_div];simp only [Rat.intCast_mul,Rat.intCast_natCast];have f1:(p.num:Rat)=p*(p.den:Rat):=by grind
 have f2:(q.num:Rat)=q*(q.den:Rat):=by grind
 rw [f1,f2];grind
theorem YT(p q:Rat):rz (p / q)<=rz p+rz q+2:=by
 by_cases hq:q=0
 .subst hq;rw [Rat.div_def,Rat.inv_zero,Rat.mul_zero,rz_0];omega
 .rw [<-yab hq];have n1:=yK p;have n2:=yK q;have d1:=yO p;have d2:=yO q;have m1:=jq p.num (q.den:Int);have m2:=jq (p.den:Int) q.num;refine WN (by exact Int.mul_ne_zero (VB _) (WaU hq)) (by omega) (by omega)
theorem Ubi(p q:Rat):Rat.divInt (p.num*q.den) (p.den*q.num)=p / q:=by
 by_cases hq:q=0
 .subst hq;rw [show(0:Rat).num=0 from rfl,Int.mul_zero,Rat.divInt_zero,Rat.div_def,Rat.inv_zero,Rat.mul_zero]
 .exact yab hq
end Go.Num
namespace Go.Abs
open Go.Num
variable {P:Program} {Γ:Nat->Spec}
def rQ(q:Rat):AV:=.agg [cb (rcan q),cn (rcan q),cd (rcan q)]
theorem V3(q:Rat):rQ q=.agg [cb (rcan q),cn (rcan q),cd (rcan q)]:=eq_of_heq (HEq.refl _)
attribute [go_sem,go_sem ↓] V3
def vi(l:List AV)(K:AV->Prop):Prop:=
 match l with
 | [a,b]=>onR (λx=>onR (λy=>rl x<=4294967296/\rl y<=4294967296/\K (rQ (rv x*rv y))) b) a
 | _=>False
theorem YaT a b K:vi [a,b] K=(onR (λx=>onR (λy=>rl x<=4294967296/\rl y<=4294967296/\K (rQ (rv x*rv y))) b) a):=propext Iff.rfl
@[congr] theorem VbT{K}{l l'}(h:l=l'):vi l K=vi l' K:=by subst h;rfl
attribute [go_sem,go_sem ↓] YaT
theorem qaX:Good vi:=Wa λas=>by
 unfold vi;split
 .exact(Yn λ_=>(Yn λ_=>(.and λ_=>(.and λ_=>(.ret _)))))
 .exact .of λK hk=>hk.elim
def Vs(tE:Nat)(l:List AV)(K:AV->Prop):Prop:=
 match l with
 | [a,b]=>onW (λv=>onW (λw=>zs (zv v)<=17179869184/\zs (zv w)<=17179869184/\K (.tup [rQ (Rat.divInt (zv v) (zv w)),errV tE (if zv w=0 then 8 else 0)])) b) a
 | _=>False
theorem W7 tE a b K:Vs tE [a,b] K=(onW (λv=>onW (λw=>zs (zv v)<=17179869184/\zs (zv w)<=17179869184/\K (.tup [rQ (Rat.divInt (zv v) (zv w)),errV tE (if zv w=0 then 8 else 0)])) b) a):=propext Iff.rfl
@[congr] theorem jbD tE{K}{l l'}(h:l=l'):Vs tE l K=Vs tE l' K:=by subst h;rfl
attribute [go_sem,go_sem ↓] W7
theorem Wah(tE:Nat):Good (Vs tE):=Wa λas=>by
 unfold Vs;split
 .exact(xn λ_=>(xn λ_=>(.and λ_=>(.and λ_=>(.ret _)))))
 .exact .of λK hk=>hk.elim
def jx(tE:Nat)(l:List AV)(K:AV->Prop):Prop:=
 match l with
 | [a,b]=>onR (λx=>onR (λy=>rl x<=4294967296/\rl y<=4294967296/\K (.tup [rQ (rv x / rv y),errV tE (if rv y=0 then 8 else 0)])) b) a
 | _=>False
theorem Qar tE a b K:jx tE [a,b] K=(onR (λx=>onR (λy=>rl x<=4294967296/\rl y<=4294967296/\K (.tup [rQ (rv x / rv y),errV tE (if rv y=0 then 8 else 0)])) b) a):=propext Iff.rfl
@[congr] theorem ybP tE{K}{l l'}(h:l=l'):jx tE l K=jx tE l' K:=by subst h;rfl
attribute [go_sem,go_sem ↓] Qar
theorem vaH(tE:Nat):Good (jx tE):=Wa λas=>by
 unfold jx;split
 .exact(Yn λ_=>(Yn λ_=>(.and λ_=>(.and λ_=>(.ret _)))))
 .exact .of λK hk=>hk.elim
def kt(l:List AV)(K:AV->Prop):Prop:=
 match l with
 | [a,b]=>onW (λv=>onW (λw=>zs (zv v)<=17179869184/\zs (zv w)<=17179869184/\K (.tup [rQ (Rat.divInt (zv v) (zv w)),.one (.lit (.int .i64 (if zv w=0 then 8 else 0)))])) b) a
 | _=>False
theorem Q6 a b K:kt [a,b] K=(onW (λv=>onW (λw=>zs (zv v)<=17179869184/\zs (zv w)<=17179869184/\K (.tup [rQ (Rat.divInt (zv v) (zv w)),.one (.lit (.int .i64 (if zv w=0 then 8 else 0)))])) b) a):=propext Iff.rfl
@[congr] theorem WbE{K}{l l'}(h:l=l'):kt l K=kt l' K:=by subst h;rfl
attribute [go_sem,go_sem ↓] Q6
theorem xai:Good kt:=Wa λas=>by
 unfold kt;split
 .exact(xn λ_=>(xn λ_=>(.and λ_=>(.and λ_=>(.ret _)))))
 .exact .of λK hk=>hk.elim
def JB(l:List AV)(K:AV->Prop):Prop:=
 match l with
 | [a,b]=>onR (λx=>onR (λy=>rl x<=1073741824/\rl y<=1073741824/\K (.tup [rQ (rv x / rv y),.one (.lit (.int .i64 (if rv y=0 then 8 else 0)))])) b) a
 | _=>False
theorem waB a b K:JB [a,b] K=(onR (λx=>onR (λy=>rl x<=1073741824/\rl y<=1073741824/\K (.tup [rQ (rv x / rv y),.one (.lit (.int .i64 (if rv y=0 then 8 else 0)))])) b) a):=propext Iff.rfl
@[congr] theorem ybL{K}{l l'}(h:l=l'):JB l K=JB l' K:=by subst h;rfl
attribute [go_sem,go_sem ↓] waB
theorem ZaK:Good JB:=Wa λas=>by
 unfold JB;split
 .exact(Yn λ_=>(Yn λ_=>(.and λ_=>(.and λ_=>(.ret _)))))
 .exact .of λK hk=>hk.elim
def km(f0 f1 f2:Nat):AC:=(.seq (.ops false [.u 2 (.box 3 (.t 0)),.u 3 (.box 3 (.t 1)),.u 4 (.alloc [(.lit (.bool false)),.emp,.emp])])
 (.fg [2,3,4] (.seq (.ops false [.u 10 (.ld none 3 true (.t 2)),.u 11 (.call f0 [(.t 10)]),.m 9 (.t 11),.u 12 (.ext 0 (.t 9)),.u 13 (.ext 1 (.t 9)),.u 5 (.alloc [(.lit (.bool false)),.emp]),.u 6 (.alloc [(.lit (.bool false)),.emp]),.n (.st none 2 (.t 5) (.t 12)),.n (.st none 2 (.t 6) (.t 13))])
 (.fg [3,4,5,6] (.seq (.ops false [.u 15 (.ld none 3 true (.t 3)),.u 16 (.call f0 [(.t 15)]),.m 14 (.t 16),.u 17 (.ext 0 (.t 14)),.u 18 (.ext 1 (.t 14)),.u 7 (.alloc [(.lit (.bool false)),.emp]),.u 8 (.alloc [(.lit (.bool false)),.emp]),.n (.st none 2 (.t 7) (.t 17)),.n (.st none 2 (.t 8) (.t 18))])
 (.fg [4,5,6,7,8] (.seq (.ops true [.u 19 (.ld none 2 true (.t 5)),.u 20 (.ld none 2 true (.t 7)),.u 21 (.call f1 [(.t 19),(.t 20)]),.u 22 (.ld none 2 true (.t 6)),.u 23 (.ld none 2 true (.t 8)),.u 24 (.call f1 [(.t 22),(.t 23)]),.u 25 (.call f2 [(.t 21),(.t 24)]),.n (.st none 3 (.t 4) (.t 25))])
 .ret)))))))
def Jv(f0 f1 f2:Nat):AC:=(.seq (.ops false [.u 2 (.box 3 (.t 0)),.u 3 (.box 3 (.t 1)),.u 4 (.alloc [(.lit (.bool false)),.emp,.emp]),.m 5 (.c (.one (.lit .nilIface)))])
 (.fg [2,3,4] (.seq (.ops false [.u 11 (.ld none 3 true (.t 2)),.u 12 (.call f0 [(.t 11)]),.m 10 (.t 12),.u 13 (.ext 0 (.t 10)),.u 14 (.ext 1 (.t 10)),.u 6 (.alloc [(.lit (.bool false)),.emp]),.u 7 (.alloc [(.lit (.bool false)),.emp]),.n (.st none 2 (.t 6) (.t 13)),.n (.st none 2 (.t 7) (.t 14))])
 (.fg [3,4,6,7] (.seq (.ops false [.u 16 (.ld none 3 true (.t 3)),.u 17 (.call f0 [(.t 16)]),.m 15 (.t 17),.u 18 (.ext 0 (.t 15)),.u 19 (.ext 1 (.t 15)),.u 8 (.alloc [(.lit (.bool false)),.emp]),.u 9 (.alloc [(.lit (.bool false)),.emp]),.n (.st none 2 (.t 8) (.t 18)),.n (.st none 2 (.t 9) (.t 19))])
 (.fg [4,6,7,8,9] (.seq (.ops true [.u 20 (.ld none 2 true (.t 6)),.u 21 (.ld none 2 true (.t 9)),.u 22 (.call f1 [(.t 20),(.t 21)]),.u 23 (.ld none 2 true (.t 7)),.u 24 (.ld none 2 true (.t 8)),.u 25 (.call f1 [(.t 23),(.t 24)]),.u 26 (.call f2 [(.t 22),(.t 25)]),.u 27 (.ext 0 (.t 26)),.u 28 (.ext 1 (.t 26)),.n (.st none 3 (.t 4) (.t 27)),.m 5 (.t 28)])
 .ret)))))))
def vk(f0 f1 f2:Nat):AC:=(.seq (.ops false [.u 2 (.box 3 (.t 0)),.u 3 (.box 3 (.t 1)),.u 4 (.alloc [(.lit (.bool false)),.emp,.emp]),.m 5 (.i 0)])
 (.fg [2,3,4] (.seq (.ops false [.u 11 (.ld none 3 true (.t 2)),.u 12 (.call f0 [(.t 11)]),.m 10 (.t 12),.u 13 (.ext 0 (.t 10)),.u 14 (.ext 1 (.t 10)),.u 6 (.alloc [(.lit (.bool false)),.emp]),.u 7 (.alloc [(.lit (.bool false)),.emp]),.n (.st none 2 (.t 6) (.t 13)),.n (.st none 2 (.t 7) (.t 14))])
 (.fg [3,4,6,7] (.seq (.ops false [.u 16 (.ld none 3 true (.t 3)),.u 17 (.call f0 [(.t 16)]),.m 15 (.t 17),.u 18 (.ext 0 (.t 15)),.u 19 (.ext 1 (.t 15)),.u 8 (.alloc [(.lit (.bool false)),.emp]),.u 9 (.alloc [(.lit (.bool false)),.emp]),.n (.st none 2 (.t 8) (.t 18)),.n (.st none 2 (.t 9) (.t 19))])
 (.fg [4,6,7,8,9] (.seq (.ops true [.u 20 (.ld none 2 true (.t 6)),.u 21 (.ld none 2 true (.t 9)),.u 22 (.call f1 [(.t 20),(.t 21)]),.u 23 (.ld none 2 true (.t 7)),.u 24 (.ld none 2 true (.t 8)),.u 25 (.call f1 [(.t 23),(.t 24)]),.u 26 (.call f2 [(.t 22),(.t 25)]),.u 27 (.ext 0 (.t 26)),.u 28 (.ext 1 (.t 26)),.n (.st none 3 (.t 4) (.t 27)),.m 5 (.t 28)])
 .ret)))))))
theorem uT(hΓ:Holds P Γ){f fp fm ff:Nat}(hp:Γ fp=.dat false Ve)(hm:Γ fm=.dat false qw)(hf:Γ ff=.dat false Jj)(hc:check P f=some (26,(km fp fm ff).strip,[.cell 4 3 true])):Sound P f (.dat false vi):=by
 refine ka hc qaX hΓ (λargs K hcl hfi hG=>?_);match args,hG with
 | [a,b],hG=>
  obtain⟨x,rfl,hx,y,rfl,hy,hl,hl',hK⟩:=hG;refine⟨by simp,?_⟩
  simp only [go_sem,km,hp,hm,hf,hx,hy];have n1:=QH hx;have d1:=zH hx;have n2:=QH hy;have d2:=zH hy;have m1:=jq (rv x).num (rv y).num;have m3:=jq ((rv x).den:Int) (rv y).den;rw [Int.natCast_mul,V7];exact⟨hl,hl',by omega,by omega,by omega,by omega,by omega,by omega,Int.mul_ne_zero (VB _) (VB _),hK⟩
theorem Q4(hΓ:Holds P Γ){f fs ff tE:Nat}(hs:Γ fs=.dat true vg)(hf:Γ ff=.dat false Jj)(hc:check P f=some (14,(Qr fs ff tE).strip,[.cell 4 3 true,.tmp 5])):Sound P f (.dat false (Vs tE)):=by
 refine ka hc (Wah tE) hΓ (λargs K hcl hfi hG=>?_);match args,hG with
 | [a,b],hG=>
  obtain⟨v,rfl,hv,w,rfl,hw,hz,hz',hK⟩:=hG;refine⟨by simp,?_⟩
  simp only [go_sem,Qr,hs,hf,hv,hw];refine⟨λe=>?_,λe=>?_⟩
  .have h0:=Int.sign_eq_zero_iff_zero.1 e;rw [if_pos h0,h0,Rat.divInt_zero,Wc tE (by decide),V3,Jc]at hK
   exact hK
  .have h0:zv w≠0:=λh=>e (by rw [h];rfl)
   rw [if_neg h0,Zc]at hK;exact⟨hz,hz',h0,hK⟩
theorem waj(hΓ:Holds P Γ){f fp fm ff tE:Nat}(hp:Γ fp=.dat false Ve)(hm:Γ fm=.dat false qw)(hf:Γ ff=.dat false (Vs tE))(hc:check P f=some (29,(Jv fp fm ff).strip,[.cell 4 3 true,.tmp 5])):Sound P f (.dat false (jx tE)):=by
 refine ka hc (vaH tE) hΓ (λargs K hcl hfi hG=>?_);match args,hG with
 | [a,b],hG=>
  obtain⟨x,rfl,hx,y,rfl,hy,hl,hl',hK⟩:=hG;refine⟨by simp,?_⟩
  simp only [go_sem,Jv,hp,hm,hf,hx,hy];have n1:=QH hx;have d1:=zH hx;have n2:=QH hy;have d2:=zH hy;have m1:=jq (rv x).num ((rv y).den:Int);have m3:=jq ((rv x).den:Int) (rv y).num;have e:((((rv x).den:Int)*(rv y).num=0))=(rv y=0):=propext ⟨λh=>by
   rcases Int.mul_eq_zero.1 h with h | h
   .exact absurd h (VB _)
   .exact Rat.num_eq_zero.1 h,λh=>by rw [h];exact Int.mul_zero _⟩
  simp only [e];rw [Ubi];exact⟨hl,hl',by omega,by omega,by omega,by omega,by omega,by omega,hK⟩
theorem Z5(hΓ:Holds P Γ){f fs ff:Nat}(hs:Γ fs=.dat true vg)(hf:Γ ff=.dat false Jj)(hc:check P f=some (13,(Vj fs ff).strip,[.cell 4 3 true,.tmp 5])):Sound P f (.dat false kt):=by
 refine ka hc xai hΓ (λargs K hcl hfi hG=>?_);match args,hG with
 | [a,b],hG=>
  obtain⟨v,rfl,hv,w,rfl,hw,hz,hz',hK⟩:=hG;refine⟨by simp,?_⟩
  simp only [go_sem,Vj,hs,hf,hv,hw];refine⟨λe=>?_,λe=>?_⟩
  .have h0:=Int.sign_eq_zero_iff_zero.1 e;rw [if_pos h0,h0,Rat.divInt_zero,V3,Jc]at hK;exact hK
  .have h0:zv w≠0:=λh=>e (by rw [h];rfl)
   rw [if_neg h0]at hK;exact⟨hz,hz',h0,hK⟩
theorem wah(hΓ:Holds P Γ){f fp fm ff:Nat}(hp:Γ fp=.dat false Ve)(hm:Γ fm=.dat false qw)(hf:Γ ff=.dat false kt)(hc:check P f=some (29,(vk fp fm ff).strip,[.cell 4 3 true,.tmp 5])):Sound P f (.dat false JB):=by
 refine ka hc ZaK hΓ (λargs K hcl hfi hG=>?_);match args,hG with
 | [a,b],hG=>
  obtain⟨x,rfl,hx,y,rfl,hy,hl,hl',hK⟩:=hG;refine⟨by simp,?_⟩
  simp only [go_sem,vk,hp,hm,hf,hx,hy];have n1:=QH hx;have d1:=zH hx;have n2:=QH hy;have d2:=zH hy;have m1:=jq (rv x).num ((rv y).den:Int);have m3:=jq ((rv x).den:Int) (rv y).num;have e:((((rv x).den:Int)*(rv y).num=0))=(rv y=0):=propext ⟨λh=>by
   rcases Int.mul_eq_zero.1 h with h | h
   .exact absurd h (VB _)
   .exact Rat.num_eq_zero.1 h,λh=>by rw [h];exact Int.mul_zero _⟩
  simp only [e];rw [Ubi];exact⟨by omega,by omega,by omega,by omega,by omega,by omega,by omega,by omega,hK⟩
end Go.Abs
end
section
namespace Go.Num
open Go.Abs
abbrev V2:=Rat×Rat
abbrev TnQ:=Rat×Bool
abbrev PsQ:=TnQ×V2
def tv(t:Tn):TnQ:=(rv t.1,t.2)
def pv(p:Ps):PsQ:=(tv p.1,av p.2)
def subQ(a b:V2):V2:=(a.1-b.1,a.2-b.2)
def addQ(a b:V2):V2:=(a.1+b.1,a.2+b.2)
def negQ(a:V2):V2:=(-a.1,-a.2)
def crossQ(a b:V2):Rat:=a.1*b.2-a.2*b.1
def sqQ(a:V2):Rat:=a.1*a.1+a.2*a.2
def cosQ(t:TnQ):Rat:=if t.2=true then -1 else (1-t.1*t.1) / (1+t.1*t.1)
def sinQ(t:TnQ):Rat:=if t.2=true then 0 else (t.1+t.1) / (1+t.1*t.1)
def rotQ(t:TnQ)(q:V2):V2:=(cosQ t*q.1-sinQ t*q.2,sinQ t*q.1+cosQ t*q.2)
def appQ(p:PsQ)(q:V2):V2:=addQ (rotQ p.1 q) p.2
def backQ(t:TnQ):TnQ:=(-t.1,t.2)
def invQ(p:PsQ):PsQ:=(backQ p.1,rotQ (backQ p.1) (negQ p.2))
def tchk(t:Tn):Nat:=if vldR t.1=true/\¬(t.2=true/\rv t.1≠0) then 0 else 2
def avld(a:Arc):Bool:=vldR a.1 && vldR a.2
def pvld(p:Ps):Bool:=decide (tchk p.1=0) && avld p.2
def zq(a:V2):Nat:=max (rz a.1) (rz a.2)
theorem kw(a b:V2):zq (subQ a b)<=zq a+zq b+2:=by
 have h1:=Ur a.1 b.1;have h2:=Ur a.2 b.2;unfold zq subQ;simp only;omega
theorem vbH(a b:V2):zq (addQ a b)<=zq a+zq b+2:=by
 have h1:=Xn a.1 b.1;have h2:=Xn a.2 b.2;unfold zq addQ;simp only;omega
theorem YX(a b:V2):rz (crossQ a b)<=2*zq a+2*zq b+6:=by
 have h1:=Xb a.1 b.2;have h2:=Xb a.2 b.1;have h3:=Ur (a.1*b.2) (a.2*b.1);unfold zq crossQ;omega
theorem wa9(a:V2):rz (sqQ a)<=4*zq a+6:=by
 have h1:=Xb a.1 a.1;have h2:=Xb a.2 a.2;have h3:=Xn (a.1*a.1) (a.2*a.2);unfold zq sqQ;omega
theorem XaR:rz (-1)<=2:=by rw [show(-1:Rat) = -(1:Rat) from rfl,JM];exact rz_1
theorem JU(t:TnQ):rz (cosQ t)<=4*rz t.1+20:=by
 unfold cosQ;split
 .have:=XaR;omega
 .have h0:=rz_1;have h1:=Xb t.1 t.1;have h2:=Ur 1 (t.1*t.1);have h3:=Xn 1 (t.1*t.1);have h4:=YT (1-t.1*t.1) (1+t.1*t.1);omega
theorem uU(t:TnQ):rz (sinQ t)<=4*rz t.1+20:=by
 unfold sinQ;split
 .rw [rz_0];omega
 .have h0:=rz_1;have h1:=Xb t.1 t.1;have h2:=Xn t.1 t.1;have h3:=Xn 1 (t.1*t.1);have h4:=YT (t.1+t.1) (1+t.1*t.1);omega
theorem UaT(t:TnQ)(q:V2):zq (rotQ t q)<=8*rz t.1+2*zq q+46:=by
 have c:=JU t;have s:=uU t;have h1:=Xb (cosQ t) q.1;have h2:=Xb (sinQ t) q.2;have h3:=Xb (sinQ t) q.1;have h4:=Xb (cosQ t) q.2;have h5:=Ur (cosQ t*q.1) (sinQ t*q.2);have h6:=Xn (sinQ t*q.1) (cosQ t*q.2);unfold zq rotQ;simp only;omega
theorem Qbg(p:PsQ)(q:V2):zq (appQ p q)<=8*rz p.1.1+2*zq q+zq p.2+48:=by
 have h1:=UaT p.1 q;have h2:=vbH (rotQ p.1 q) p.2;unfold appQ;omega
theorem Y5{a:Arc}(h:WLA a):zq (av a)<=al a:=by
 have h1:=ug h.1;have h2:=ug h.2;unfold zq av al;simp only;omega
end Go.Num
end
section
namespace Go.Abs
open Go.Num
variable {P:Program} {Γ:Nat->Spec}
def pQ(x:V2):AV:=.agg [cb (rcan x.1),cn (rcan x.1),cd (rcan x.1),cb (rcan x.2),cn (rcan x.2),cd (rcan x.2)]
theorem zaK(x:V2):pQ x=.agg [cb (rcan x.1),cn (rcan x.1),cd (rcan x.1),cb (rcan x.2),cn (rcan x.2),cd (rcan x.2)]:=eq_of_heq (HEq.refl _)
def tQ(t:TnQ):AV:=.agg [cb (rcan t.1),cn (rcan t.1),cd (rcan t.1),.lit (.bool t.2)]
theorem vbA(t:TnQ):tQ t=.agg [cb (rcan t.1),cn (rcan t.1),cd (rcan t.1),.lit (.bool t.2)]:=eq_of_heq (HEq.refl _)
theorem JbB(x y:R):av (x,y)=(rv x,rv y):=rfl
theorem Qbn(a b:Rat):WLA (rcan a,rcan b)=True:=eq_true ⟨Vl _,Vl _⟩
attribute [go_sem,go_sem ↓] zaK vbA Qbn
def ke(l:List AV)(K:AV->Prop):Prop:=
 match l with
 | [a]=>onA (λp=>al p<=100000000/\K (.one (.lit (.bool (avld p))))) a
 | _=>False
theorem J7 a K:ke [a] K=(onA (λp=>al p<=100000000/\K (.one (.lit (.bool (avld p))))) a):=propext Iff.rfl
@[congr] theorem kbG{K}{l l'}(h:l=l'):ke l K=ke l' K:=by subst h;rfl
attribute [go_sem,go_sem ↓] J7
theorem yal:Good ke:=Wa λas=>by
 unfold ke;split
 .exact(Xv λ_=>(.and λ_=>(.ret _)))
 .exact .of λK hk=>hk.elim
def qo(l:List AV)(K:AV->Prop):Prop:=
 match l with
 | [a,b]=>onA (λp=>onA (λq=>al p<=100000000/\al q<=100000000/\K (pQ (subQ (av p) (av q)))) b) a
 | _=>False
theorem jay a b K:qo [a,b] K=(onA (λp=>onA (λq=>al p<=100000000/\al q<=100000000/\K (pQ (subQ (av p) (av q)))) b) a):=propext Iff.rfl
@[congr] theorem XbN{K}{l l'}(h:l=l'):qo l K=qo l' K:=by subst h;rfl
attribute [go_sem,go_sem ↓] jay
theorem UaJ:Good qo:=Wa λas=>by
 unfold qo;split
 .exact(Xv λ_=>(Xv λ_=>(.and λ_=>(.and λ_=>(.ret _)))))
 .exact .of λK hk=>hk.elim
def Qo(l:List AV)(K:AV->Prop):Prop:=
 match l with
 | [a,b]=>onA (λp=>onA (λq=>al p<=100000000/\al q<=100000000/\K (pQ (addQ (av p) (av q)))) b) a
 | _=>False
theorem Was a b K:Qo [a,b] K=(onA (λp=>onA (λq=>al p<=100000000/\al q<=100000000/\K (pQ (addQ (av p) (av q)))) b) a):=propext Iff.rfl
@[congr] theorem VbM{K}{l l'}(h:l=l'):Qo l K=Qo l' K:=by subst h;rfl
attribute [go_sem,go_sem ↓] Was
theorem jU:Good Qo:=Wa λas=>by
 unfold Qo;split
 .exact(Xv λ_=>(Xv λ_=>(.and λ_=>(.and λ_=>(.ret _)))))
 .exact .of λK hk=>hk.elim
def Qp(l:List AV)(K:AV->Prop):Prop:=
 match l with
 | [a,b]=>onA (λp=>onA (λq=>al p<=100000000/\al q<=100000000/\K (rQ (crossQ (av p) (av q)))) b) a
 | _=>False
theorem qad a b K:Qp [a,b] K=(onA (λp=>onA (λq=>al p<=100000000/\al q<=100000000/\K (rQ (crossQ (av p) (av q)))) b) a):=propext Iff.rfl
@[congr] theorem xbB{K}{l l'}(h:l=l'):Qp l K=Qp l' K:=by subst h;rfl
attribute [go_sem,go_sem ↓] qad
theorem Zai:Good Qp:=Wa λas=>by
 unfold Qp;split
 .exact(Xv λ_=>(Xv λ_=>(.and λ_=>(.and λ_=>(.ret _)))))
 .exact .of λK hk=>hk.elim
def qI(l:List AV)(K:AV->Prop):Prop:=
 match l with
 | [a]=>onA (λp=>al p<=100000000/\K (rQ (sqQ (av p)))) a
 | _=>False
theorem ubm a K:qI [a] K=(onA (λp=>al p<=100000000/\K (rQ (sqQ (av p)))) a):=propext Iff.rfl
@[congr] theorem Wb0{K}{l l'}(h:l=l'):qI l K=qI l' K:=by subst h;rfl
attribute [go_sem,go_sem ↓] ubm
theorem Jbc:Good qI:=Wa λas=>by
 unfold qI;split
 .exact(Xv λ_=>(.and λ_=>(.ret _)))
 .exact .of λK hk=>hk.elim
def Uao(l:List AV)(K:AV->Prop):Prop:=
 match l with
 | [a,b]=>onA (λp=>onA (λq=>al p<=100000000/\al q<=100000000/\K (.one (.lit (.bool (decide (av p=av q)))))) b) a
 | _=>False
theorem Uax a b K:Uao [a,b] K=(onA (λp=>onA (λq=>al p<=100000000/\al q<=100000000/\K (.one (.lit (.bool (decide (av p=av q)))))) b) a):=propext Iff.rfl
@[congr] theorem xbO{K}{l l'}(h:l=l'):Uao l K=Uao l' K:=by subst h;rfl
attribute [go_sem,go_sem ↓] Uax
def WaO(l:List AV)(K:AV->Prop):Prop:=
 match l with
 | [a]=>onA (λp=>al p<=100000000/\K (pQ (negQ (av p)))) a
 | _=>False
theorem Ua7 a K:WaO [a] K=(onA (λp=>al p<=100000000/\K (pQ (negQ (av p)))) a):=propext Iff.rfl
@[congr] theorem xbR{K}{l l'}(h:l=l'):WaO l K=WaO l' K:=by subst h;rfl
attribute [go_sem,go_sem ↓] Ua7
def Z3(l:List AV)(K:AV->Prop):Prop:=
 match l with
 | [a]=>onA (λp=>al p<=100000000/\K (pQ (av p))) a
 | _=>False
theorem zab a K:Z3 [a] K=(onA (λp=>al p<=100000000/\K (pQ (av p))) a):=propext Iff.rfl
@[congr] theorem vbB{K}{l l'}(h:l=l'):Z3 l K=Z3 l' K:=by subst h;rfl
attribute [go_sem,go_sem ↓] zab
def Qx(l:List AV)(K:AV->Prop):Prop:=
 match l with
 | [a]=>onR (λx=>rl x<=4294967296/\K (.one (.lit (.bool (decide (rv x=0)))))) a
 | _=>False
theorem vaE a K:Qx [a] K=(onR (λx=>rl x<=4294967296/\K (.one (.lit (.bool (decide (rv x=0)))))) a):=propext Iff.rfl
@[congr] theorem WbL{K}{l l'}(h:l=l'):Qx l K=Qx l' K:=by subst h;rfl
attribute [go_sem,go_sem ↓] vaE
theorem uaF:Good Qx:=Wa λas=>by
 unfold Qx;split
 .exact(Yn λ_=>(.and λ_=>(.ret _)))
 .exact .of λK hk=>hk.elim
def jr(l:List AV)(K:AV->Prop):Prop:=
 match l with
 | [a,b]=>onR (λx=>onR (λy=>rl x<=1073741824/\rl y<=1073741824/\K (rQ (rv x / rv y))) b) a
 | _=>False
theorem uaq a b K:jr [a,b] K=(onR (λx=>onR (λy=>rl x<=1073741824/\rl y<=1073741824/\K (rQ (rv x / rv y))) b) a):=propext Iff.rfl
@[congr] theorem zbP{K}{l l'}(h:l=l'):jr l K=jr l' K:=by subst h;rfl
attribute [go_sem,go_sem ↓] uaq
theorem WV:Good jr:=Wa λas=>by
 unfold jr;split
 .exact(Yn λ_=>(Yn λ_=>(.and λ_=>(.and λ_=>(.ret _)))))
 .exact .of λK hk=>hk.elim
def wl(tE:Nat)(l:List AV)(K:AV->Prop):Prop:=
 match l with
 | [a]=>onT (λt=>rl t.1<=100000000/\K (errV tE (tchk t))) a
 | _=>False
theorem Zac tE a K:wl tE [a] K=(onT (λt=>rl t.1<=100000000/\K (errV tE (tchk t))) a):=propext Iff.rfl
@[congr] theorem QbH tE{K}{l l'}(h:l=l'):wl tE l K=wl tE l' K:=by subst h;rfl
attribute [go_sem,go_sem ↓] Zac
theorem qai(tE:Nat):Good (wl tE):=Wa λas=>by
 unfold wl;split
 .exact(wac λ_=>(.and λ_=>(.ret _)))
 .exact .of λK hk=>hk.elim
def Zt(l:List AV)(K:AV->Prop):Prop:=
 match l with
 | [a]=>onT (λt=>rl t.1<=100000000/\K (.one (.lit (.bool (decide (tchk t=0)))))) a
 | _=>False
theorem J6 a K:Zt [a] K=(onT (λt=>rl t.1<=100000000/\K (.one (.lit (.bool (decide (tchk t=0)))))) a):=propext Iff.rfl
@[congr] theorem qbz{K}{l l'}(h:l=l'):Zt l K=Zt l' K:=by subst h;rfl
attribute [go_sem,go_sem ↓] J6
theorem zam:Good Zt:=Wa λas=>by
 unfold Zt;split
 .exact(wac λ_=>(.and λ_=>(.ret _)))
 .exact .of λK hk=>hk.elim
def zw(l:List AV)(K:AV->Prop):Prop:=
 match l with
 | [a]=>onPo (λp=>pl p<=100000000/\K (.one (.lit (.bool (pvld p))))) a
 | _=>False
theorem Ja9 a K:zw [a] K=(onPo (λp=>pl p<=100000000/\K (.one (.lit (.bool (pvld p))))) a):=propext Iff.rfl
@[congr] theorem QbX{K}{l l'}(h:l=l'):zw l K=zw l' K:=by subst h;rfl
attribute [go_sem,go_sem ↓] Ja9
theorem wae:Good zw:=Wa λas=>by
 unfold zw;split
 .exact(QaA λ_=>(.and λ_=>(.ret _)))
 .exact .of λK hk=>hk.elim
def Ua1(l:List AV)(K:AV->Prop):Prop:=
 match l with
 | [a]=>onT (λt=>rl t.1<=100000000/\K (tQ (backQ (tv t)))) a
 | _=>False
theorem VaT a K:Ua1 [a] K=(onT (λt=>rl t.1<=100000000/\K (tQ (backQ (tv t)))) a):=propext Iff.rfl
@[congr] theorem zbW{K}{l l'}(h:l=l'):Ua1 l K=Ua1 l' K:=by subst h;rfl
attribute [go_sem,go_sem ↓] VaT
def uy(l:List AV)(K:AV->Prop):Prop:=
 match l with
 | [a]=>onT (λt=>rl t.1<=10000000/\K (.tup [rQ (cosQ (tv t)),rQ (sinQ (tv t))])) a
 | _=>False
theorem ka6 a K:uy [a] K=(onT (λt=>rl t.1<=10000000/\K (.tup [rQ (cosQ (tv t)),rQ (sinQ (tv t))])) a):=propext Iff.rfl
@[congr] theorem jbX{K}{l l'}(h:l=l'):uy l K=uy l' K:=by subst h;rfl
attribute [go_sem,go_sem ↓] ka6
theorem ZaO:Good uy:=Wa λas=>by
 unfold uy;split
 .exact(wac λ_=>(.and λ_=>(.ret _)))
 .exact .of λK hk=>hk.elim
def jz(l:List AV)(K:AV->Prop):Prop:=
 match l with
 | [a,b]=>onA (λp=>onA (λq=>al p<=4294967296/\K (.one (.lit (.bool (decide (p=q)))))) b) a
 | _=>False
theorem qas a b K:jz [a,b] K=(onA (λp=>onA (λq=>al p<=4294967296/\K (.one (.lit (.bool (decide (p=q)))))) b) a):=propext Iff.rfl
@[congr] theorem ZbM{K}{l l'}(h:l=l'):jz l K=jz l' K:=by subst h;rfl
attribute [go_sem,go_sem ↓] qas
theorem JaH:Good jz:=Wa λas=>by
 unfold jz;split
 .exact(Xv λ_=>(Xv λ_=>(.and λ_=>(.ret _))))
 .exact .of λK hk=>hk.elim
def YD(f0:Nat):AC:=(.seq (.ops false [.u 2 (.box 6 (.t 0)),.u 3 (.box 6 (.t 1)),.u 4 (.alloc [(.lit (.bool false)),.emp,.emp,(.lit (.bool false)),.emp,.emp])])
 (.fg [2,3,4] (.seq (.ops true [.u 5 (.fa 0 (.t 2)),.u 6 (.ld none 3 true (.t 5)),.u 7 (.fa 0 (.t 3)),.u 8 (.ld none 3 true (.t 7)),.u 9 (.call f0 [(.t 6),(.t 8)]),.u 10 (.fa 3 (.t 2)),.u 11 (.ld none 3 true (.t 10)),.u 12 (.fa 3 (.t 3)),.u 13 (.ld none 3 true (.t 12)),.u 14 (.call f0 [(.t 11),(.t 13)]),.u 15 (.build [.x 3 (.t 9),.x 3 (.t 14)]),.n (.st none 6 (.t 4) (.t 15))])
 .ret)))
def Qi(f0 f1:Nat):AC:=(.seq (.ops false [.u 1 (.box 6 (.t 0)),.u 2 (.alloc [(.lit (.bool false)),.emp,.emp])])
 (.fg [1,2] (.seq (.ops true [.u 3 (.fa 0 (.t 1)),.u 4 (.ld none 3 true (.t 3)),.u 5 (.fa 0 (.t 1)),.u 6 (.ld none 3 true (.t 5)),.u 7 (.call f0 [(.t 4),(.t 6)]),.u 8 (.fa 3 (.t 1)),.u 9 (.ld none 3 true (.t 8)),.u 10 (.fa 3 (.t 1)),.u 11 (.ld none 3 true (.t 10)),.u 12 (.call f0 [(.t 9),(.t 11)]),.u 13 (.call f1 [(.t 7),(.t 12)]),.n (.st none 3 (.t 2) (.t 13))])
 .ret)))
def qj(f0:Nat):AC:=(.seq (.ops false [.u 1 (.box 3 (.t 0)),.m 2 .fa])
 (.fg [1] (.seq (.ops false [.u 3 (.ld none 3 true (.t 1)),.u 4 (.call f0 [(.t 3)]),.u 5 (.bin .eql (.t 4) (.i 0)),.m 2 (.t 5)])
 .ret)))
def yw(f0:Nat):AC:=(.seq (.ops false [.u 2 (.box 3 (.t 0)),.u 3 (.box 3 (.t 1)),.u 4 (.alloc [(.lit (.bool false)),.emp,.emp])])
 (.fg [2,3,4] (.seq (.ops false [.u 8 (.ld none 3 true (.t 2)),.u 9 (.ld none 3 true (.t 3)),.u 10 (.call f0 [(.t 8),(.t 9)]),.m 7 (.t 10),.u 11 (.ext 0 (.t 7)),.u 12 (.ext 1 (.t 7)),.u 5 (.alloc [(.lit (.bool false)),.emp,.emp]),.n (.st none 3 (.t 5) (.t 11)),.m 6 (.t 12)])
 (.fg [4,5,6] (.seq (.seq (.ops false [.m 13 (.t 6),.u 14 (.binn .neq (.t 13) (.c (.one (.lit .nilIface))))])
 (.fg [4,5,14] (.cond (.t 14) (.seq (.ops false [.u 15 (.build [.z [(.lit (.bool false)),.emp,.emp]]),.n (.st none 3 (.t 4) (.t 15))])
 .ret) .skip)))
 (.fg [4,5] (.seq (.ops false [.u 16 (.ld none 3 true (.t 5)),.n (.st none 3 (.t 4) (.t 16))])
 .ret)))))))
def Vi(f0:Nat):AC:=(.seq (.ops false [.u 2 (.box 3 (.t 0)),.u 3 (.box 3 (.t 1)),.u 4 (.alloc [(.lit (.bool false)),.emp,.emp])])
 (.fg [2,3,4] (.seq (.ops false [.u 8 (.ld none 3 true (.t 2)),.u 9 (.ld none 3 true (.t 3)),.u 10 (.call f0 [(.t 8),(.t 9)]),.m 7 (.t 10),.u 11 (.ext 0 (.t 7)),.u 12 (.ext 1 (.t 7)),.u 5 (.alloc [(.lit (.bool false)),.emp,.emp]),.n (.st none 3 (.t 5) (.t 11)),.m 6 (.t 12)])
 (.fg [4,5] (.seq (.ops false [.u 13 (.ld none 3 true (.t 5)),.n (.st none 3 (.t 4) (.t 13))])
 .ret)))))
def Zk(f0 f1 tE:Nat):AC:=(.seq (.ops false [.u 1 (.box 4 (.t 0)),.m 2 (.c (.one (.lit .nilIface)))])
 (.fg [1] (.seq (.seq (.ops false [.u 3 (.fa 0 (.t 1)),.u 4 (.ld none 3 true (.t 3)),.u 5 (.call f0 [(.t 4)]),.u 6 (.un .not (.t 5)),.m 7 (.t 6),.w 8 7 false (.fa 3 (.t 1)),.w 9 7 false (.ld none 1 false (.t 8)),.w 10 7 false (.mv (.t 9)),.w 11 10 true (.fa 0 (.t 1)),.w 12 10 true (.ld none 3 true (.t 11)),.w 13 10 true (.call f1 [(.t 12)]),.w 14 10 true (.bin .neq (.t 13) (.i 0)),.w 15 7 false (.pick (.t 10) (.t 14) .fa),.u 16 (.pick (.t 7) .tr (.t 15))])
 (.fg [16] (.cond (.t 16) (.seq (.ops false [.u 17 (.iface tE (.i 2)),.m 2 (.t 17)])
 .ret) .skip)))
 (.fg [] (.seq (.ops false [.m 2 (.c (.one (.lit .nilIface)))])
 .ret)))))
def uc(f0 f1:Nat):AC:=(.seq (.ops false [.u 1 (.box 4 (.t 0)),.m 2 .fa])
 (.fg [1] (.seq (.ops false [.u 3 (.fa 0 (.t 1)),.u 4 (.ld none 3 true (.t 3)),.u 5 (.call f0 [(.t 4)]),.m 6 (.t 5),.w 7 6 true (.fa 3 (.t 1)),.w 8 6 true (.ld none 1 false (.t 7)),.w 9 6 true (.un .not (.t 8)),.w 10 6 true (.mv (.t 9)),.w 11 10 false (.fa 0 (.t 1)),.w 12 10 false (.ld none 3 true (.t 11)),.w 13 10 false (.call f1 [(.t 12)]),.w 14 6 true (.pick (.t 10) .tr (.t 13)),.u 15 (.pick (.t 6) (.t 14) .fa),.m 2 (.t 15)])
 .ret)))
def Xt(f0 f1:Nat):AC:=(.seq (.ops false [.u 1 (.box 10 (.t 0)),.m 2 .fa])
 (.fg [1] (.seq (.ops false [.u 3 (.fa 0 (.t 1)),.u 4 (.ld none 4 true (.t 3)),.u 5 (.call f0 [(.t 4)]),.u 6 (.binn .eql (.t 5) (.c (.one (.lit .nilIface)))),.m 7 (.t 6),.w 8 7 true (.fa 4 (.t 1)),.w 9 7 true (.ld none 6 true (.t 8)),.w 10 7 true (.call f1 [(.t 9)]),.u 11 (.pick (.t 7) (.t 10) .fa),.m 2 (.t 11)])
 .ret)))
def ve(f0 f1:Nat):AC:=(.seq (.ops false [.u 1 (.box 10 (.t 0)),.m 2 .fa])
 (.fg [1] (.seq (.ops false [.u 3 (.fa 0 (.t 1)),.u 4 (.ld none 4 true (.t 3)),.u 5 (.call f0 [(.t 4)]),.m 6 (.t 5),.w 7 6 true (.fa 4 (.t 1)),.w 8 6 true (.ld none 6 true (.t 7)),.w 9 6 true (.call f1 [(.t 8)]),.u 10 (.pick (.t 6) (.t 9) .fa),.m 2 (.t 10)])
 .ret)))
def Yf(f0 f1 f2 f3 f4:Nat):AC:=(.seq (.ops false [.u 1 (.box 4 (.t 0)),.u 2 (.alloc [(.lit (.bool false)),.emp,.emp]),.u 3 (.alloc [(.lit (.bool false)),.emp,.emp])])
 (.fg [1,2,3] (.seq (.seq (.ops false [.u 7 (.fa 3 (.t 1)),.u 8 (.ld none 1 false (.t 7))])
 (.fg [1,2,3,8] (.cond (.t 8) (.seq (.ops false [.u 9 (.call f0 [(.i (-1))]),.u 10 (.build [.z [(.lit (.bool false)),.emp,.emp]]),.n (.st none 3 (.t 2) (.t 9)),.n (.st none 3 (.t 3) (.t 10))])
 .ret) .skip)))
 (.fg [1,2,3] (.seq (.ops true [.u 11 (.call f0 [(.i 1)]),.u 12 (.fa 0 (.t 1)),.u 13 (.ld none 3 true (.t 12)),.u 14 (.fa 0 (.t 1)),.u 15 (.ld none 3 true (.t 14)),.u 16 (.call f1 [(.t 13),(.t 15)]),.u 4 (.alloc [(.lit (.bool false)),.emp,.emp]),.u 5 (.alloc [(.lit (.bool false)),.emp,.emp]),.n (.st none 3 (.t 4) (.t 11)),.n (.st none 3 (.t 5) (.t 16))])
 (.fg [1,2,3,4,5] (.seq (.ops false [.u 17 (.ld none 3 true (.t 4)),.u 18 (.ld none 3 true (.t 5)),.u 19 (.call f2 [(.t 17),(.t 18)]),.u 6 (.alloc [(.lit (.bool false)),.emp,.emp]),.n (.st none 3 (.t 6) (.t 19))])
 (.fg [1,2,3,4,5,6] (.seq (.ops true [.u 20 (.ld none 3 true (.t 4)),.u 21 (.ld none 3 true (.t 5)),.u 22 (.call f3 [(.t 20),(.t 21)]),.u 23 (.ld none 3 true (.t 6)),.u 24 (.call f4 [(.t 22),(.t 23)]),.u 25 (.fa 0 (.t 1)),.u 26 (.ld none 3 true (.t 25)),.u 27 (.fa 0 (.t 1)),.u 28 (.ld none 3 true (.t 27)),.u 29 (.call f2 [(.t 26),(.t 28)]),.u 30 (.ld none 3 true (.t 6)),.u 31 (.call f4 [(.t 29),(.t 30)]),.n (.st none 3 (.t 2) (.t 24)),.n (.st none 3 (.t 3) (.t 31))])
 .ret)))))))))
def zf(f0:Nat):AC:=(.seq (.ops false [.u 2 (.box 6 (.t 0)),.u 3 (.box 6 (.t 1)),.m 4 .fa])
 (.fg [2,3] (.seq (.ops false [.u 5 (.fa 0 (.t 2)),.u 6 (.ld none 3 true (.t 5)),.u 7 (.fa 0 (.t 3)),.u 8 (.ld none 3 true (.t 7)),.u 9 (.call f0 [(.t 6),(.t 8)]),.m 10 (.t 9),.w 11 10 true (.fa 3 (.t 2)),.w 12 10 true (.ld none 3 true (.t 11)),.w 13 10 true (.fa 3 (.t 3)),.w 14 10 true (.ld none 3 true (.t 13)),.w 15 10 true (.call f0 [(.t 12),(.t 14)]),.u 16 (.pick (.t 10) (.t 15) .fa),.m 4 (.t 16)])
 .ret)))
theorem Zb{α β:Type}(p:α×β):(p.1,p.2)=p:=rfl
theorem al1{p:Arc}{b:Nat}(h:al p<=b):rl p.1<=b/\rl p.2<=b:=⟨Nat.le_trans (Nat.le_max_left _ _) h,Nat.le_trans (Nat.le_max_right _ _) h⟩
theorem qan(hΓ:Holds P Γ){f fs:Nat}(hs:Γ fs=.dat false yi)(hc:check P f=some (16,(YD fs).strip,[.cell 4 6 true])):Sound P f (.dat false Qo):=by
 refine ka hc jU hΓ (λargs K hcl hfi hG=>?_);match args,hG with
 | [a,b],hG=>
  obtain⟨p,rfl,hp,q,rfl,hq,hl,hl',hK⟩:=hG;refine⟨by simp,?_⟩
  obtain⟨l1,l2⟩:=al1 hl;obtain⟨l3,l4⟩:=al1 hl';simp only [go_sem,YD,hs,kb,hp.1,hp.2,hq.1,hq.2];exact⟨by omega,by omega,by omega,by omega,hK⟩
theorem J9(hΓ:Holds P Γ){f fm fs:Nat}(hm:Γ fm=.dat false vi)(hs:Γ fs=.dat false yi)(hc:check P f=some (14,(Qi fm fs).strip,[.cell 2 3 true])):Sound P f (.dat false qI):=by
 refine ka hc Jbc hΓ (λargs K hcl hfi hG=>?_);match args,hG with
 | [a],hG=>
  obtain⟨p,rfl,hp,hl,hK⟩:=hG;refine⟨by simp,?_⟩
  obtain⟨l1,l2⟩:=al1 hl;have r1:=ug hp.1;have r2:=ug hp.2;have m1:=Xb (rv p.1) (rv p.1);have m2:=Xb (rv p.2) (rv p.2);simp only [go_sem,Qi,hm,hs,kb,hp.1,hp.2];exact⟨by omega,by omega,by omega,by omega,by omega,by omega,hK⟩
theorem kan(hΓ:Holds P Γ){f fs:Nat}(hs:Γ fs=.dat true Yh)(hc:check P f=some (6,(qj fs).strip,[.tmp 2])):Sound P f (.dat true Qx):=by
 refine ka hc uaF hΓ (λargs K hcl hfi hG=>?_);match args,hG with
 | [a],hG=>
  obtain⟨x,rfl,hx,hl,hK⟩:=hG;refine⟨by simp,?_⟩
  have e:decide (rv x=0)=decide (ordQ (rv x) 0=0):=by rw [decide_eq_decide,js]
  rw [e]at hK;simp only [go_sem,qj,hs,hx];exact⟨hl,hK⟩
theorem Yai(hΓ:Holds P Γ){f fd tE:Nat}(hd:Γ fd=.dat false (jx tE))(hc:check P f=some (17,(yw fd).strip,[.cell 4 3 true])):Sound P f (.dat false jr):=by
 refine ka hc WV hΓ (λargs K hcl hfi hG=>?_);match args,hG with
 | [a,b],hG=>
  obtain⟨x,rfl,hx,y,rfl,hy,hl,hl',hK⟩:=hG;refine⟨by simp,?_⟩
  by_cases h0:rv y=0
  .rw [h0,Rat.div_def,Rat.inv_zero,Rat.mul_zero,V3,Jc]at hK;have e:errV tE 8=.one (.lit (.iface tE (.int .i64 8))):=Wc tE (by decide)
   simp only [go_sem,yw,hd,hx,hy,h0,e];exact⟨by omega,by omega,hK⟩
  .simp only [go_sem,yw,hd,hx,hy,h0,Zc];exact⟨by omega,by omega,hK⟩
theorem X6(hΓ:Holds P Γ){f fd:Nat}(hd:Γ fd=.dat false JB)(hc:check P f=some (14,(Vi fd).strip,[.cell 4 3 true])):Sound P f (.dat false jr):=by
 refine ka hc WV hΓ (λargs K hcl hfi hG=>?_);match args,hG with
 | [a,b],hG=>
  obtain⟨x,rfl,hx,y,rfl,hy,hl,hl',hK⟩:=hG;refine⟨by simp,?_⟩
  simp only [go_sem,Vi,hd,hx,hy];exact⟨hl,hl',hK⟩
theorem Vbk(t:Tn):tchk t=if vldR t.1=true/\¬(t.2=true/\rv t.1≠0) then 0 else 2:=rfl
theorem wab(hΓ:Holds P Γ){f fv fs tE:Nat}(hv:Γ fv=.dat true wd)(hs:Γ fs=.dat true Yh)(hc:check P f=some (18,(Zk fv fs tE).strip,[.tmp 2])):Sound P f (.dat false (wl tE)):=by
 refine ka hc (qai tE) hΓ (λargs K hcl hfi hG=>?_);match args,hG with
 | [a],hG=>
  obtain⟨t,rfl,ht,hl,hK⟩:=hG;refine⟨by simp,?_⟩
  rw [Vbk]at hK;have e2:errV tE 2=.one (.lit (.iface tE (.int .i64 2))):=Wc tE (by decide)
  cases h1:vldR t.1 with
  | false=>
   rw [if_neg (λh=>by rw [h1]at h;exact absurd h.1 (by decide)),e2]at hK
   simp only [go_sem,Zk,hv,hs,tA,tC,ht,h1];exact⟨by omega,hK⟩
  | true=>
   cases h2:t.2 with
   | false=>
    rw [if_pos ⟨h1,λh=>by rw [h2]at h;exact absurd h.1 (by decide)⟩,Zc]at hK
    simp only [go_sem,Zk,hv,hs,tA,tC,ht,h1,h2];exact⟨by omega,hK⟩
   | true=>
    by_cases h3:ordQ (rv t.1) 0=0
    .rw [if_pos ⟨h1,λh=>h.2 (js.1 h3)⟩,Zc]at hK;simp only [go_sem,Zk,hv,hs,tA,tC,ht,h1,h2,h3];exact⟨by omega,by omega,hK⟩
    .rw [if_neg (λh=>h.2 ⟨h2,λe=>h3 (js.2 e)⟩),e2]at hK;simp only [go_sem,Zk,hv,hs,tA,tC,ht,h1,h2,h3];exact⟨by omega,by omega,hK⟩
theorem Z4(hΓ:Holds P Γ){f fv fz:Nat}(hv:Γ fv=.dat true wd)(hz:Γ fz=.dat true Qx)(hc:check P f=some (16,(uc fv fz).strip,[.tmp 2])):Sound P f (.dat true Zt):=by
 refine ka hc zam hΓ (λargs K hcl hfi hG=>?_);match args,hG with
 | [a],hG=>
  obtain⟨t,rfl,ht,hl,hK⟩:=hG;refine⟨by simp,?_⟩
  rw [Vbk]at hK;cases h1:vldR t.1 with
  | false=>
   rw [if_neg (λh=>by rw [h1]at h;exact absurd h.1 (by decide))]at hK
   simp only [go_sem,uc,hv,hz,tA,tC,ht,h1];exact⟨by omega,hK⟩
  | true=>
   cases h2:t.2 with
   | false=>
    rw [if_pos ⟨h1,λh=>by rw [h2]at h;exact absurd h.1 (by decide)⟩]at hK
    simp only [go_sem,uc,hv,hz,tA,tC,ht,h1,h2];exact⟨by omega,hK⟩
   | true=>
    by_cases h3:rv t.1=0
    .rw [if_pos ⟨h1,λh=>h.2 h3⟩]at hK;simp only [go_sem,uc,hv,hz,tA,tC,ht,h1,h2,h3];exact⟨by omega,by omega,hK⟩
    .rw [if_neg (λh=>h.2 ⟨h2,h3⟩)]at hK;simp only [go_sem,uc,hv,hz,tA,tC,ht,h1,h2,h3];exact⟨by omega,by omega,hK⟩
theorem pl1{p:Ps}{b:Nat}(h:pl p<=b):rl p.1.1<=b/\al p.2<=b:=⟨Nat.le_trans (Nat.le_max_left _ _) h,Nat.le_trans (Nat.le_max_right _ _) h⟩
theorem zM(t:Tn):tchk t=0∨tchk t=2:=by unfold tchk;split <;> simp
theorem zaG(hΓ:Holds P Γ){f ft fp:Nat}{tE:Nat}(ht:Γ ft=.dat false (wl tE))(hp' : Γ fp=.dat true ke)(hc:check P f=some (12,(Xt ft fp).strip,[.tmp 2])):Sound P f (.dat true zw):=by
 refine ka hc wae hΓ (λargs K hcl hfi hG=>?_);match args,hG with
 | [a],hG=>
  obtain⟨p,rfl,hp,hl,hK⟩:=hG;refine⟨by simp,?_⟩
  obtain⟨l1,l2⟩:=pl1 hl;unfold pvld at hK;rcases zM p.1 with h | h
  .rw [h]at hK;simp only [go_sem,Xt,ht,hp',poA,pC,Zb,h,Zc,hp.1,hp.2];exact⟨l1,l2,hK⟩
  .have e2:errV tE 2=.one (.lit (.iface tE (.int .i64 2))):=Wc tE (by decide)
   rw [h]at hK;simp only [go_sem,Xt,ht,hp',poA,pC,Zb,h,e2,hp.1,hp.2];exact⟨l1,hK⟩
theorem kaj(hΓ:Holds P Γ){f ft fp:Nat}(ht:Γ ft=.dat true Zt)(hp' : Γ fp=.dat true ke)(hc:check P f=some (11,(ve ft fp).strip,[.tmp 2])):Sound P f (.dat true zw):=by
 refine ka hc wae hΓ (λargs K hcl hfi hG=>?_);match args,hG with
 | [a],hG=>
  obtain⟨p,rfl,hp,hl,hK⟩:=hG;refine⟨by simp,?_⟩
  obtain⟨l1,l2⟩:=pl1 hl;unfold pvld at hK;by_cases h:tchk p.1=0
  .rw [decide_eq_true h]at hK;simp only [go_sem,ve,ht,hp',poA,pC,Zb,h,hp.1,hp.2];exact⟨l1,⟨l2,hK⟩,λh=>absurd trivial h⟩
  .rw [decide_eq_false h]at hK;simp only [go_sem,ve,ht,hp',poA,pC,Zb,h,hp.1,hp.2];exact⟨l1,hK⟩
theorem vS(hΓ:Holds P Γ){f fo fm fa fs fv:Nat}(ho:Γ fo=.dat false zC)(hm:Γ fm=.dat false vi)(ha:Γ fa=.dat false yi)(hs:Γ fs=.dat false Wq)(hov:Γ fv=.dat false jr)(hc:check P f=some (32,(Yf fo fm fa fs fv).strip,[.cell 2 3 true,.cell 3 3 true])):Sound P f (.dat false uy):=by
 refine ka hc ZaO hΓ (λargs K hcl hfi hG=>?_);match args,hG with
 | [a],hG=>
  obtain⟨t,rfl,ht,hl,hK⟩:=hG;refine⟨by simp,?_⟩
  have r1:=ug ht;have h0:=rz_1;have h1:=Xb (rv t.1) (rv t.1);have h2:=Ur 1 (rv t.1*rv t.1);have h3:=Xn 1 (rv t.1*rv t.1);have h4:=Xn (rv t.1) (rv t.1);have c1:((1:Int):Rat)=1:=rfl;have c2:((-1:Int):Rat) = -1:=rfl;unfold cosQ sinQ at hK;cases hh:t.2 with
  | true=>
   have e:(tv t).2=true:=hh;rw [if_pos e,if_pos e]at hK;simp only [go_sem,Yf,ho,hm,ha,hs,hov,tA,tC,ht,hh,c1,c2];refine⟨by decide,by decide,?_⟩
   simp only [V3,Jc]at hK;exact hK
  | false=>
   have e:¬((tv t).2=true):=by show ¬(t.2=true);rw [hh];decide
   rw [if_neg e,if_neg e]at hK;simp only [go_sem,Yf,ho,hm,ha,hs,hov,tA,tC,ht,hh,c1,c2];refine⟨by decide,by decide,by omega,by omega,by omega,by omega,by omega,by omega,by omega,by omega,by omega,by omega,by omega,by omega,hK⟩
theorem xam(hΓ:Holds P Γ){f fb:Nat}(hb:Γ fb=.dat true xG)(hc:check P f=some (17,(zf fb).strip,[.tmp 4])):Sound P f (.dat true jz):=by
 refine ka hc JaH hΓ (λargs K hcl hfi hG=>?_);match args,hG with
 | [a,b],hG=>
  obtain⟨p,rfl,hp,q,rfl,hq,hl,hK⟩:=hG;refine⟨by simp,?_⟩
  obtain⟨l1,l2⟩:=al1 hl;have e:decide (p=q)=(decide (p.1=q.1) && decide (p.2=q.2)):=by
   rw [<-Bool.decide_and,decide_eq_decide];exact Prod.ext_iff
  rw [e]at hK;by_cases h1:p.1=q.1
  .rw [decide_eq_true h1,Bool.true_and]at hK;simp only [go_sem,zf,hb,kb,hp.1,hp.2,hq.1,hq.2,h1,decide_true];exact⟨by rw [<-h1];exact l1,l2,hK⟩
  .rw [decide_eq_false h1,Bool.false_and]at hK;simp only [go_sem,zf,hb,kb,hp.1,hp.2,hq.1,hq.2,h1,decide_false];exact⟨l1,hK⟩
end Go.Abs
end
section
namespace Go.Num
open Go.Abs
def aok(p:Ps)(q:Arc):Bool:=pvld p && avld q
def plchk(l:List Ps):Nat:=if l.length<2 then 10 else if 5<l.length then 4 else if l.all pvld then 0 else 2
def threeC(l:List Ps):Nat:=if plchk l≠0 then plchk l else if l.length=3 then 0 else 10
def imgs(l:List Ps)(q:Arc):List V2:=l.map λp=>appQ (pv p) (av q)
def imgC(l:List Ps)(q:Arc):Nat:=if l.all (λp=>aok p q) then 0 else 2
end Go.Num
namespace Go.Abs
open Go.Num
variable {P:Program} {Γ:Nat->Spec}
def psQ(p:PsQ):AV:=.agg [cb (rcan p.1.1),cn (rcan p.1.1),cd (rcan p.1.1),.lit (.bool p.1.2),cb (rcan p.2.1),cn (rcan p.2.1),cd (rcan p.2.1),cb (rcan p.2.2),cn (rcan p.2.2),cd (rcan p.2.2)]
theorem Xbk(p:PsQ):psQ p=.agg [cb (rcan p.1.1),cn (rcan p.1.1),cd (rcan p.1.1),.lit (.bool p.1.2),cb (rcan p.2.1),cn (rcan p.2.1),cd (rcan p.2.1),cb (rcan p.2.2),cn (rcan p.2.2),cd (rcan p.2.2)]:=eq_of_heq (HEq.refl _)
attribute [go_sem,go_sem ↓] Xbk
def YF(tE:Nat)(l:List AV)(K:AV->Prop):Prop:=
 match l with
 | [a]=>onT (λt=>rl t.1<=10000000/\K (.tup [rQ (if tchk t=0 then cosQ (tv t) else 0),errV tE (tchk t)])) a
 | _=>False
theorem UaZ tE a K:YF tE [a] K=(onT (λt=>rl t.1<=10000000/\K (.tup [rQ (if tchk t=0 then cosQ (tv t) else 0),errV tE (tchk t)])) a):=propext Iff.rfl
@[congr] theorem ybV tE{K}{l l'}(h:l=l'):YF tE l K=YF tE l' K:=by subst h;rfl
attribute [go_sem,go_sem ↓] UaZ
theorem yaV(tE:Nat):Good (YF tE):=Wa λas=>by
 unfold YF;split
 .exact(wac λ_=>(.and λ_=>(.ret _)))
 .exact .of λK hk=>hk.elim
def XH(tE:Nat)(l:List AV)(K:AV->Prop):Prop:=
 match l with
 | [a]=>onT (λt=>rl t.1<=10000000/\K (.tup [rQ (if tchk t=0 then sinQ (tv t) else 0),errV tE (tchk t)])) a
 | _=>False
theorem ZaX tE a K:XH tE [a] K=(onT (λt=>rl t.1<=10000000/\K (.tup [rQ (if tchk t=0 then sinQ (tv t) else 0),errV tE (tchk t)])) a):=propext Iff.rfl
@[congr] theorem ubS tE{K}{l l'}(h:l=l'):XH tE l K=XH tE l' K:=by subst h;rfl
attribute [go_sem,go_sem ↓] ZaX
theorem JaM(tE:Nat):Good (XH tE):=Wa λas=>by
 unfold XH;split
 .exact(wac λ_=>(.and λ_=>(.ret _)))
 .exact .of λK hk=>hk.elim
def jD(tE:Nat)(l:List AV)(K:AV->Prop):Prop:=
 match l with
 | [a]=>onT (λt=>rl t.1<=10000000/\K (.tup [rQ (if tchk t=0 then cosQ (tv t) else 0),rQ (if tchk t=0 then sinQ (tv t) else 0),errV tE (tchk t)])) a
 | _=>False
theorem Za6 tE a K:jD tE [a] K=(onT (λt=>rl t.1<=10000000/\K (.tup [rQ (if tchk t=0 then cosQ (tv t) else 0),rQ (if tchk t=0 then sinQ (tv t) else 0),errV tE (tchk t)])) a):=propext Iff.rfl
@[congr] theorem wbZ tE{K}{l l'}(h:l=l'):jD tE l K=jD tE l' K:=by subst h;rfl
attribute [go_sem,go_sem ↓] Za6
theorem waL(tE:Nat):Good (jD tE):=Wa λas=>by
 unfold jD;split
 .exact(wac λ_=>(.and λ_=>(.ret _)))
 .exact .of λK hk=>hk.elim
def jH(tE:Nat)(l:List AV)(K:AV->Prop):Prop:=
 match l with
 | [a,b]=>onT (λt=>onA (λq=>rl t.1<=10000000/\al q<=10000000/\K (.tup [pQ (if tchk t=0 then rotQ (tv t) (av q) else (0,0)),errV tE (tchk t)])) b) a
 | _=>False
theorem vaL tE a b K:jH tE [a,b] K=(onT (λt=>onA (λq=>rl t.1<=10000000/\al q<=10000000/\K (.tup [pQ (if tchk t=0 then rotQ (tv t) (av q) else (0,0)),errV tE (tchk t)])) b) a):=propext Iff.rfl
@[congr] theorem QbS tE{K}{l l'}(h:l=l'):jH tE l K=jH tE l' K:=by subst h;rfl
attribute [go_sem,go_sem ↓] vaL
theorem xaM(tE:Nat):Good (jH tE):=Wa λas=>by
 unfold jH;split
 .exact(wac λ_=>(Xv λ_=>(.and λ_=>(.and λ_=>(.ret _)))))
 .exact .of λK hk=>hk.elim
def XF(l:List AV)(K:AV->Prop):Prop:=
 match l with
 | [a,b]=>onT (λt=>onA (λq=>rl t.1<=10000000/\al q<=10000000/\K (pQ (rotQ (tv t) (av q)))) b) a
 | _=>False
theorem ka0 a b K:XF [a,b] K=(onT (λt=>onA (λq=>rl t.1<=10000000/\al q<=10000000/\K (pQ (rotQ (tv t) (av q)))) b) a):=propext Iff.rfl
@[congr] theorem XbY{K}{l l'}(h:l=l'):XF l K=XF l' K:=by subst h;rfl
attribute [go_sem,go_sem ↓] ka0
theorem qaV:Good XF:=Wa λas=>by
 unfold XF;split
 .exact(wac λ_=>(Xv λ_=>(.and λ_=>(.and λ_=>(.ret _)))))
 .exact .of λK hk=>hk.elim
def VE(tE:Nat)(l:List AV)(K:AV->Prop):Prop:=
 match l with
 | [a,b]=>onPo (λp=>onA (λq=>pl p<=1000000/\al q<=1000000/\K (.tup [pQ (if aok p q=true then appQ (pv p) (av q) else (0,0)),errV tE (if aok p q=true then 0 else 2)])) b) a
 | _=>False
theorem JaZ tE a b K:VE tE [a,b] K=(onPo (λp=>onA (λq=>pl p<=1000000/\al q<=1000000/\K (.tup [pQ (if aok p q=true then appQ (pv p) (av q) else (0,0)),errV tE (if aok p q=true then 0 else 2)])) b) a):=propext Iff.rfl
@[congr] theorem jbQ tE{K}{l l'}(h:l=l'):VE tE l K=VE tE l' K:=by subst h;rfl
attribute [go_sem,go_sem ↓] JaZ
theorem zaM(tE:Nat):Good (VE tE):=Wa λas=>by
 unfold VE;split
 .exact(QaA λ_=>(Xv λ_=>(.and λ_=>(.and λ_=>(.ret _)))))
 .exact .of λK hk=>hk.elim
def YH(l:List AV)(K:AV->Prop):Prop:=
 match l with
 | [a,b]=>onPo (λp=>onA (λq=>pl p<=1000000/\al q<=1000000/\K (pQ (appQ (pv p) (av q)))) b) a
 | _=>False
theorem zaW a b K:YH [a,b] K=(onPo (λp=>onA (λq=>pl p<=1000000/\al q<=1000000/\K (pQ (appQ (pv p) (av q)))) b) a):=propext Iff.rfl
@[congr] theorem zbY{K}{l l'}(h:l=l'):YH l K=YH l' K:=by subst h;rfl
attribute [go_sem,go_sem ↓] zaW
theorem ya7:Good YH:=Wa λas=>by
 unfold YH;split
 .exact(QaA λ_=>(Xv λ_=>(.and λ_=>(.and λ_=>(.ret _)))))
 .exact .of λK hk=>hk.elim
def uah(tE:Nat)(l:List AV)(K:AV->Prop):Prop:=
 match l with
 | [a]=>onT (λt=>rl t.1<=10000000/\K (.tup [tQ (if tchk t=0 then backQ (tv t) else (0,false)),errV tE (tchk t)])) a
 | _=>False
theorem Jat tE a K:uah tE [a] K=(onT (λt=>rl t.1<=10000000/\K (.tup [tQ (if tchk t=0 then backQ (tv t) else (0,false)),errV tE (tchk t)])) a):=propext Iff.rfl
@[congr] theorem ybO tE{K}{l l'}(h:l=l'):uah tE l K=uah tE l' K:=by subst h;rfl
attribute [go_sem,go_sem ↓] Jat
def zaS(tE:Nat)(l:List AV)(K:AV->Prop):Prop:=
 match l with
 | [a]=>onPo (λp=>pl p<=1000000/\K (.tup [psQ (if pvld p=true then invQ (pv p) else ((0,false),(0,0))),errV tE (if pvld p=true then 0 else 2)])) a
 | _=>False
theorem uaL tE a K:zaS tE [a] K=(onPo (λp=>pl p<=1000000/\K (.tup [psQ (if pvld p=true then invQ (pv p) else ((0,false),(0,0))),errV tE (if pvld p=true then 0 else 2)])) a):=propext Iff.rfl
@[congr] theorem VbU tE{K}{l l'}(h:l=l'):zaS tE l K=zaS tE l' K:=by subst h;rfl
attribute [go_sem,go_sem ↓] uaL
def Ua0(l:List AV)(K:AV->Prop):Prop:=
 match l with
 | [a]=>onPo (λp=>pl p<=1000000/\K (psQ (invQ (pv p)))) a
 | _=>False
theorem ua4 a K:Ua0 [a] K=(onPo (λp=>pl p<=1000000/\K (psQ (invQ (pv p)))) a):=propext Iff.rfl
@[congr] theorem ZbV{K}{l l'}(h:l=l'):Ua0 l K=Ua0 l' K:=by subst h;rfl
attribute [go_sem,go_sem ↓] ua4
def Un(f0 f1:Nat):AC:=(.seq (.ops false [.u 1 (.box 4 (.t 0)),.u 2 (.alloc [(.lit (.bool false)),.emp,.emp]),.m 3 (.c (.one (.lit .nilIface)))])
 (.fg [1,2] (.seq (.seq (.ops false [.u 7 (.ld none 4 true (.t 1)),.u 8 (.call f0 [(.t 7)]),.m 4 (.t 8)])
 (.fg [1,2,4] (.seq (.ops false [.m 9 (.t 4),.u 10 (.binn .neq (.t 9) (.c (.one (.lit .nilIface))))])
 (.fg [1,2,4,10] (.cond (.t 10) (.seq (.ops false [.u 11 (.build [.z [(.lit (.bool false)),.emp,.emp]]),.m 12 (.t 4),.n (.st none 3 (.t 2) (.t 11)),.m 3 (.t 12)])
 .ret) .skip)))))
 (.fg [1,2] (.seq (.ops false [.u 14 (.ld none 4 true (.t 1)),.u 15 (.call f1 [(.t 14)]),.m 13 (.t 15),.u 16 (.ext 0 (.t 13)),.u 17 (.ext 1 (.t 13)),.u 5 (.alloc [(.lit (.bool false)),.emp,.emp]),.u 6 (.alloc [(.lit (.bool false)),.emp,.emp]),.n (.st none 3 (.t 5) (.t 16)),.n (.st none 3 (.t 6) (.t 17))])
 (.fg [2,5] (.seq (.ops false [.u 18 (.ld none 3 true (.t 5)),.n (.st none 3 (.t 2) (.t 18)),.m 3 (.c (.one (.lit .nilIface)))])
 .ret)))))))
def jo(f0 f1:Nat):AC:=(.seq (.ops false [.u 1 (.box 4 (.t 0)),.u 2 (.alloc [(.lit (.bool false)),.emp,.emp]),.m 3 (.c (.one (.lit .nilIface)))])
 (.fg [1,2] (.seq (.seq (.ops false [.u 7 (.ld none 4 true (.t 1)),.u 8 (.call f0 [(.t 7)]),.m 4 (.t 8)])
 (.fg [1,2,4] (.seq (.ops false [.m 9 (.t 4),.u 10 (.binn .neq (.t 9) (.c (.one (.lit .nilIface))))])
 (.fg [1,2,4,10] (.cond (.t 10) (.seq (.ops false [.u 11 (.build [.z [(.lit (.bool false)),.emp,.emp]]),.m 12 (.t 4),.n (.st none 3 (.t 2) (.t 11)),.m 3 (.t 12)])
 .ret) .skip)))))
 (.fg [1,2] (.seq (.ops false [.u 14 (.ld none 4 true (.t 1)),.u 15 (.call f1 [(.t 14)]),.m 13 (.t 15),.u 16 (.ext 0 (.t 13)),.u 17 (.ext 1 (.t 13)),.u 5 (.alloc [(.lit (.bool false)),.emp,.emp]),.u 6 (.alloc [(.lit (.bool false)),.emp,.emp]),.n (.st none 3 (.t 5) (.t 16)),.n (.st none 3 (.t 6) (.t 17))])
 (.fg [2,6] (.seq (.ops false [.u 18 (.ld none 3 true (.t 6)),.n (.st none 3 (.t 2) (.t 18)),.m 3 (.c (.one (.lit .nilIface)))])
 .ret)))))))
def xj(f0 f1 f2 tE:Nat):AC:=(.seq (.ops false [.u 1 (.box 4 (.t 0)),.u 2 (.alloc [(.lit (.bool false)),.emp,.emp]),.u 3 (.alloc [(.lit (.bool false)),.emp,.emp]),.m 4 (.c (.one (.lit .nilIface)))])
 (.fg [1,2,3] (.seq (.seq (.ops false [.u 5 (.ld none 4 true (.t 1)),.u 6 (.call f0 [(.t 5)]),.u 7 (.binn .neq (.t 6) (.c (.one (.lit .nilIface))))])
 (.fg [1,2,3,7] (.cond (.t 7) (.seq (.ops false [.u 8 (.build [.z [(.lit (.bool false)),.emp,.emp]]),.u 9 (.build [.z [(.lit (.bool false)),.emp,.emp]]),.u 10 (.iface tE (.i 2)),.n (.st none 3 (.t 2) (.t 8)),.n (.st none 3 (.t 3) (.t 9)),.m 4 (.t 10)])
 .ret) .skip)))
 (.fg [1,2,3] (.seq (.seq (.ops false [.u 12 (.ld none 4 true (.t 1)),.u 13 (.call f1 [(.t 12)]),.m 11 (.t 13),.u 14 (.ext 0 (.t 11)),.u 15 (.ext 1 (.t 11)),.n (.st none 3 (.t 2) (.t 14)),.m 4 (.t 15)])
 (.fg [1,2,3,4] (.seq (.ops false [.m 16 (.t 4),.u 17 (.binn .neq (.t 16) (.c (.one (.lit .nilIface))))])
 (.fg [1,2,3,4,17] (.cond (.t 17) (.seq (.ops false [.u 18 (.build [.z [(.lit (.bool false)),.emp,.emp]]),.u 19 (.build [.z [(.lit (.bool false)),.emp,.emp]]),.m 20 (.t 4),.n (.st none 3 (.t 2) (.t 18)),.n (.st none 3 (.t 3) (.t 19)),.m 4 (.t 20)])
 .ret) .skip)))))
 (.fg [1,2,3] (.seq (.ops false [.u 22 (.ld none 4 true (.t 1)),.u 23 (.call f2 [(.t 22)]),.m 21 (.t 23),.u 24 (.ext 0 (.t 21)),.u 25 (.ext 1 (.t 21)),.n (.st none 3 (.t 3) (.t 24)),.m 4 (.t 25)])
 (.fg [2,3,4] (.seq (.ops true [.u 26 (.ld (some 2) 3 true (.t 2)),.u 27 (.ld (some 3) 3 true (.t 3)),.m 28 (.t 4),.n (.st (some 2) 3 (.t 2) (.t 26)),.n (.st (some 3) 3 (.t 3) (.t 27)),.m 4 (.t 28)])
 .ret)))))))))
def Wp(f0 f1 f2 f3:Nat):AC:=(.seq (.ops false [.u 2 (.box 4 (.t 0)),.u 3 (.box 6 (.t 1)),.u 4 (.alloc [(.lit (.bool false)),.emp,.emp,(.lit (.bool false)),.emp,.emp]),.m 5 (.c (.one (.lit .nilIface)))])
 (.fg [2,3,4] (.seq (.ops false [.u 10 (.ld none 4 true (.t 2)),.u 11 (.call f0 [(.t 10)]),.m 9 (.t 11),.u 12 (.ext 0 (.t 9)),.u 13 (.ext 1 (.t 9)),.u 14 (.ext 2 (.t 9)),.u 6 (.alloc [(.lit (.bool false)),.emp,.emp]),.u 7 (.alloc [(.lit (.bool false)),.emp,.emp]),.n (.st none 3 (.t 6) (.t 12)),.n (.st none 3 (.t 7) (.t 13)),.m 8 (.t 14)])
 (.fg [3,4,6,7,8] (.seq (.seq (.ops false [.m 15 (.t 8),.u 16 (.binn .neq (.t 15) (.c (.one (.lit .nilIface))))])
 (.fg [3,4,6,7,8,16] (.cond (.t 16) (.seq (.ops false [.u 17 (.build [.z [(.lit (.bool false)),.emp,.emp,(.lit (.bool false)),.emp,.emp]]),.m 18 (.t 8),.n (.st none 6 (.t 4) (.t 17)),.m 5 (.t 18)])
 .ret) .skip)))
 (.fg [3,4,6,7] (.seq (.ops true [.u 19 (.ld none 3 true (.t 6)),.u 20 (.fa 0 (.t 3)),.u 21 (.ld none 3 true (.t 20)),.u 22 (.call f1 [(.t 19),(.t 21)]),.u 23 (.ld none 3 true (.t 7)),.u 24 (.fa 3 (.t 3)),.u 25 (.ld none 3 true (.t 24)),.u 26 (.call f1 [(.t 23),(.t 25)]),.u 27 (.call f2 [(.t 22),(.t 26)]),.u 28 (.ld none 3 true (.t 7)),.u 29 (.fa 0 (.t 3)),.u 30 (.ld none 3 true (.t 29)),.u 31 (.call f1 [(.t 28),(.t 30)]),.u 32 (.ld none 3 true (.t 6)),.u 33 (.fa 3 (.t 3)),.u 34 (.ld none 3 true (.t 33)),.u 35 (.call f1 [(.t 32),(.t 34)]),.u 36 (.call f3 [(.t 31),(.t 35)]),.u 37 (.build [.x 3 (.t 27),.x 3 (.t 36)]),.n (.st none 6 (.t 4) (.t 37)),.m 5 (.c (.one (.lit .nilIface)))])
 .ret)))))))
def yg(f0 f1 f2 f3:Nat):AC:=(.seq (.ops false [.u 2 (.box 4 (.t 0)),.u 3 (.box 6 (.t 1)),.u 4 (.alloc [(.lit (.bool false)),.emp,.emp,(.lit (.bool false)),.emp,.emp])])
 (.fg [2,3,4] (.seq (.ops false [.u 8 (.ld none 4 true (.t 2)),.u 9 (.call f0 [(.t 8)]),.m 7 (.t 9),.u 10 (.ext 0 (.t 7)),.u 11 (.ext 1 (.t 7)),.u 5 (.alloc [(.lit (.bool false)),.emp,.emp]),.u 6 (.alloc [(.lit (.bool false)),.emp,.emp]),.n (.st none 3 (.t 5) (.t 10)),.n (.st none 3 (.t 6) (.t 11))])
 (.fg [3,4,5,6] (.seq (.ops true [.u 12 (.ld none 3 true (.t 5)),.u 13 (.fa 0 (.t 3)),.u 14 (.ld none 3 true (.t 13)),.u 15 (.call f1 [(.t 12),(.t 14)]),.u 16 (.ld none 3 true (.t 6)),.u 17 (.fa 3 (.t 3)),.u 18 (.ld none 3 true (.t 17)),.u 19 (.call f1 [(.t 16),(.t 18)]),.u 20 (.call f2 [(.t 15),(.t 19)]),.u 21 (.ld none 3 true (.t 6)),.u 22 (.fa 0 (.t 3)),.u 23 (.ld none 3 true (.t 22)),.u 24 (.call f1 [(.t 21),(.t 23)]),.u 25 (.ld none 3 true (.t 5)),.u 26 (.fa 3 (.t 3)),.u 27 (.ld none 3 true (.t 26)),.u 28 (.call f1 [(.t 25),(.t 27)]),.u 29 (.call f3 [(.t 24),(.t 28)]),.u 30 (.build [.x 3 (.t 20),.x 3 (.t 29)]),.n (.st none 6 (.t 4) (.t 30))])
 .ret)))))
def Wn(f0 f1 f2 f3 tE:Nat):AC:=(.seq (.ops false [.u 2 (.box 10 (.t 0)),.u 3 (.box 6 (.t 1)),.u 4 (.alloc [(.lit (.bool false)),.emp,.emp,(.lit (.bool false)),.emp,.emp]),.m 5 (.c (.one (.lit .nilIface)))])
 (.fg [2,3,4] (.seq (.seq (.ops false [.u 8 (.ld none 10 true (.t 2)),.u 9 (.call f0 [(.t 8)]),.u 10 (.un .not (.t 9)),.m 11 (.t 10),.w 12 11 false (.ld none 6 true (.t 3)),.w 13 11 false (.call f1 [(.t 12)]),.w 14 11 false (.un .not (.t 13)),.u 15 (.pick (.t 11) .tr (.t 14))])
 (.fg [2,3,4,15] (.cond (.t 15) (.seq (.ops false [.u 16 (.build [.z [(.lit (.bool false)),.emp,.emp,(.lit (.bool false)),.emp,.emp]]),.u 17 (.iface tE (.i 2)),.n (.st none 6 (.t 4) (.t 16)),.m 5 (.t 17)])
 .ret) .skip)))
 (.fg [2,3,4] (.seq (.ops false [.u 19 (.fa 0 (.t 2)),.u 20 (.ld none 4 true (.t 19)),.u 21 (.ld none 6 true (.t 3)),.u 22 (.call f2 [(.t 20),(.t 21)]),.m 18 (.t 22),.u 23 (.ext 0 (.t 18)),.u 24 (.ext 1 (.t 18)),.u 6 (.alloc [(.lit (.bool false)),.emp,.emp,(.lit (.bool false)),.emp,.emp]),.n (.st none 6 (.t 6) (.t 23)),.m 7 (.t 24)])
 (.fg [2,4,6,7] (.seq (.seq (.ops false [.m 25 (.t 7),.u 26 (.binn .neq (.t 25) (.c (.one (.lit .nilIface))))])
 (.fg [2,4,6,7,26] (.cond (.t 26) (.seq (.ops false [.u 27 (.build [.z [(.lit (.bool false)),.emp,.emp,(.lit (.bool false)),.emp,.emp]]),.m 28 (.t 7),.n (.st none 6 (.t 4) (.t 27)),.m 5 (.t 28)])
 .ret) .skip)))
 (.fg [2,4,6] (.seq (.ops false [.u 29 (.ld none 6 true (.t 6)),.u 30 (.fa 4 (.t 2)),.u 31 (.ld none 6 true (.t 30)),.u 32 (.call f3 [(.t 29),(.t 31)]),.n (.st none 6 (.t 4) (.t 32)),.m 5 (.c (.one (.lit .nilIface)))])
 .ret)))))))))
def Jh(f0 f1:Nat):AC:=(.seq (.ops false [.u 2 (.box 10 (.t 0)),.u 3 (.box 6 (.t 1)),.u 4 (.alloc [(.lit (.bool false)),.emp,.emp,(.lit (.bool false)),.emp,.emp])])
 (.fg [2,3,4] (.seq (.ops true [.u 5 (.fa 0 (.t 2)),.u 6 (.ld none 4 true (.t 5)),.u 7 (.ld none 6 true (.t 3)),.u 8 (.call f0 [(.t 6),(.t 7)]),.u 9 (.fa 4 (.t 2)),.u 10 (.ld none 6 true (.t 9)),.u 11 (.call f1 [(.t 8),(.t 10)]),.n (.st none 6 (.t 4) (.t 11))])
 .ret)))
theorem VaI(hΓ:Holds P Γ){f fk fd tE:Nat}(hk:Γ fk=.dat false (wl tE))(hd:Γ fd=.dat false uy)(hc:check P f=some (19,(Un fk fd).strip,[.cell 2 3 true,.tmp 3])):Sound P f (.dat false (YF tE)):=by
 refine ka hc (yaV tE) hΓ (λargs K hcl hfi hG=>?_);match args,hG with
 | [a],hG=>
  obtain⟨t,rfl,ht,hl,hK⟩:=hG;refine⟨by simp,?_⟩
  have e2:errV tE 2=.one (.lit (.iface tE (.int .i64 2))):=Wc tE (by decide)
  rcases zM t with h | h
  .rw [h,if_pos rfl,Zc]at hK;simp only [go_sem,Un,jo,hk,hd,tA,tC,ht,Zb,h,Zc];exact⟨by omega,by omega,hK⟩
  .rw [h,if_neg (by decide),e2,V3,Jc]at hK
   simp only [go_sem,Un,jo,hk,hd,tA,tC,ht,Zb,h,e2];exact⟨by omega,hK⟩
theorem YaJ(hΓ:Holds P Γ){f fk fd tE:Nat}(hk:Γ fk=.dat false (wl tE))(hd:Γ fd=.dat false uy)(hc:check P f=some (19,(jo fk fd).strip,[.cell 2 3 true,.tmp 3])):Sound P f (.dat false (XH tE)):=by
 refine ka hc (JaM tE) hΓ (λargs K hcl hfi hG=>?_);match args,hG with
 | [a],hG=>
  obtain⟨t,rfl,ht,hl,hK⟩:=hG;refine⟨by simp,?_⟩
  have e2:errV tE 2=.one (.lit (.iface tE (.int .i64 2))):=Wc tE (by decide)
  rcases zM t with h | h
  .rw [h,if_pos rfl,Zc]at hK;simp only [go_sem,Un,jo,hk,hd,tA,tC,ht,Zb,h,Zc];exact⟨by omega,by omega,hK⟩
  .rw [h,if_neg (by decide),e2,V3,Jc]at hK
   simp only [go_sem,Un,jo,hk,hd,tA,tC,ht,Zb,h,e2];exact⟨by omega,hK⟩
theorem vaF(hΓ:Holds P Γ){f fk fc fs tE:Nat}(hk:Γ fk=.dat false (wl tE))(hc' : Γ fc=.dat false (YF tE))(hs:Γ fs=.dat false (XH tE))(hc:check P f=some (29,(xj fk fc fs tE).strip,[.cell 2 3 true,.cell 3 3 true,.tmp 4])):Sound P f (.dat false (jD tE)):=by
 refine ka hc (waL tE) hΓ (λargs K hcl hfi hG=>?_);match args,hG with
 | [a],hG=>
  obtain⟨t,rfl,ht,hl,hK⟩:=hG;refine⟨by simp,?_⟩
  have e2:errV tE 2=.one (.lit (.iface tE (.int .i64 2))):=Wc tE (by decide)
  rcases zM t with h | h
  .rw [h,if_pos rfl,if_pos rfl,Zc]at hK;simp only [go_sem,xj,hk,hc',hs,tA,tC,ht,Zb,h,Zc];exact⟨by omega,by omega,by omega,hK⟩
  .rw [h,if_neg (by decide),if_neg (by decide),e2,V3,Jc]at hK
   simp only [go_sem,xj,hk,hc',hs,tA,tC,ht,Zb,h,e2];exact⟨by omega,hK⟩
theorem QaF(hΓ:Holds P Γ){f fd fm fs fa tE:Nat}(hd:Γ fd=.dat false (jD tE))(hm:Γ fm=.dat false vi)(hs:Γ fs=.dat false Wq)(ha:Γ fa=.dat false yi)(hc:check P f=some (38,(Wp fd fm fs fa).strip,[.cell 4 6 true,.tmp 5])):Sound P f (.dat false (jH tE)):=by
 refine ka hc (xaM tE) hΓ (λargs K hcl hfi hG=>?_);match args,hG with
 | [a,b],hG=>
  obtain⟨t,rfl,ht,q,rfl,hq,hl,hl',hK⟩:=hG;refine⟨by simp,?_⟩
  have e2:errV tE 2=.one (.lit (.iface tE (.int .i64 2))):=Wc tE (by decide)
  rcases zM t with h | h
  .skip
   have r1:=ug ht;have q1:=ug hq.1;have q2:=ug hq.2;obtain⟨l1,l2⟩:=al1 hl';have cc:=JU (tv t);have ss:=uU (tv t);have hrt:rz (tv t).1=rz (rv t.1):=rfl;obtain⟨c,hcc⟩:∃c,cosQ (tv t)=c:=⟨_,rfl⟩;obtain⟨s,hss⟩:∃s,sinQ (tv t)=s:=⟨_,rfl⟩;rw [hcc]at cc;rw [hss]at ss;have m1:=Xb c (rv q.1);have m2:=Xb s (rv q.2);have m3:=Xb s (rv q.1);have m4:=Xb c (rv q.2);have er:rotQ (tv t) (av q)=(c*rv q.1-s*rv q.2,s*rv q.1+c*rv q.2):=by unfold rotQ;rw [hcc,hss];rfl
   rw [h,if_pos rfl,Zc,er]at hK;simp only [go_sem,Wp,hd,hm,hs,ha,tA,tC,kb,ht,hq.1,hq.2,Zb,h,Zc,hcc,hss];exact⟨by omega,by omega,by omega,by omega,by omega,by omega,by omega,by omega,by omega,by omega,by omega,by omega,by omega,hK⟩
  .rw [h,if_neg (by decide),e2,zaK,Jc]at hK
   simp only [go_sem,Wp,hd,hm,hs,ha,tA,tC,kb,ht,Zb,h,e2];exact⟨by omega,hK⟩
theorem waH(hΓ:Holds P Γ){f fd fm fs fa:Nat}(hd:Γ fd=.dat false uy)(hm:Γ fm=.dat false vi)(hs:Γ fs=.dat false Wq)(ha:Γ fa=.dat false yi)(hc:check P f=some (31,(yg fd fm fs fa).strip,[.cell 4 6 true])):Sound P f (.dat false XF):=by
 refine ka hc qaV hΓ (λargs K hcl hfi hG=>?_);match args,hG with
 | [a,b],hG=>
  obtain⟨t,rfl,ht,q,rfl,hq,hl,hl',hK⟩:=hG;refine⟨by simp,?_⟩
  have r1:=ug ht;have q1:=ug hq.1;have q2:=ug hq.2;obtain⟨l1,l2⟩:=al1 hl';have cc:=JU (tv t);have ss:=uU (tv t);have hrt:rz (tv t).1=rz (rv t.1):=rfl;obtain⟨c,hcc⟩:∃c,cosQ (tv t)=c:=⟨_,rfl⟩;obtain⟨s,hss⟩:∃s,sinQ (tv t)=s:=⟨_,rfl⟩;rw [hcc]at cc;rw [hss]at ss;have m1:=Xb c (rv q.1);have m2:=Xb s (rv q.2);have m3:=Xb s (rv q.1);have m4:=Xb c (rv q.2);have er:rotQ (tv t) (av q)=(c*rv q.1-s*rv q.2,s*rv q.1+c*rv q.2):=by unfold rotQ;rw [hcc,hss];rfl
  rw [er]at hK;simp only [go_sem,yg,hd,hm,hs,ha,tA,tC,kb,ht,hq.1,hq.2,Zb,hcc,hss];exact⟨by omega,by omega,by omega,by omega,by omega,by omega,by omega,by omega,by omega,by omega,by omega,by omega,by omega,hK⟩
theorem uaJ(hΓ:Holds P Γ){f fr fp:Nat}(hr:Γ fr=.dat false XF)(hp' : Γ fp=.dat false Qo)(hc:check P f=some (12,(Jh fr fp).strip,[.cell 4 6 true])):Sound P f (.dat false YH):=by
 refine ka hc ya7 hΓ (λargs K hcl hfi hG=>?_);match args,hG with
 | [a,b],hG=>
  obtain⟨p,rfl,hp,q,rfl,hq,hl,hl',hK⟩:=hG;refine⟨by simp,?_⟩
  obtain⟨l1,l2⟩:=pl1 hl;have r1:=ug hp.1;have q1:=Y5 hq;have z:=UaT (tv p.1) (av q);have e1:rz (tv p.1).1=rz (rv p.1.1):=rfl;have e2:al (rcan (rotQ (tv p.1) (av q)).1,rcan (rotQ (tv p.1) (av q)).2)=zq (rotQ (tv p.1) (av q)):=rfl;simp only [go_sem,Jh,hr,hp',poA,pC,kb,hp.1,hp.2,hq,Zb,JbB,Yb];exact⟨by omega,by omega,by rw [e2];omega,by omega,hK⟩
theorem YaF(hΓ:Holds P Γ){f fv fw fr fp tE:Nat}(hv:Γ fv=.dat true zw)(hw:Γ fw=.dat true ke)(hr:Γ fr=.dat false (jH tE))(hp' : Γ fp=.dat false Qo)(hc:check P f=some (33,(Wn fv fw fr fp tE).strip,[.cell 4 6 true,.tmp 5])):Sound P f (.dat false (VE tE)):=by
 refine ka hc (zaM tE) hΓ (λargs K hcl hfi hG=>?_);match args,hG with
 | [a,b],hG=>
  obtain⟨p,rfl,hp,q,rfl,hq,hl,hl',hK⟩:=hG;refine⟨by simp,?_⟩
  obtain⟨l1,l2⟩:=pl1 hl;have e8:errV tE 2=.one (.lit (.iface tE (.int .i64 2))):=Wc tE (by decide)
  unfold aok at hK;cases h1:pvld p with
  | false=>
   rw [h1,Bool.false_and,if_neg (by decide),if_neg (by decide),e8,zaK,Jc]at hK
   simp only [go_sem,Wn,hv,hw,poA,pC,kb,hp,Zb,h1];exact⟨by omega,hK⟩
  | true=>
   cases h2:avld q with
   | false=>
    rw [h1,h2,Bool.true_and,if_neg (by decide),if_neg (by decide),e8,zaK,Jc]at hK
    simp only [go_sem,Wn,hv,hw,poA,pC,kb,hp,hq,Zb,h1,h2];exact⟨by omega,by omega,hK⟩
   | true=>
    rw [h1,h2,Bool.true_and,if_pos rfl,if_pos rfl,Zc]at hK;have ht:tchk p.1=0:=by
     unfold pvld at h1;rw [Bool.and_eq_true,decide_eq_true_eq]at h1;exact h1.1
    have r1:=ug hp.1;have q1:=Y5 hq;have z:=UaT (tv p.1) (av q);have e1:rz (tv p.1).1=rz (rv p.1.1):=rfl;have e2:al (rcan (rotQ (tv p.1) (av q)).1,rcan (rotQ (tv p.1) (av q)).2)=zq (rotQ (tv p.1) (av q)):=rfl;simp only [go_sem,Wn,hv,hw,hr,hp',poA,pC,kb,hp,hp.1,hp.2,hq,Zb,h1,h2,ht,Zc,JbB,Yb];exact⟨by omega,by omega,by omega,by omega,by rw [e2];omega,by omega,hK⟩
end Go.Abs
end
section
namespace Go.Num
def inA(y:Rat)(x:Arc):Bool:=decide (rv x.1<=y) && decide (y<rv x.2)
def idxOf(y:Rat)(l:List Arc):Int:=match l.findIdx? (inA y) with | some i=>i | none=>-1
end Go.Num
namespace Go.Abs
open Go.Num
variable {P:Program} {Γ:Nat->Spec}
def pA(y:R):AV:=.one (.ref [cb y,cn y,cd y])
def kA(f:Nat)(y:R):AV:=.one (.clo f [.ref [cb y,cn y,cd y]])
theorem ubD(x y:R)(h:pA x=pA y):x=y:=Yr x y (by simpa [pA,rA] using h)
theorem XbA(f:Nat)(x y:R)(h:kA f x=kA f y):x=y:=Yr x y (by simpa [kA,rA] using h)
def onP(k:R->Prop)(a:AV):Prop:=onE pA (λx=>WLR x/\k x) a
@[congr] theorem qb1{k:R->Prop}{a a'}(h:a=a'):onP k a=onP k a':=by subst h;rfl
theorem ZbE(k:R->Prop)(x:R):onP k (.one (.ref [cb x,cn x,cd x]))=(WLR x/\k x):=wo ubD (λx=>WLR x/\k x) x
def onKl(f:Nat)(k:R->Prop)(a:AV):Prop:=onE (kA f) (λx=>WLR x/\k x) a
@[congr] theorem kbX{f}{k:R->Prop}{a a'}(h:a=a'):onKl f k a=onKl f k a':=by subst h;rfl
theorem Jbl(f:Nat)(k:R->Prop)(x:R):onKl f k (.one (.clo f [.ref [cb x,cn x,cd x]]))=(WLR x/\k x):=wo (XbA f) (λx=>WLR x/\k x) x
attribute [go_sem,go_sem ↓] ZbE Jbl
theorem xaI(y:R):CleanL [cb y,cn y,cd y]:=by
 intro c hc;simp only [List.mem_cons,List.not_mem_nil,or_false]at hc;rcases hc with rfl | rfl | rfl
 .exact of_eq_true (xm _)
 .exact of_eq_true (Qn _)
 .exact of_eq_true (Um _)
def Jam(l:List AV)(K:AV->Prop):Prop:=
 match l with
 | [a,b]=>onA (λx=>onP (λy=>al x<=4294967296/\rl y<=4294967296/\K (.one (.lit (.bool (inA (rv y) x))))) b) a
 | _=>False
theorem qay a b K:Jam [a,b] K=(onA (λx=>onP (λy=>al x<=4294967296/\rl y<=4294967296/\K (.one (.lit (.bool (inA (rv y) x))))) b) a):=propext Iff.rfl
@[congr] theorem WbP{K}{l l'}(h:l=l'):Jam l K=Jam l' K:=by subst h;rfl
attribute [go_sem,go_sem ↓] qay
def uaP(fc:Nat)(l:List AV)(K:AV->Prop):Prop:=
 match l with
 | [a,c]=>onAs (λl=>onKl fc (λy=>okAs 4294967296 l/\rl y<=4294967296/\K (.one (.lit (.int .i64 (idxOf (rv y) l))))) c) a
 | _=>False
theorem uaZ fc a c K:uaP fc [a,c] K=(onAs (λl=>onKl fc (λy=>okAs 4294967296 l/\rl y<=4294967296/\K (.one (.lit (.int .i64 (idxOf (rv y) l))))) c) a):=propext Iff.rfl
@[congr] theorem QbR fc{K}{l l'}(h:l=l'):uaP fc l K=uaP fc l' K:=by subst h;rfl
attribute [go_sem,go_sem ↓] uaZ
def yam(fc:Nat)(l:List AV)(K:AV->Prop):Prop:=
 match l with
 | [a,c]=>onAs (λl=>onKl fc (λy=>okAs 4294967296 l/\rl y<=4294967296/\K (.one (.lit (.bool (l.any (inA (rv y))))))) c) a
 | _=>False
theorem Xat fc a c K:yam fc [a,c] K=(onAs (λl=>onKl fc (λy=>okAs 4294967296 l/\rl y<=4294967296/\K (.one (.lit (.bool (l.any (inA (rv y))))))) c) a):=propext Iff.rfl
@[congr] theorem jbM fc{K}{l l'}(h:l=l'):yam fc l K=yam fc l' K:=by subst h;rfl
attribute [go_sem,go_sem ↓] Xat
def Qa4(tE:Nat)(l:List AV)(K:AV->Prop):Prop:=
 match l with
 | [a,b]=>onAs (λl=>onR (λy=>okAs 4294967296 l/\rl y<=1000000000/\K (.tup [.one (.lit (.bool (decide (chk [l]=0) && (vldR y && l.any (inA (frac (rv y))))))),errV tE (if chk [l]=0 then (if vldR y then 0 else 3) else chk [l])])) b) a
 | _=>False
theorem Wa4 tE a b K:Qa4 tE [a,b] K=(onAs (λl=>onR (λy=>okAs 4294967296 l/\rl y<=1000000000/\K (.tup [.one (.lit (.bool (decide (chk [l]=0) && (vldR y && l.any (inA (frac (rv y))))))),errV tE (if chk [l]=0 then (if vldR y then 0 else 3) else chk [l])])) b) a):=propext Iff.rfl
@[congr] theorem ybS tE{K}{l l'}(h:l=l'):Qa4 tE l K=Qa4 tE l' K:=by subst h;rfl
attribute [go_sem,go_sem ↓] Wa4
end Go.Abs
end
section
namespace Go.Num
def longR(x:R):Bool:=decide (4<x.2.1.length+x.2.2.length)
def largeL(l:List Arc):Bool:=if 20<l.length then (decide (l.length<=64) || decide (200<l.length)) else l.any λx=>longR x.1 || longR x.2
def validL(l:List Arc):Bool:=!largeL l && decide (chk1 l=0)
end Go.Num
namespace Go.Abs
open Go.Num
variable {P:Program} {Γ:Nat->Spec}
def xY(l:List AV)(K:AV->Prop):Prop:=
 match l with
 | [a]=>onAs (λl=>okAs 1073741824 l/\K (.one (.lit (.int .i64 (chk1 l:Nat))))) a
 | _=>False
theorem vab a K:xY [a] K=(onAs (λl=>okAs 1073741824 l/\K (.one (.lit (.int .i64 (chk1 l:Nat))))) a):=propext Iff.rfl
@[congr] theorem ybK{K}{l l'}(h:l=l'):xY l K=xY l' K:=by subst h;rfl
attribute [go_sem,go_sem ↓] vab
def Xan(l:List AV)(K:AV->Prop):Prop:=
 match l with
 | [a,b]=>onAs (λl=>onAs (λm=>okAs 1073741824 l/\okAs 1073741824 m/\K (.one (.lit (.bool (decide (vals l=vals m)))))) b) a
 | _=>False
theorem vau a b K:Xan [a,b] K=(onAs (λl=>onAs (λm=>okAs 1073741824 l/\okAs 1073741824 m/\K (.one (.lit (.bool (decide (vals l=vals m)))))) b) a):=propext Iff.rfl
@[congr] theorem wbO{K}{l l'}(h:l=l'):Xan l K=Xan l' K:=by subst h;rfl
attribute [go_sem,go_sem ↓] vau
def Uam(l:List AV)(K:AV->Prop):Prop:=
 match l with
 | [a]=>onR (λx=>rl x<=1000000000/\K (.agg [cb (rcan (frac (rv x))),cn (rcan (frac (rv x))),cd (rcan (frac (rv x)))])) a
 | _=>False
theorem Wax a K:Uam [a] K=(onR (λx=>rl x<=1000000000/\K (.agg [cb (rcan (frac (rv x))),cn (rcan (frac (rv x))),cd (rcan (frac (rv x)))])) a):=propext Iff.rfl
@[congr] theorem kbN{K}{l l'}(h:l=l'):Uam l K=Uam l' K:=by subst h;rfl
attribute [go_sem,go_sem ↓] Wax
def uao(l:List AV)(K:AV->Prop):Prop:=
 match l with
 | [a,b]=>asInt (λk n=>asInt (λk' d=>k=.i64/\k' = .i64/\(-9223372036854775808<=n/\n<=9223372036854775807)/\(-9223372036854775808<=d/\d<=9223372036854775807)/\d≠0/\K (.agg [cb (rcan (Rat.divInt n d)),cn (rcan (Rat.divInt n d)),cd (rcan (Rat.divInt n d))])) b) a
 | _=>False
theorem JaC a b K:uao [a,b] K=(asInt (λk n=>asInt (λk' d=>k=.i64/\k' = .i64/\(-9223372036854775808<=n/\n<=9223372036854775807)/\(-9223372036854775808<=d/\d<=9223372036854775807)/\d≠0/\K (.agg [cb (rcan (Rat.divInt n d)),cn (rcan (Rat.divInt n d)),cd (rcan (Rat.divInt n d))])) b) a):=propext Iff.rfl
@[congr] theorem jbN{K}{l l'}(h:l=l'):uao l K=uao l' K:=by subst h;rfl
attribute [go_sem,go_sem ↓] JaC
def yah(l:List AV)(K:AV->Prop):Prop:=
 match l with
 | [a]=>onR (λx=>rl x<=4294967296/\K (.one (.lit (.bool (longR x))))) a
 | _=>False
theorem yaz a K:yah [a] K=(onR (λx=>rl x<=4294967296/\K (.one (.lit (.bool (longR x))))) a):=propext Iff.rfl
@[congr] theorem vbM{K}{l l'}(h:l=l'):yah l K=yah l' K:=by subst h;rfl
attribute [go_sem,go_sem ↓] yaz
def XX(l:List AV)(K:AV->Prop):Prop:=
 match l with
 | [a]=>onAs (λl=>okAs 1073741824 l/\K (.one (.lit (.bool (largeL l))))) a
 | _=>False
theorem Qag a K:XX [a] K=(onAs (λl=>okAs 1073741824 l/\K (.one (.lit (.bool (largeL l))))) a):=propext Iff.rfl
@[congr] theorem ZbK{K}{l l'}(h:l=l'):XX l K=XX l' K:=by subst h;rfl
attribute [go_sem,go_sem ↓] Qag
def JK(l:List AV)(K:AV->Prop):Prop:=
 match l with
 | [a]=>onAs (λl=>okAs 1073741824 l/\K (.one (.lit (.bool (validL l))))) a
 | _=>False
theorem JS a K:JK [a] K=(onAs (λl=>okAs 1073741824 l/\K (.one (.lit (.bool (validL l))))) a):=propext Iff.rfl
@[congr] theorem ubx{K}{l l'}(h:l=l'):JK l K=JK l' K:=by subst h;rfl
attribute [go_sem,go_sem ↓] JS
def QY(tE:Nat)(l:List AV)(K:AV->Prop):Prop:=
 match l with
 | [a]=>onAs (λl=>K (.tup [.one (.slice ((if 64<l.length then [] else l).map aC)),errV tE (if 64<l.length then 4 else 0)])) a
 | _=>False
theorem Y4 tE a K:QY tE [a] K=(onAs (λl=>K (.tup [.one (.slice ((if 64<l.length then [] else l).map aC)),errV tE (if 64<l.length then 4 else 0)])) a):=propext Iff.rfl
@[congr] theorem vbL tE{K}{l l'}(h:l=l'):QY tE l K=QY tE l' K:=by subst h;rfl
attribute [go_sem,go_sem ↓] Y4
end Go.Abs
end
