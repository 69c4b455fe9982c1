/-
  Parts of the proof, merged: ArgD, RatC, RefA, RatD, RatE, PoseP, PoseB, PoseC, ChartE, ChartF.
-/
import Derived.Test.YtneiiodebbmcaaaGreatDoorM5
set_option linter.unusedVariables false
set_option linter.unusedSimpArgs false
set_option maxRecDepth 100000
section
namespace Go.Abs
open Go.Num
variable {H:Type} {enc:TypeId×Value->H} {bulk:DataW H->Nat} {P:Program} {w:World} {α:Type}
def okTn(n:Nat)(x:Tn):Prop:=rl x.1<=n/\WLR x.1
def okPose(n:Nat)(x:Ps):Prop:=okP n x
theorem ja5(n n' : Nat)(a:Tn)(h:n<=n')(k:okTn n a):okTn n' a:=⟨Nat.le_trans k.1 h,k.2⟩
theorem kP(n n' : Nat)(a:Ps)(h:n<=n')(k:okPose n a):okPose n' a:=⟨k.1,Nat.le_trans k.2 h⟩
structure TnT (P:Program) (t:TypeId):Prop where
 ex:∃f0 f1:Field,P.underlying t=some (.struct #[f0,f1])/\f0.offset=0/\f1.offset=3/\P.cellsOf t=4/\P.cellsOf f0.type=3/\P.cellsOf f1.type=1/\RatT P f0.type/\P.underlying f1.type=some .bool
theorem Ybq{t:TypeId}(B:Bk bulk)(h:TnT P t):Opens enc bulk P w t tC okTn:=by
 obtain⟨f0,f1,ht,o0,o1,hs,c0,c1,r0,r1⟩:=h.ex;have:=yB (enc:=enc) (w:=w) B ht o0 (by omega) (by omega) Y9 (λ_ _ _ _ h=>h) (vJ (enc:=enc) (w:=w) B r0) (JZ (enc:=enc) (bulk:=bulk) (w:=w) r1)
 exact this.imp λn x h=>⟨h.1.1,h.1.2⟩
structure PsT (P:Program) (t:TypeId):Prop where
 ex:∃f0 f1:Field,P.underlying t=some (.struct #[f0,f1])/\f0.offset=0/\f1.offset=4/\P.cellsOf t=10/\P.cellsOf f0.type=4/\P.cellsOf f1.type=6/\TnT P f0.type/\ArcT P f1.type
theorem zbr{t:TypeId}(B:Bk bulk)(h:PsT P t):Opens enc bulk P w t pC okPose:=by
 obtain⟨f0,f1,ht,o0,o1,hs,c0,c1,r0,r1⟩:=h.ex;have:=yB (enc:=enc) (w:=w) B ht o0 (by omega) (by omega) ja5 VaP (Ybq (enc:=enc) (w:=w) B r0) (xa5 (enc:=enc) (w:=w) B r1)
 exact this.imp λn x h=>⟨⟨h.1.2,h.2.1⟩,Nat.max_le.2 ⟨h.1.1,h.2.2⟩⟩
structure PosesT (P:Program) (t:TypeId):Prop where
 ex:∃u,P.underlying t=some (.slice u)/\P.cellsOf u=10/\PsT P u
theorem Yar{t:TypeId}(B:Bk bulk)(h:PosesT P t):Opens enc bulk P w t (λl:List Ps=>[.slice (l.map pC)]) (okLs okPose):=by
 obtain⟨u,ht,hc,hu⟩:=h.ex;exact WQ (enc:=enc) (w:=w) (e:=pC) B ht (by omega) (λa=>by rw [hc];rfl) Ju kP (zbr B hu)
structure DyT (P:Program) (t:TypeId):Prop where
 ex:∃f0 f1 f2:Field,P.underlying t=some (.struct #[f0,f1,f2])/\f0.offset=0/\f1.offset=6/\f2.offset=12/\P.cellsOf t=15/\P.cellsOf f0.type=6/\P.cellsOf f1.type=6/\P.cellsOf f2.type=3/\ArcT P f0.type/\ArcT P f1.type/\RatT P f2.type
end Go.Abs
end
section
namespace Go.Abs
open Go.Num
variable {P:Program} {Γ:Nat->Spec}
def jq(f0 f1 f2 f3:Nat):AC:=(.o [.K 1 3 0,.m 2 .fa] [1] (.f (.o [.A 5 1 1,.F 6 1 5,.Z 7 6,.I 8 .eql 7 0,.M 9 8,.T 10 9 true 2 1,.U 11 9 true 1 false 10,.w 12 9 true (.len (.t 11)),.w 13 9 true (.bin .eql (.t 12) (.i 0)),.P 14 9 13] [1,14] (.cond (.t 14) (.seq (.p [.A 15 0 1,.F 16 1 15,.u 17 (.un .not (.t 16)),.M 2 17]) .ret) .skip)) [1] (.f (.y [.A 18 1 1,.u 19 (.ld (some 1) 1 false (.t 18)),.u 20 (.build [.z [.z],.x 1 (.t 19)]),.A 21 2 1,.u 22 (.ld (some 1) 1 false (.t 21)),.u 23 (.build [.z [.z],.x 1 (.t 22)]),.G 3 [.z,.emp],.G 4 [.z,.emp],.n (.st (some 3) 2 (.t 3) (.t 20)),.n (.st (some 4) 2 (.t 4) (.t 23))]) [1,3,4] (.f (.o [.A 24 1 1,.F 25 1 24,.Z 26 25,.I 27 .eql 26 0,.M 28 27,.T 29 28 false 2 1,.U 30 28 false 1 false 29,.w 31 28 false (.len (.t 30)),.w 32 28 false (.bin .eql (.t 31) (.i 0)),.Q 33 28 32,.M 34 33,.U 35 34 false 2 true 3,.W 36 34 false f0 35,.w 37 34 false (.un .not (.t 36)),.Q 38 34 37,.M 39 38,.U 40 39 false 2 true 4,.W 41 39 false f0 40,.w 42 39 false (.un .not (.t 41)),.Q 43 39 42] [3,4,43] (.cond (.t 43) (.seq (.p [.m 2 .fa]) .ret) .skip)) [3,4] (.seq (.p [.L 44 2 3,.L 45 2 4,.D 46 f1 44 45,.u 47 (.call f2 []),.D 48 f3 46 47,.I 49 .eql 48 0,.M 2 49]) .ret)))))
def Xq(f0 f1:Nat):AC:=(.o [.K 1 3 0,.G 2 [.z,.emp],.G 3 [.z,.emp]] [1,2,3] (.f (.o [.L 4 3 1,.H 5 f0 4,.u 6 (.un .not (.t 5)),.M 7 6,.T 8 7 false 1 1,.U 9 7 false 1 false 8,.w 10 7 false (.len (.t 9)),.w 11 7 false (.bin .eql (.t 10) (.i 0)),.Q 12 7 11] [1,2,3,12] (.cond (.t 12) (.seq (.p [.u 13 (.build [.z [.z,.emp]]),.u 14 (.call f1 []),.S 2 2 13,.S 2 3 14]) .ret) .skip)) [1,2,3] (.f (.y [.A 15 0 1,.F 16 1 15,.m 17 (.c (.one .emp)),.A 18 1 1,.F 19 1 18,.u 20 (.app0 1 (.t 17) (.t 19)),.u 21 (.build [.x 1 (.t 16),.x 1 (.t 20)]),.S 2 2 21]) [1,2,3] (.seq (.y [.L 22 2 2,.m 23 (.c (.one .emp)),.A 24 2 1,.F 25 1 24,.u 26 (.app0 1 (.t 23) (.t 25)),.u 27 (.build [.z [.z],.x 1 (.t 26)]),.S 2 2 22,.S 2 3 27]) .ret))))
def Zt(f0 f1 f2 f3:Nat):AC:=(.o [.K 2 2 0,.K 3 2 1,.G 4 [.z,.emp,.emp]] [2,3,4] (.f (.o [.L 7 2 2,.H 8 f0 7,.I 9 .eql 8 0] [2,3,4,9] (.cond (.t 9) (.seq (.p [.u 10 (.build [.z [.z,.emp,.emp]]),.S 3 4 10]) .ret) .skip)) [2,3,4] (.f (.o [.L 11 2 3,.H 12 f0 11,.I 13 .lss 12 0] [2,3,4,13] (.cond (.t 13) (.y [.L 14 2 2,.H 15 f1 14,.L 16 2 3,.H 17 f1 16,.S 2 2 15,.S 2 3 17]) .skip)) [2,3,4] (.o [.L 18 2 2,.L 19 2 3,.D 20 f2 18 19,.G 5 [.z,.emp],.S 2 5 20] [2,3,4,5] (.o [.L 21 2 2,.H 22 f0 21,.I 23 .lss 22 0,.M 6 23] [2,3,4,5,6] (.f (.o [.M 24 6] [2,3,4,5,6,24] (.cond (.t 24) (.p [.L 25 2 2,.H 26 f1 25,.S 2 2 26]) .skip)) [2,3,4,5,6] (.o [.L 28 2 2,.L 29 2 5,.D 30 f3 28 29,.M 27 30,.X 31 0 27,.X 32 1 27,.X 33 2 27,.S 2 2 31] [2,3,4,5,6] (.o [.L 35 2 3,.L 36 2 5,.D 37 f3 35 36,.M 34 37,.X 38 0 34,.X 39 1 34,.X 40 2 34,.S 2 3 38] [2,3,4,6] (.seq (.p [.M 41 6,.A 42 1 2,.F 43 1 42,.A 44 1 3,.F 45 1 44,.u 46 (.build [.x 1 (.t 41),.x 1 (.t 43),.x 1 (.t 45)]),.S 3 4 46]) .ret)))))))))
def yo(f0:Nat):AC:=(.o [.G 0 [.z,.emp]] [0] (.seq (.p [.u 1 (.call f0 [(.i 1)]),.S 2 0 1]) .ret))
def Yr(f0 f1 f2:Nat):AC:=(.o [.G 2 [.z,.emp,.emp]] [0,2] (.seq (.p [.M 3 0,.H 4 f0 3,.u 5 (.call f1 []),.D 6 f2 4 5,.S 3 2 6]) .ret))
def Jp(f0 f1 f2:Nat):AC:=(.o [.K 1 3 0,.G 2 [.z,.emp,.emp]] [1,2] (.o [.L 6 3 1,.H 7 f0 6,.M 5 7,.X 8 0 5,.X 9 1 5,.G 3 [.z,.emp],.G 4 [.z,.emp],.S 2 3 8,.S 2 4 9] [2,3,4] (.seq (.y [.L 10 2 3,.H 11 f1 10,.L 12 2 4,.D 13 f2 11 12,.S 3 2 13]) .ret)))
def jn(f0 f1:Nat):AC:=(.o [.K 1 3 0,.N 2 0] [1] (.o [.L 6 3 1,.H 7 f0 6,.M 5 7,.X 8 0 5,.X 9 1 5,.G 3 [.z,.emp],.G 4 [.z,.emp],.S 2 3 8,.S 2 4 9] [3] (.seq (.p [.L 10 2 3,.H 11 f1 10,.M 2 11]) .ret)))
def ko(f0 f1 f2 f3:Nat):AC:=(.o [.K 2 3 0,.K 3 3 1,.G 4 [.z,.emp,.emp]] [2,3,4] (.o [.L 10 3 2,.H 11 f0 10,.M 9 11,.X 12 0 9,.X 13 1 9,.G 5 [.z,.emp],.G 6 [.z,.emp],.S 2 5 12,.S 2 6 13] [3,4,5,6] (.o [.L 15 3 3,.H 16 f0 15,.M 14 16,.X 17 0 14,.X 18 1 14,.G 7 [.z,.emp],.G 8 [.z,.emp],.S 2 7 17,.S 2 8 18] [4,5,6,7,8] (.seq (.y [.L 19 2 5,.L 20 2 8,.D 21 f1 19 20,.L 22 2 7,.L 23 2 6,.D 24 f1 22 23,.D 25 f2 21 24,.L 26 2 6,.L 27 2 8,.D 28 f1 26 27,.D 29 f3 25 28,.S 3 4 29]) .ret))))
def qp(f0 f1:Nat):AC:=(.o [.K 2 3 0,.K 3 3 1,.G 4 [.z,.emp,.emp]] [2,3,4] (.seq (.y [.L 5 3 2,.L 6 3 3,.H 7 f0 6,.D 8 f1 5 7,.S 3 4 8]) .ret))
def yt(f0 f1 tE:Nat):AC:=(.o [.K 2 2 0,.K 3 2 1,.G 4 [.z,.emp,.emp],.m 5 (.c (.one (.lit .nilIface)))] [2,3,4] (.f (.o [.L 6 2 3,.H 7 f0 6,.I 8 .eql 7 0] [2,3,4,8] (.cond (.t 8) (.seq (.p [.u 9 (.build [.z [.z,.emp,.emp]]),.u 10 (.iface tE (.i 8)),.S 3 4 9,.M 5 10]) .ret) .skip)) [2,3,4] (.seq (.p [.L 11 2 2,.L 12 2 3,.D 13 f1 11 12,.S 3 4 13,.m 5 (.c (.one (.lit .nilIface)))]) .ret)))
theorem kbk{n:Int}:n.sign<0↔n<0:=by
 rcases Int.lt_trichotomy n 0 with h | h | h
 .rw [Int.sign_eq_neg_one_of_neg h];omega
 .subst h;simp
 .rw [Int.sign_eq_one_of_pos h];omega
theorem YF{n d N D:Int}{g:Nat}{m:Bool}(hd:d≠0)(hn:n≠0)(hN:0<=N)(hD:0<=D)(e1:N.natAbs=n.natAbs)(e2:D.natAbs=d.natAbs)(eg:g=Int.gcd n d)(em:m=decide (d.sign*n<0)) :
  AV.agg [.lit (.bool m),zm (zcan (N / (g:Int))),zm (zcan (D / (g:Int)))]=.agg [cb (rcan (Rat.divInt n d)),cn (rcan (Rat.divInt n d)),cd (rcan (Rat.divInt n d))]:=by
 obtain⟨N',rfl⟩:=Int.eq_ofNat_of_zero_le hN;obtain⟨D',rfl⟩:=Int.eq_ofNat_of_zero_le hD;simp only [Int.natAbs_natCast]at e1 e2;subst e1 e2 eg em;rw [UaO,yaM,xaO,jS hd hn,qaO,qaO];simp only [zcan];rw [<-Int.natCast_ediv,<-Int.natCast_ediv];simp only [Int.natAbs_natCast]
theorem UaT{v w:Int}{s:Nat}(h:w≠0)(hw:zs w<=s):zs ((Int.gcd v w:Nat):Int)<=s:=by
 refine Nat.le_trans (war ?_) hw;simp only [Int.natAbs_natCast];exact Nat.le_of_dvd (by omega) (Int.gcd_dvd_natAbs_right _ _)
theorem Qai{a b:Int}:ordI a b=0↔a=b:=by unfold ordI;split <;> (try split) <;> omega
theorem Wba{l:List Nat}(h:l≠[]):vldW (false,l)=decide (NZ l):=by unfold vldW;rw [if_neg h]
theorem zv_f{l:List Nat}(h:NZ l):zv (false,l)=(val l:Int):=by
 unfold zv;by_cases e:l=[]
 .subst e;simp [vldW]
 .rw [Wba e];simp [h]
theorem Z1(hΓ:Xa P Γ){f fo:Nat}(ho:Γ fo=.dat false YU)(hc:check P f=some (2,(yo fo).strip,[.cell 0 2 true])):ua P f (.dat false vv):=by
 refine ka hc XaW hΓ (λargs K hcl hfi hG=>?_);match args,hG with
 | [],hG=>
  have hK:=hG;simp only [vv]at hK;refine⟨by simp,?_⟩
  simp only [go_sem,yo,ho];refine⟨by omega,by omega,hK⟩
theorem Vai(hΓ:Xa P Γ){f fv fg fo fc:Nat}(hv:Γ fv=.dat true Xp)(hg:Γ fg=.dat false yA)(ho:Γ fo=.dat false vv)(hc' : Γ fc=.dat true WJ)(hc:check P f=some (50,(jq fv fg fo fc).strip,[.tmp 2])):ua P f (.dat true qf):=by
 refine ka hc VQ hΓ (λargs K hcl hfi hG=>?_);match args,hG with
 | [a],hG=>
  obtain⟨x,rfl,hx,hl,hK⟩:=hG;refine⟨by simp,?_⟩
  simp only [go_sem,jq,hv,hg,ho,hc',UaO,yaM,xaO];have hl1:x.2.1.length<=4294967296:=Nat.le_trans (Nat.le_max_left _ _) hl;have hl2:x.2.2.length<=4294967296:=Nat.le_trans (Nat.le_max_right _ _) hl;have key:x.2.1≠[]->x.2.2≠[]->WL x.2.1/\(vldW (false,x.2.1)=true->WL x.2.2/\(vldW (false,x.2.2)=true->WL x.2.1/\WL x.2.2/\zs (zv (false,x.2.1))<=17179869184/\zs (zv (false,x.2.2))<=17179869184/\
    K (AV.one (C.lit (Value.bool (decide (ordI (((zv (false,x.2.1)).gcd (zv (false,x.2.2)):Nat):Int) 1=0))))))/\(vldW (false,x.2.2)=false->K (AV.one (C.lit (Value.bool false)))))/\(vldW (false,x.2.1)=false->K (AV.one (C.lit (Value.bool false)))):=by
   intro hn hd;unfold vldR at hK;rw [if_neg (λe=>hn e.1)]at hK;rw [Wba hn,Wba hd];refine⟨hx.1,λh1=>⟨hx.2,λh2=>⟨hx.1,hx.2,?_,?_,?_⟩,λh2=>?_⟩,λh1=>?_⟩
   .rw [zv_f (of_decide_eq_true h1),wal,Zf hx.1 (of_decide_eq_true h1)];omega
   .rw [zv_f (of_decide_eq_true h2),wal,Zf hx.2 (of_decide_eq_true h2)];omega
   .rw [zv_f (of_decide_eq_true h1),zv_f (of_decide_eq_true h2)];have e:decide (ordI (((((val x.2.1:Nat):Int)).gcd ((val x.2.2:Nat):Int):Nat):Int) 1=0)=decide (x.2.1≠[]/\x.2.2≠[]/\NZ x.2.1/\NZ x.2.2/\Nat.gcd (val x.2.1) (val x.2.2)=1):=by
     rw [decide_eq_decide,Qai,Int.gcd_natCast_natCast];have h1':=of_decide_eq_true h1;have h2':=of_decide_eq_true h2;constructor
     .intro h;exact⟨hn,hd,h1',h2',by omega⟩
     .rintro⟨_,_,_,_,h⟩;omega
    rw [e];exact hK
   .rw [decide_eq_false (λh=>of_decide_eq_false h2 h.2.2.2.1)]at hK;exact hK
   .rw [decide_eq_false (λh=>of_decide_eq_false h1 h.2.2.1)]at hK;exact hK
  have e0:∀{l:List Nat},¬l.length=0->l≠[]:=λh e=>h (by rw [e];rfl)
  have key0:¬(x.2.1=[]/\x.2.2=[])->(x.2.1=[]∨x.2.2=[])->K (AV.one (C.lit (Value.bool false))):=by
   intro h1 h2;unfold vldR at hK;rw [if_neg h1,decide_eq_false (λh=>h2.elim h.1 h.2.1)]at hK;exact hK
  refine λ_=>⟨λhn _=>⟨λhd=>?_,λhd _=>⟨λh=>?_,λh=>absurd hn h⟩⟩,λhn _=>⟨λh=>absurd h hn,λ_ _=>⟨λhd=>?_,λhd=>key (e0 hn) (e0 hd)⟩⟩⟩
  .unfold vldR at hK;rw [if_pos ⟨List.eq_nil_of_length_eq_zero hn,List.eq_nil_of_length_eq_zero hd⟩]at hK;exact hK
  .exact key0 (λh=>e0 hd h.2) (.inl (List.eq_nil_of_length_eq_zero hn))
  .exact key0 (λh=>e0 hn h.1) (.inr (List.eq_nil_of_length_eq_zero hd))
theorem qaj(hΓ:Xa P Γ){f fv fo:Nat}(hv:Γ fv=.dat true qf)(ho:Γ fo=.dat false vv)(hc:check P f=some (28,(Xq fv fo).strip,[.cell 2 2 true,.cell 3 2 true])):ua P f (.dat false kg):=by
 refine ka hc JP hΓ (λargs K hcl hfi hG=>?_);match args,hG with
 | [a],hG=>
  obtain⟨x,rfl,hx,hl,hK⟩:=hG;refine⟨by simp,?_⟩
  simp only [go_sem,Xq,hv,ho,UaO,yaM,xaO];have hl1:x.2.1.length<=4294967296:=Nat.le_trans (Nat.le_max_left _ _) hl;have hl2:x.2.2.length<=4294967296:=Nat.le_trans (Nat.le_max_right _ _) hl;have e0:(zcan 0)=(false,[]):=by simp [zcan,qc]
  have h0:rv x=0->K (AV.tup [AV.agg [C.lit (Value.bool false),C.slice []],AV.agg [zb (zcan 1),zm (zcan 1)]]):=by
   intro h;rw [h]at hK;have e1:((0:Rat).num)=0:=rfl;have e2:((0:Rat).den:Int)=1:=rfl;rw [e1,e2,e0]at hK;exact hK
  refine⟨hx,hl,λhv _=>⟨λhn=>h0 ?_,λhn=>⟨by omega,by omega,?_⟩⟩,λhv=>h0 (Var hv)⟩
  .unfold rv;rw [if_pos hv,List.eq_nil_of_length_eq_zero hn];simp [val,sg]
  .obtain⟨p1,p2,p3,p4,p5,p6⟩:=Qac hx hv (λe=>hn (by rw [e];rfl))
   have hn0:=xd p4 (λe=>hn (by rw [e];rfl))
   rw [p1,p2]at hK;have e1:zcan (sg x.1 (val x.2.1))=(x.1,x.2.1):=by
    rw [<-QZ,Zf hx.1 p4];have:decide (0<x.2.1.length)=true:=by simp only [decide_eq_true_eq];omega
    rw [this,Bool.and_true]
   have e2:zcan ((val x.2.2:Nat):Int)=(false,x.2.2):=by
    have:=QZ false (val x.2.2);rw [Zf hx.2 p5,Bool.false_and]at this;exact this.symm
   rw [e1,e2]at hK;exact hK
theorem Zao(hΓ:Xa P Γ){f fs fn fg fd:Nat}(hs:Γ fs=.dat true zk)(hn:Γ fn=.dat false VC)(hg:Γ fg=.dat false yA)(hd:Γ fd=.dat false xN)(hc:check P f=some (47,(Zt fs fn fg fd).strip,[.cell 4 3 true])):ua P f (.dat false xn):=by
 refine ka hc zW hΓ (λargs K hcl hfi hG=>?_);match args,hG with
 | [a,b],hG=>
  obtain⟨v,rfl,hv,w,rfl,hw,hz,hz',h0,hK⟩:=hG;refine⟨by simp,?_⟩
  simp only [go_sem,Zt,hs,hn,hg,hd,hv,hw];generalize zv v=n at *
  generalize zv w=d at *
  have hd0:=h0;refine⟨λh=>?_,λh=>?_⟩
  .rw [Int.sign_eq_zero_iff_zero.1 h,Rat.zero_divInt,ub]at hK;exact hK
  have hn0:n≠0:=λe=>h (by rw [e];rfl)
  have hg0:((Int.gcd n d:Nat):Int)≠0:=by
   have:=Int.gcd_pos_of_ne_zero_left d hn0;omega
  have hgz:zs ((Int.gcd n d:Nat):Int)<=17179869184:=UaT hd0 hz';simp only [Int.gcd_neg,Int.neg_gcd,kad,kbk];refine⟨λhdn=>⟨by omega,by omega,hz,hz',λhnn=>⟨by omega,hz,hgz,hg0,hz',hgz,hg0,?_⟩,λhnn=>⟨hz,hgz,hg0,hz',hgz,hg0,?_⟩⟩,λhdn=>⟨hz,hz',λhnn=>⟨by omega,hz,hgz,hg0,hz',hgz,hg0,?_⟩,λhnn=>⟨hz,hgz,hg0,hz',hgz,hg0,?_⟩⟩⟩
  .rw [YF hd0 hn0 (by omega) (by omega) (by omega) (by omega) rfl (by rw [decide_eq_decide,Int.sign_eq_neg_one_of_neg hdn];omega)];exact hK
  .rw [YF hd0 hn0 (by omega) (by omega) (by omega) (by omega) rfl (by rw [decide_eq_decide,Int.sign_eq_neg_one_of_neg hdn];omega)];exact hK
  .rw [YF hd0 hn0 (by omega) (by omega) (by omega) (by omega) rfl (by rw [decide_eq_decide,Int.sign_eq_one_of_pos (by omega)];omega)];exact hK
  .rw [YF hd0 hn0 (by omega) (by omega) (by omega) (by omega) rfl (by rw [decide_eq_decide,Int.sign_eq_one_of_pos (by omega)];omega)];exact hK
theorem vak(hΓ:Xa P Γ){f fo fn ff:Nat}(ho:Γ fo=.dat false YU)(hn:Γ fn=.dat false vv)(hf:Γ ff=.dat false xn)(hc:check P f=some (7,(Yr fo fn ff).strip,[.cell 2 3 true])):ua P f (.dat false XE):=by
 refine ka hc Ybm hΓ (λargs K hcl hfi hG=>?_);match args,hG with
 | [a],hG=>
  obtain⟨k,n,rfl,rfl,hn1,hn2,hK⟩:=Yb hG;refine⟨by simp,?_⟩
  simp only [go_sem,Yr,ho,hn,hf];have e:Rat.divInt n 1=(n:Rat):=Rat.num_divInt_den (n:Rat);rw [e];have h1:zs 1<=2:=jad (by decide)
  have h2:zs n<=2:=jad (by omega)
  exact⟨hn1,hn2,by omega,by omega,by decide,hK⟩
theorem Z3(hΓ:Xa P Γ){f fp fn ff:Nat}(hp:Γ fp=.dat false kg)(hn:Γ fn=.dat false VC)(hf:Γ ff=.dat false xn)(hc:check P f=some (14,(Jp fp fn ff).strip,[.cell 2 3 true])):ua P f (.dat false VA):=by
 refine ka hc Xa9 hΓ (λargs K hcl hfi hG=>?_);match args,hG with
 | [a],hG=>
  obtain⟨x,rfl,hx,hl,hK⟩:=hG;refine⟨by simp,?_⟩
  simp only [go_sem,Jp,hp,hn,hf,hx];have n1:=wH hx;have d1:=uH hx;rw [xbg,kad];exact⟨hl,by omega,by omega,by omega,YC _,hK⟩
theorem JS(hΓ:Xa P Γ){f fp fs:Nat}(hp:Γ fp=.dat false kg)(hs:Γ fs=.dat true zk)(hc:check P f=some (12,(jn fp fs).strip,[.tmp 2])):ua P f (.dat true yn):=by
 refine ka hc YaP hΓ (λargs K hcl hfi hG=>?_);match args,hG with
 | [a],hG=>
  obtain⟨x,rfl,hx,hl,hK⟩:=hG;refine⟨by simp,?_⟩
  simp only [go_sem,jn,hp,hs,hx];rw [<-XaX];exact⟨hl,hK⟩
theorem W3(hΓ:Xa P Γ){f fp fm fa ff:Nat}(hp:Γ fp=.dat false kg)(hm:Γ fm=.dat false kC)(ha:Γ fa=.dat false vE)(hf:Γ ff=.dat false xn)(hc:check P f=some (30,(ko fp fm fa ff).strip,[.cell 4 3 true])):ua P f (.dat false wl):=by
 refine ka hc UaU hΓ (λargs K hcl hfi hG=>?_);match args,hG with
 | [a,b],hG=>
  obtain⟨x,rfl,hx,y,rfl,hy,hl,hl',hK⟩:=hG;refine⟨by simp,?_⟩
  simp only [go_sem,ko,hp,hm,ha,hf,hx,hy];have n1:=wH hx;have d1:=uH hx;have n2:=wH hy;have d2:=uH hy;rw [Int.natCast_mul,jak];have m1:=qt (rv x).num (rv y).den;have m2:=qt (rv y).num (rv x).den;have m3:=qt ((rv x).den:Int) (rv y).den;have a1:=yQ ((rv x).num*(rv y).den) ((rv y).num*(rv x).den);exact⟨hl,hl',by omega,by omega,by omega,by omega,by omega,by omega,by omega,by omega,by omega,by omega,Int.mul_ne_zero (YC _) (YC _),hK⟩
theorem JW(hΓ:Xa P Γ){f fn fa:Nat}(hn:Γ fn=.dat false VA)(ha:Γ fa=.dat false wl)(hc:check P f=some (9,(qp fn fa).strip,[.cell 4 3 true])):ua P f (.dat false yw):=by
 refine ka hc Za7 hΓ (λargs K hcl hfi hG=>?_);match args,hG with
 | [a,b],hG=>
  obtain⟨x,rfl,hx,y,rfl,hy,hl,hl',hK⟩:=hG;refine⟨by simp,?_⟩
  simp only [go_sem,qp,hn,ha,hx,hy];rw [<-Rat.sub_eq_add_neg,qA];exact⟨hl',hl,Nat.le_trans (Vg hy) hl',hK⟩
end Go.Abs
end
section
namespace Go.Num
def bln(n:Nat):Nat:=if n=0 then 0 else bln (n / 2)+1
termination_by n
decreasing_by omega
theorem yO:bln 0=0:=by rw [bln];rfl
theorem qao{n:Nat}(h:n≠0):bln n=bln (n / 2)+1:=by rw [bln,if_neg h]
theorem JbV(n:Nat):n<2 ^ bln n:=by
 induction n using Nat.strongRecOn with
 | _ n ih=>
  by_cases h:n=0
  .subst h;rw [yO];decide
  .rw [qao h,Nat.pow_succ];have:=ih (n / 2) (by omega)
   omega
theorem Qbv{n k:Nat}(h:n<2 ^ k):bln n<=k:=by
  induction k generalizing n with
  | zero => have : n = 0 := by omega
            subst this;rw [yO];exact Nat.le_refl _
  | succ k ih=>
    by_cases h0:n=0
    . subst h0;rw [yO];omega
    . rw [qao h0]
      have:=ih (n:=n / 2) (by rw [Nat.pow_succ]at h;omega)
      omega
theorem X8(l:List Nat)(m:Nat):val l=val (l.take m)+4294967296 ^ m*val (l.drop m):=by
 by_cases h:m<=l.length
 .conv=>lhs;rw [<-List.take_append_drop m l,vd,List.length_take,Nat.min_eq_left h]
 .rw [List.take_of_length_le (by omega),List.drop_of_length_le (by omega)];simp [val]
theorem WF(l:List Nat)(m:Nat):val (l.drop m)=l.getD m 0+4294967296*val (l.drop (m+1)):=by
 by_cases h:m<l.length
 .have:=QS l (n:=m+1) (by omega) (by omega)
  exact this
 .rw [List.drop_of_length_le (by omega),List.drop_of_length_le (by omega),List.getD_eq_getElem?_getD,List.getElem?_eq_none (by omega)];simp [val]
theorem Yau{l:List Nat}(h:WL l)(m:Nat):val (l.take m)<4294967296 ^ m:=
 Nat.lt_of_lt_of_le (Up (VB h m)) (Nat.pow_le_pow_right (by omega) (by rw [List.length_take];omega))
theorem wbx{x y:List Nat}{m:Nat}(hx:WL x)(hd:val (x.drop (m+1))=val (y.drop (m+1)))(h:x.getD m 0<y.getD m 0):val x<val y:=by
 have h1:=X8 x m;have h2:=X8 y m;have h3:=Yau hx m;rw [WF,hd]at h1;rw [WF]at h2;generalize 4294967296 ^ m=p at *
 have:p*(x.getD m 0+4294967296*val (y.drop (m+1))+1)<=p*(y.getD m 0+4294967296*val (y.drop (m+1))):=Nat.mul_le_mul_left _ (by omega)
 rw [Nat.mul_add p _ 1]at this;omega
theorem zab{x y c:Nat}(hx:x<4294967296)(hy:y<4294967296)(hc:c<=1):∃s:Nat,((((4294967296+(x:Int)) % 18446744073709551616-(y:Int)) % 18446744073709551616-(c:Int)) % 18446744073709551616)=(s:Int)/\
  (1-(s:Int) / 4294967296) % 18446744073709551616=((1-s / 4294967296:Nat):Int)/\s % 4294967296+y+c=x+4294967296*(1-s / 4294967296)/\1-s / 4294967296<=1:=by
 exact⟨4294967296+x-y-c,by omega,by omega,by omega,by omega⟩
theorem jbl{V Q c xa ya a b u w B:Nat}(h:V+Q*c=xa+ya)(hs:u+B*w=a+b+c):V+Q*u+Q*B*w=xa+Q*a+(ya+Q*b):=by
 have:=congrArg (Q * ·) hs;simp only [Nat.mul_add]at this;rw [Nat.mul_assoc Q B w];omega
theorem qa2{o l post:List Nat}(h:o.length<=l.length):(o++(l.drop o.length++post)).length=l.length+post.length:=by simp;omega
theorem vao{o l post:List Nat}(h:o.length<=l.length):(o++(l.drop o.length++post)).take l.length=o++l.drop o.length:=by
 rw [<-List.append_assoc,List.take_append_of_le_length (by simp;omega),List.take_of_length_le (by simp;omega)]
theorem zaI(o l:List Nat)(k:Nat):(o++l.drop o.length).getD (o.length+k) 0=l.getD (o.length+k) 0:=by
 simp only [List.getD_eq_getElem?_getD];rw [List.getElem?_append_right (by omega),List.getElem?_drop,show o.length+(o.length+k-o.length)=o.length+k by omega]
theorem Yaa(o l:List Nat):(o++l.drop o.length).getD o.length 0=l.getD o.length 0:=zaI o l 0
theorem WaG{o l post:List Nat}(v:Nat)(h:o.length<l.length):(o++(l.drop o.length++post)).set o.length v=(o++[v])++(l.drop (o++[v]).length++post):=by
 have:=kar [] o l post v h;simpa using this
theorem ZbK{o l:List Nat}(h:o.length<=l.length):(o++l.drop o.length).length=l.length:=by simp;omega
theorem UbA{o l:List Nat}(v:Nat)(h:o.length<l.length):(o++l.drop o.length).set o.length v=(o++[v])++l.drop (o++[v]).length:=by
 have:=WaG (post:=[]) v h;simpa using this
theorem ZbF{o l:List Nat}(ho:WL o)(hl:WL l):WL (o++l.drop o.length):=uf.2 ⟨ho,ybD hl _⟩
theorem Jbp{a b:Nat}(ha:a<4294967296)(hb:b<4294967296):(a / 2 ||| b*2147483648 % 18446744073709551616) % 4294967296=(a+4294967296*b) / 2 ^ 1 % 4294967296:=by
 have:=Nat.two_pow_add_eq_or_of_lt (i:=31) (b:=a / 2) (by omega) b
 rw [Nat.mod_eq_of_lt (show b*2147483648<18446744073709551616 by omega),Nat.or_comm,show b*2147483648=2 ^ 31*b by omega,<-this]
 omega
theorem xa8{l post:List Nat}{i:Nat}(h:i<l.length):(l++post).getD i 0=l.getD i 0:=by
 simp only [List.getD_eq_getElem?_getD];rw [List.getElem?_append_left h]
theorem Zo{a:Nat}(h:a≠0):0<(digs a).length:=by rw [yu h];simp
theorem xz{a:Nat}(h:a≠0)(p:List Nat):(digs a++p).getD 0 0=a % 4294967296:=by rw [yu h];rfl
theorem zB{a:Nat}:(digs a).length=0↔a=0:=by rw [List.length_eq_zero_iff,Yh]
theorem vbS{a b k g:Nat}(ha:a % 2=0)(hb:b % 2=0)(h:Nat.gcd a b*2 ^ k=g):Nat.gcd (a / 2) (b / 2)*2 ^ (k+1)=g:=by
 obtain⟨a',rfl⟩:∃a',a=2*a':=⟨a / 2,by omega⟩
 obtain⟨b',rfl⟩:∃b',b=2*b':=⟨b / 2,by omega⟩
 rw [Nat.gcd_mul_left]at h;rw [Nat.mul_div_cancel_left _ (by omega),Nat.mul_div_cancel_left _ (by omega),Nat.pow_succ,<-h]
 rw [Nat.mul_comm (2 ^ k) 2,<-Nat.mul_assoc,Nat.mul_comm _ 2]
theorem Qbk{a b:Nat}(ha:a % 2=0)(hb:b % 2≠0):Nat.gcd (a / 2) b=Nat.gcd a b:=by
 obtain⟨a',rfl⟩:∃a',a=2*a':=⟨a / 2,by omega⟩
 rw [Nat.mul_div_cancel_left _ (by omega)]
 have:Nat.Coprime 2 b:=by
  rw [Nat.coprime_iff_gcd_eq_one,Nat.gcd_rec,show b % 2=1 by omega];rfl
 exact(Nat.Coprime.gcd_mul_left_cancel a' this).symm
theorem ubz{a b:Nat}(ha:a % 2≠0)(hb:b % 2=0):Nat.gcd a (b / 2)=Nat.gcd a b:=by
 rw [Nat.gcd_comm a,Nat.gcd_comm a];exact Qbk hb ha
theorem Q8{a b:Nat}(h:b<=a):Nat.gcd (a-b) b=Nat.gcd a b:=Nat.gcd_sub_self_left h
theorem vbB{k n:Nat}(h:2 ^ k<=n){s:Nat}(hn:n<4294967296 ^ s):k<32*s:=by
 have e:(4294967296:Nat) ^ s=2 ^ (32*s):=by rw [Nat.pow_mul]
 rw [e]at hn;exact(Nat.pow_lt_pow_iff_right (by omega)).1 (Nat.lt_of_le_of_lt h hn)
theorem kO{a b:Nat}:ordN a b<0↔a<b:=by unfold ordN;split <;> (try split) <;> omega
theorem kbD{x:List Nat}(hx:WL x)(h:x.length≠0):val x<2 ^ (32*(x.length-1)+bln (x.getD (x.length-1) 0)):=by
 have h1:=X8 x (x.length-1);have h2:=WF x (x.length-1);rw [show x.length-1+1=x.length by omega,List.drop_length]at h2
 have h3:=Yau hx (x.length-1);have h4:=JbV (x.getD (x.length-1) 0);have e:(4294967296:Nat) ^ (x.length-1)=2 ^ (32*(x.length-1)):=by rw [Nat.pow_mul]
 rw [h2,show val []=0 from rfl,Nat.mul_zero,Nat.add_zero]at h1;rw [Nat.pow_add,<-e];generalize 4294967296 ^ (x.length-1)=p at *
 generalize 2 ^ bln (x.getD (x.length-1) 0)=q at *
 have:p*(x.getD (x.length-1) 0+1)<=p*q:=Nat.mul_le_mul_left _ h4;rw [Nat.mul_add,Nat.mul_one]at this;omega
theorem digit(x:List Nat){m:Nat}(hx:WL x):val x / 4294967296 ^ m=x.getD m 0+4294967296*val (x.drop (m+1)):=by
 rw [X8 x m,WF,Nat.add_mul_div_left _ _ (Nat.pow_pos (by omega)),Nat.div_eq_of_lt (Yau hx m),Nat.zero_add]
theorem QR(i:Nat):(2:Nat) ^ i=4294967296 ^ (i / 32)*2 ^ (i % 32):=by
 have e:(4294967296:Nat) ^ (i / 32)=2 ^ (32*(i / 32)):=by rw [Nat.pow_mul]
 rw [e,<-Nat.pow_add,Nat.div_add_mod]
theorem WbW{x:List Nat}(hx:WL x)(i:Nat):x.getD (i / 32) 0 / 2 ^ (i % 32) % 2=val x / 2 ^ i % 2:=by
 rw [QR i,<-Nat.div_div_eq_div_mul,digit x hx];have hs:i % 32<32:=Nat.mod_lt _ (by omega)
 generalize i % 32=s at *
 generalize val (x.drop (i / 32+1))=r;have e:(4294967296:Nat)=2 ^ s*(2*2 ^ (31-s)):=by
  rw [Nat.mul_left_comm,<-Nat.pow_add,show s+(31-s)=31 by omega]
 rw [e,Nat.mul_assoc,Nat.add_mul_div_left _ _ (Nat.pow_pos (by omega)),Nat.mul_assoc,Nat.add_mul_mod_self_left]
theorem Uaw(v i:Nat):v / 2 ^ i=2*(v / 2 ^ (i+1))+v / 2 ^ i % 2:=by
 rw [Nat.pow_succ,<-Nat.div_div_eq_div_mul];omega
theorem zbW{a c:Nat}(hc:c<=1):a*2 % 4294967296 ||| c=a*2 % 4294967296+c:=by
 have:=Nat.two_pow_add_eq_or_of_lt (i:=1) (b:=c) (by omega) (a*2 % 4294967296 / 2)
 rw [show 2 ^ 1*(a*2 % 4294967296 / 2)=a*2 % 4294967296 by omega]at this
 exact this.symm
theorem YbG{a s:Nat}(hs:s<32)(h:a % 2 ^ (s+1)=0):a ||| 2 ^ s=a+2 ^ s:=by
 have:=Nat.two_pow_add_eq_or_of_lt (i:=s+1) (b:=2 ^ s) (Nat.pow_lt_pow_right (by omega) (by omega)) (a / 2 ^ (s+1))
 rw [Nat.mul_div_cancel' (Nat.dvd_of_mod_eq_zero h)]at this;exact this.symm
theorem Ybl{q:List Nat}(hq:WL q){i Q:Nat}(h:val q=Q*2 ^ (i+1)):q.getD (i / 32) 0 % 2 ^ (i % 32+1)=0:=by
 have hs:i % 32<32:=Nat.mod_lt _ (by omega)
 have h1:=digit q hq (m:=i / 32);have e1:(2:Nat) ^ (i+1)=4294967296 ^ (i / 32)*2 ^ (i % 32+1):=by rw [Nat.pow_succ,QR,Nat.pow_succ,Nat.mul_assoc]
 rw [h,e1,Nat.mul_left_comm,Nat.mul_div_cancel_left _ (Nat.pow_pos (by omega))]at h1
 generalize i % 32=s at *
 generalize val (q.drop (i / 32+1))=r at *
 have e2:(4294967296:Nat)=2 ^ (s+1)*2 ^ (31-s):=by
  rw [<-Nat.pow_add,show s+1+(31-s)=32 by omega]
 have:(q.getD (i / 32) 0+4294967296*r) % 2 ^ (s+1)=0:=by rw [<-h1];exact Nat.mul_mod_left _ _
 rw [e2,Nat.mul_assoc,Nat.add_mul_mod_self_left]at this;exact this
theorem Xbo{vo p c tr bit x:Nat}(h:vo+p*c=2*tr+bit)(hx:x<4294967296):vo+p*(x*2 % 4294967296+c)+p*4294967296*(x / 2147483648)=2*(tr+p*x)+bit:=by
 have e:x*2 % 4294967296+4294967296*(x / 2147483648)=2*x:=by omega
 have:=congrArg (p * ·) e;simp only [Nat.mul_add]at this ⊢;rw [Nat.mul_assoc p 4294967296];have e2:p*(2*x)=2*(p*x):=by rw [Nat.mul_left_comm]
 omega
theorem zbe{v y i q r bit:Nat}(hy:0<y)(hb:v / 2 ^ i % 2=bit)(hq:q=v / 2 ^ (i+1) / y*2 ^ (i+1))(hr:r=v / 2 ^ (i+1) % y)(h:y<=2*r+bit):q+2 ^ i=v / 2 ^ i / y*2 ^ i/\2*r+bit-y=v / 2 ^ i % y:=by
 have e:=Uaw v i;rw [hb]at e;have d:=Nat.div_add_mod (v / 2 ^ (i+1)) y;have hm:=Nat.mod_lt (v / 2 ^ (i+1)) hy;rw [<-hr]at d hm;generalize hQ:v / 2 ^ (i+1) / y=Q at *
 generalize v / 2 ^ (i+1)=X at *
 have hb1:bit<=1:=by omega
 have key:v / 2 ^ i=y*(2*Q+1)+(2*r+bit-y):=by
  have e2:y*(2*Q+1)=2*(y*Q)+y:=by rw [Nat.mul_add,Nat.mul_one,Nat.mul_left_comm y 2 Q]
  rw [e,<-d,e2];omega
 have hlt:2*r+bit-y<y:=by omega
 constructor
 .rw [key,Nat.mul_add_div hy,Nat.div_eq_of_lt hlt,Nat.add_zero,hq,Nat.pow_succ,Nat.add_mul,Nat.one_mul,Nat.mul_comm 2 Q,Nat.mul_assoc,Nat.mul_comm 2]
 .rw [key,Nat.mul_add_mod,Nat.mod_eq_of_lt hlt]
theorem Xa2{v y i q r bit:Nat}(hy:0<y)(hb:v / 2 ^ i % 2=bit)(hq:q=v / 2 ^ (i+1) / y*2 ^ (i+1))(hr:r=v / 2 ^ (i+1) % y)(h:2*r+bit<y):q=v / 2 ^ i / y*2 ^ i/\2*r+bit=v / 2 ^ i % y:=by
 have e:=Uaw v i;rw [hb]at e;have d:=Nat.div_add_mod (v / 2 ^ (i+1)) y;rw [<-hr]at d;generalize hQ:v / 2 ^ (i+1) / y=Q at *
 generalize v / 2 ^ (i+1)=X at *
 have key:v / 2 ^ i=y*(2*Q)+(2*r+bit):=by
  have e2:y*(2*Q)=2*(y*Q):=by rw [Nat.mul_left_comm y 2 Q]
  rw [e,<-d,e2];omega
 constructor
 .rw [key,Nat.mul_add_div hy,Nat.div_eq_of_lt h,Nat.add_zero,hq,Nat.pow_succ,Nat.mul_comm 2 Q,Nat.mul_assoc,Nat.mul_comm 2]
 .rw [key,Nat.mul_add_mod,Nat.mod_eq_of_lt h]
end Go.Num
namespace Go.Abs
open Go.Num
theorem share4{c1 c2 c3 p d1 d2 d3 q X L:Prop}(h1:c1)(h2:c2)(h3:c3)(k1:d1)(k2:d2)(k3:d3)(hx:p->q->X)(hl:¬p∨¬q->L):c1/\c2/\c3/\(p->d1/\d2/\d3/\(q->X)/\(¬q->L))/\(¬p->L):=
 ⟨h1,h2,h3,λhp=>⟨k1,k2,k3,hx hp,λhq=>hl (.inr hq)⟩,λhp=>hl (.inl hp)⟩
theorem Xo(K:AV->Prop)(a:Nat):arith K .and .u32 (a:Int) 1=(a<2 ^ IntKind.u32.bits/\intR K .u32 ((a % 2:Nat):Int)):=QaR K .u32 a rfl (by decide)
theorem yaf{h' : Nat->HB}{k v v' z:Nat}{b:Bool}{es:List (List C)}{l' : List Nat}{r:List (Nat×HB)}(e:es=l'.map wc):okH (mkH ((k,⟨v,some ⟨es,z,b⟩⟩)::r)) h' [(k,⟨v',some ⟨l'.map wc,z,b⟩⟩)]:=by
 subst e;exact qi rfl
theorem wbh{h h' : Nat->HB}{z:Nat}{b:Bool}{es:List (List C)}{l' : List Nat}(e:es=l'.map wc):okB h h' (some ⟨es,z,b⟩) (some ⟨l'.map wc,z,b⟩):=by
 subst e;exact Xb rfl
theorem Ubf(L:List Nat)(i s:Nat):(L.map wc).set i [C.lit (.int .u32 ((s:Int) % 4294967296))]=(L.set i (s % 4294967296)).map wc:=by
 rw [List.map_set];simp [wc]
def onWx(k:List Nat->Prop)(a:AV):Prop:=∃l,(a=.one (ws l)∨a=.one (.full (l.map wc))∨(a=.one .emp/\l=[]))/\WL l/\k l
@[congr] theorem Wb7{k:List Nat->Prop}{a a'}(h:a=a'):onWx k a=onWx k a':=by subst h;rfl
theorem yak(k:List Nat->Prop)(l:List Nat):onWx k (.one (.slice (l.map wc)))=(WL l/\k l):=by
 refine propext ⟨λ⟨x,h,h1,h2⟩=>?_,λh=>⟨l,.inl rfl,h⟩⟩;rcases h with h | h | h
 .have:=YB l x h;subst this;exact⟨h1,h2⟩
 .simp at h
 .simp at h
theorem Va3(k:List Nat->Prop)(l:List Nat):onWx k (.one (.full (l.map wc)))=(WL l/\k l):=by
 refine propext ⟨λ⟨x,h,h1,h2⟩=>?_,λh=>⟨l,.inr (.inl rfl),h⟩⟩;rcases h with h | h | h
 .simp [ws]at h
 .have:=kX (x:=l) (y:=x) (by simpa using h);subst this;exact⟨h1,h2⟩
 .simp at h
theorem qba(k:List Nat->Prop):onWx k (.one .emp)=k []:=by
 refine propext ⟨λ⟨x,h,h1,h2⟩=>?_,λh=>⟨[],.inr (.inr ⟨rfl,rfl⟩),Wd,h⟩⟩;rcases h with h | h | h
 .simp [ws]at h
 .simp at h
 .obtain⟨_,rfl⟩:=h;exact h2
attribute [go_sem,go_sem ↓] yak Va3 qba
theorem wbN{β:Type}{T:List Nat->(β->Prop)->Prop}(h:∀l,GoodT (T l)){a:AV}:GoodT λK=>onWx (λl=>T l K) a:=
 .of λK hx=>by
  obtain⟨l,ha,hw,hk⟩:=hx;rcases ha with ha | ha | ⟨ha,rfl⟩
  .have:(λK=>onWx (λl=>T l K) a)=λK=>WL l/\T l K:=funext λK=>by rw [ha];exact yak _ l
   rw [this];exact .and λ_=>h l
  .have:(λK=>onWx (λl=>T l K) a)=λK=>WL l/\T l K:=funext λK=>by rw [ha];exact Va3 _ l
   rw [this];exact .and λ_=>h l
  .have:(λK=>onWx (λl=>T l K) a)=T []:=funext λK=>by rw [ha];exact qba _
   rw [this];exact h []
def UA(l:List AV)(K:List (List C)->Prop):Prop:=
 match l with
 | [a]=>onWx (λl=>l.length<=68719476736/\K ((digs (val l)).map wc)) a
 | _=>False
theorem kaX a K:UA [a] K=(onWx (λl=>l.length<=68719476736/\K ((digs (val l)).map wc)) a):=propext Iff.rfl
@[congr] theorem Xb8{K}{l l'}(h:l=l'):UA l K=UA l' K:=by subst h;rfl
attribute [go_sem,go_sem ↓] kaX
theorem QaT:Good UA:=Wa λas=>by
 unfold UA;split
 .exact(wbN λ_=>(.and λ_=>(.ret _)))
 .exact .of λK hk=>hk.elim
def Uy(l:List AV)(K:AV->Prop):Prop:=
 match l with
 | [a,b]=>onWs (λx=>onWs (λy=>K (.one (.lit (.int .i64 (ordN (val x) (val y)))))) b) a
 | _=>False
theorem Qax a b K:Uy [a,b] K=(onWs (λx=>onWs (λy=>K (.one (.lit (.int .i64 (ordN (val x) (val y)))))) b) a):=propext Iff.rfl
@[congr] theorem yb3{K}{l l'}(h:l=l'):Uy l K=Uy l' K:=by subst h;rfl
attribute [go_sem,go_sem ↓] Qax
theorem YaS:Good Uy:=Wa λas=>by
 unfold Uy;split
 .exact(Zh λ_=>(Zh λ_=>(.ret _)))
 .exact .of λK hk=>hk.elim
def JD(l:List AV)(K:AV->Prop):Prop:=
 match l with
 | [a,b]=>onWs (λx=>onWs (λy=>x.length<=17179869184/\y.length<=17179869184/\K (.one (.slice ((digs (Nat.gcd (val x) (val y))).map wc)))) b) a
 | _=>False
theorem yaG a b K:JD [a,b] K=(onWs (λx=>onWs (λy=>x.length<=17179869184/\y.length<=17179869184/\K (.one (.slice ((digs (Nat.gcd (val x) (val y))).map wc)))) b) a):=propext Iff.rfl
@[congr] theorem Jb2{K}{l l'}(h:l=l'):JD l K=JD l' K:=by subst h;rfl
attribute [go_sem,go_sem ↓] yaG
theorem vaP:Good JD:=Wa λas=>by
 unfold JD;split
 .exact(Zh λ_=>(Zh λ_=>(.and λ_=>(.and λ_=>(.ret _)))))
 .exact .of λK hk=>hk.elim
def xw(l:List AV)(K:AV->Prop):Prop:=
 match l with
 | [a]=>onWs (λx=>x.length<=68719476736/\K (.one (.lit (.int .i64 ((if x.length=0 then 0 else 32*(x.length-1)+bln (x.getD (x.length-1) 0):Nat):Int))))) a
 | _=>False
theorem Uaf a K:xw [a] K=(onWs (λx=>x.length<=68719476736/\K (.one (.lit (.int .i64 ((if x.length=0 then 0 else 32*(x.length-1)+bln (x.getD (x.length-1) 0):Nat):Int))))) a):=propext Iff.rfl
@[congr] theorem Jb1{K}{l l'}(h:l=l'):xw l K=xw l' K:=by subst h;rfl
attribute [go_sem,go_sem ↓] Uaf
theorem wat:Good xw:=Wa λas=>by
 unfold xw;split
 .exact(Zh λ_=>(.and λ_=>(.ret _)))
 .exact .of λK hk=>hk.elim
def yN(l:List AV)(K:AV->Prop):Prop:=
 match l with
 | [a,b]=>onW (λv=>onW (λw=>zs (zv v)<=17179869184/\zs (zv w)<=17179869184/\K (.agg [zb (zcan (zv v-zv w)),zm (zcan (zv v-zv w))])) b) a
 | _=>False
theorem Ja5 a b K:yN [a,b] K=(onW (λv=>onW (λw=>zs (zv v)<=17179869184/\zs (zv w)<=17179869184/\K (.agg [zb (zcan (zv v-zv w)),zm (zcan (zv v-zv w))])) b) a):=propext Iff.rfl
@[congr] theorem Wcc{K}{l l'}(h:l=l'):yN l K=yN l' K:=by subst h;rfl
attribute [go_sem,go_sem ↓] Ja5
theorem va0:Good yN:=Wa λas=>by
 unfold yN;split
 .exact(qq λ_=>(qq λ_=>(.and λ_=>(.and λ_=>(.ret _)))))
 .exact .of λK hk=>hk.elim
def Uw(l:List AV)(K:AV->Prop):Prop:=
 match l with
 | [a,b]=>onW (λv=>onW (λw=>zs (zv v)<=17179869184/\zs (zv w)<=17179869184/\zs (zv v-zv w)<=17179869184/\K (.one (.lit (.int .i64 (ordI (zv v) (zv w)))))) b) a
 | _=>False
theorem kak a b K:Uw [a,b] K=(onW (λv=>onW (λw=>zs (zv v)<=17179869184/\zs (zv w)<=17179869184/\zs (zv v-zv w)<=17179869184/\K (.one (.lit (.int .i64 (ordI (zv v) (zv w)))))) b) a):=propext Iff.rfl
@[congr] theorem UbZ{K}{l l'}(h:l=l'):Uw l K=Uw l' K:=by subst h;rfl
attribute [go_sem,go_sem ↓] kak
theorem Jaq:Good Uw:=Wa λas=>by
 unfold Uw;split
 .exact(qq λ_=>(qq λ_=>(.and λ_=>(.and λ_=>(.and λ_=>(.ret _))))))
 .exact .of λK hk=>hk.elim
def Yw(l:List AV)(K:AV->Prop):Prop:=
 match l with
 | [a,b]=>onW (λv=>onW (λw=>zs (zv v)<=17179869184/\zs (zv w)<=17179869184/\zv w≠0/\K (.tup [.agg [zb (zcan (zv v / zv w)),zm (zcan (zv v / zv w))],.agg [zb (zcan (zv v % zv w)),zm (zcan (zv v % zv w))],.one (.lit (.int .i64 0))])) b) a
 | _=>False
theorem xag a b K:Yw [a,b] K=(onW (λv=>onW (λw=>zs (zv v)<=17179869184/\zs (zv w)<=17179869184/\zv w≠0/\K (.tup [.agg [zb (zcan (zv v / zv w)),zm (zcan (zv v / zv w))],.agg [zb (zcan (zv v % zv w)),zm (zcan (zv v % zv w))],.one (.lit (.int .i64 0))])) b) a):=propext Iff.rfl
@[congr] theorem qb0{K}{l l'}(h:l=l'):Yw l K=Yw l' K:=by subst h;rfl
attribute [go_sem,go_sem ↓] xag
theorem zar:Good Yw:=Wa λas=>by
 unfold Yw;split
 .exact(qq λ_=>(qq λ_=>(.and λ_=>(.and λ_=>(.and λ_=>(.ret _))))))
 .exact .of λK hk=>hk.elim
def qau(d:Option Nat)(args:List AV)(h:Nat->HB)(K:AV->(Nat->HB)->Prop):Prop:=
 match args with
 | [.one (.own r ver 1 0 len)]=>∃l post,len=l.length/\h r=⟨ver,some ⟨(l++post).map wc,1,true⟩⟩/\WL l/\len<=68719476736/\
   ∀post',K (.one (.own r ver 1 0 (digs (val l)).length)) (upd h r ⟨ver,some ⟨(digs (val l)++post').map wc,1,true⟩⟩)
 | _=>False
@[congr] theorem yci {d:Option Nat} {l l' : List AV} {h h' : Nat->HB} {K:AV->(Nat->HB)->Prop} (e1:l=l') (e2:h=h'):qau d l h K=qau d l' h' K:=by subst e1;subst e2;rfl
def uv(d:Option Nat)(args:List AV)(h:Nat->HB)(K:AV->(Nat->HB)->Prop):Prop:=
 match args with
 | [.one (.own r ver 1 0 len)]=>∃l post,len=l.length/\h r=⟨ver,some ⟨(l++post).map wc,1,true⟩⟩/\WL l/\len<=68719476736/\
   ∀post',K (.one (.own r ver 1 0 (digs (val l / 2)).length)) (upd h r ⟨ver,some ⟨(digs (val l / 2)++post').map wc,1,true⟩⟩)
 | _=>False
@[congr] theorem kb3 {d:Option Nat} {l l' : List AV} {h h' : Nat->HB} {K:AV->(Nat->HB)->Prop} (e1:l=l') (e2:h=h'):uv d l h K=uv d l' h' K:=by subst e1;subst e2;rfl
def wC(d:Option Nat)(args:List AV)(h:Nat->HB)(K:AV->(Nat->HB)->Prop):Prop:=
 match args with
 | [.one (.own r ver 1 0 len),.one (.own r2 ver2 1 0 len2)]=>∃l post y posty,r≠r2/\len=l.length/\h r=⟨ver,some ⟨(l++post).map wc,1,true⟩⟩/\WL l/\len<=68719476736/\
   len2=y.length/\h r2=⟨ver2,some ⟨(y++posty).map wc,1,true⟩⟩/\WL y/\val y<=val l/\
   K (.tup []) (upd (upd h r2 ⟨ver2,some ⟨(y++posty).map wc,1,true⟩⟩) r ⟨ver,some ⟨(dig l.length (val l-val y)++post).map wc,1,true⟩⟩)
 | [.one (.own r ver 1 0 len),b]=>onWs (λy=>∃l post,len=l.length/\h r=⟨ver,some ⟨(l++post).map wc,1,true⟩⟩/\WL l/\len<=68719476736/\val y<=val l/\
   K (.tup []) (upd h r ⟨ver,some ⟨(dig l.length (val l-val y)++post).map wc,1,true⟩⟩)) b
 | _=>False
@[congr] theorem jb8 {d:Option Nat} {l l' : List AV} {h h' : Nat->HB} {K:AV->(Nat->HB)->Prop} (e1:l=l') (e2:h=h'):wC d l h K=wC d l' h' K:=by subst e1;subst e2;rfl
end Go.Abs
end
section
namespace Go.Abs
open Go.Num
variable {P:Program} {Γ:Nat->Spec}
def wi(f0 f1 f2 f3:Nat):AC:=(.o [.K 1 3 0,.m 2 .fa] [1] (.f (.o [.A 3 1 1,.F 4 1 3,.Z 5 4,.I 6 .eql 5 0,.M 7 6,.T 8 7 true 2 1,.U 9 7 true 1 false 8,.w 10 7 true (.len (.t 9)),.w 11 7 true (.bin .eql (.t 10) (.i 0)),.P 12 7 11] [1,12] (.cond (.t 12) (.seq (.p [.A 13 0 1,.F 14 1 13,.u 15 (.un .not (.t 14)),.M 2 15]) .ret) .skip)) [1] (.seq (.p [.A 16 1 1,.F 17 1 16,.H 18 f0 17,.M 19 18,.T 20 19 true 2 1,.U 21 19 true 1 false 20,.W 22 19 true f0 21,.P 23 19 22,.M 24 23,.T 25 24 true 1 1,.U 26 24 true 1 false 25,.w 27 24 true (.build [.z [.z],.x 1 (.t 26)]),.T 28 24 true 2 1,.U 29 24 true 1 false 28,.w 30 24 true (.build [.z [.z],.x 1 (.t 29)]),.Y 31 24 true f1 27 30,.w 32 24 true (.call f2 []),.Y 33 24 true f3 31 32,.w 34 24 true (.bin .eql (.t 33) (.i 0)),.P 35 24 34,.M 2 35]) .ret)))
def Wi(f0 f1:Nat):AC:=(.o [.K 1 3 0,.G 2 [.z,.emp],.G 3 [.z,.emp]] [1,2,3] (.f (.o [.L 4 3 1,.H 5 f0 4,.u 6 (.un .not (.t 5)),.M 7 6,.T 8 7 false 1 1,.U 9 7 false 1 false 8,.w 10 7 false (.len (.t 9)),.w 11 7 false (.bin .eql (.t 10) (.i 0)),.Q 12 7 11] [1,2,3,12] (.cond (.t 12) (.seq (.p [.u 13 (.build [.z [.z,.emp]]),.u 14 (.call f1 []),.S 2 2 13,.S 2 3 14]) .ret) .skip)) [1,2,3] (.seq (.y [.A 15 0 1,.u 16 (.ld (some 1) 1 false (.t 15)),.A 17 1 1,.u 18 (.ld (some 1) 1 false (.t 17)),.u 19 (.build [.x 1 (.t 16),.x 1 (.t 18)]),.A 20 2 1,.u 21 (.ld (some 1) 1 false (.t 20)),.u 22 (.build [.z [.z],.x 1 (.t 21)]),.n (.st (some 2) 2 (.t 2) (.t 19)),.n (.st (some 3) 2 (.t 3) (.t 22))]) .ret)))
def wj(f0 f1 f2 f3:Nat):AC:=(.o [.K 2 2 0,.K 3 2 1,.G 4 [.z,.emp,.emp]] [2,3,4] (.f (.o [.L 12 2 2,.H 13 f0 12,.I 14 .eql 13 0] [2,3,4,14] (.cond (.t 14) (.seq (.p [.u 15 (.build [.z [.z,.emp,.emp]]),.S 3 4 15]) .ret) .skip)) [2,3,4] (.f (.o [.L 16 2 3,.H 17 f0 16,.I 18 .lss 17 0] [2,3,4,18] (.cond (.t 18) (.y [.L 19 2 2,.H 20 f1 19,.L 21 2 3,.H 22 f1 21,.S 2 2 20,.S 2 3 22]) .skip)) [2,3,4] (.o [.L 23 2 2,.L 24 2 3,.D 25 f2 23 24,.G 5 [.z,.emp],.S 2 5 25] [2,3,4,5] (.o [.L 27 2 2,.L 28 2 5,.D 29 f3 27 28,.M 26 29,.X 30 0 26,.X 31 1 26,.X 32 2 26,.G 6 [.z,.emp],.G 7 [.z,.emp],.S 2 6 30,.S 2 7 31,.M 8 32] [3,4,5,6] (.o [.L 34 2 3,.L 35 2 5,.D 36 f3 34 35,.M 33 36,.X 37 0 33,.X 38 1 33,.X 39 2 33,.G 9 [.z,.emp],.G 10 [.z,.emp],.S 2 9 37,.S 2 10 38,.M 11 39] [4,6,9] (.seq (.p [.A 40 0 6,.F 41 1 40,.A 42 1 6,.F 43 1 42,.A 44 1 9,.F 45 1 44,.u 46 (.build [.x 1 (.t 41),.x 1 (.t 43),.x 1 (.t 45)]),.S 3 4 46]) .ret)))))))
def Zk(f0 f1:Nat):AC:=(.o [.K 2 2 0,.K 3 2 1,.G 4 [.z,.emp,.emp],.N 5 0] [2,3,4] (.f (.o [.L 6 2 3,.H 7 f0 6,.I 8 .eql 7 0] [2,3,4,8] (.cond (.t 8) (.seq (.p [.u 9 (.build [.z [.z,.emp,.emp]]),.S 3 4 9,.N 5 8]) .ret) .skip)) [2,3,4] (.seq (.p [.L 10 2 2,.L 11 2 3,.D 12 f1 10 11,.S 3 4 12,.N 5 0]) .ret)))
def Qj:AC:=(.o [.m 2 .fa] [0] (.seq (.p [.M 3 0,.Z 4 3,.I 5 .gtr 4 0,.M 6 5,.V 7 6 true 0,.V 8 6 true 0,.w 9 6 true (.len (.t 8)),.w 10 6 true (.bin .sub (.t 9) (.i 1)),.w 11 6 true (.idx 1 (.t 7) (.t 10)),.U 12 6 true 1 false 11,.w 13 6 true (.bin .neq (.t 12) (.c (.one (.lit (.int .u32 0))))),.P 14 6 13,.M 2 14]) .ret))
theorem vQ{n d N D:Int}{g:Nat}(hd:d≠0)(hn:n≠0)(hN:N=d.sign*n)(hD:0<=D)(e2:D.natAbs=d.natAbs)(eg:g=Int.gcd n d) :
  AV.agg [zb (zcan (N / (g:Int))),zm (zcan (N / (g:Int))),zm (zcan (D / (g:Int)))]=.agg [cb (rcan (Rat.divInt n d)),cn (rcan (Rat.divInt n d)),cd (rcan (Rat.divInt n d))]:=by
 obtain⟨D',rfl⟩:=Int.eq_ofNat_of_zero_le hD;simp only [Int.natAbs_natCast]at e2;subst e2 eg hN;have hg:0<Int.gcd n d:=Int.gcd_pos_of_ne_zero_left _ hn;rw [UaO,yaM,xaO,jS hd hn,qaO,qaO,YbC];have hdv:((Int.gcd n d:Nat):Int) ∣ d.sign*n:=Int.dvd_mul_of_dvd_right (Int.gcd_dvd_left _ _);obtain⟨k,hk⟩:=hdv;have hs:(d.sign*n).natAbs=n.natAbs:=by
  rw [Int.natAbs_mul,Int.natAbs_sign_of_ne_zero hd,Nat.one_mul]
 have e:(d.sign*n / ((Int.gcd n d:Nat):Int))=k:=by rw [hk,Int.mul_ediv_cancel_left _ (by omega)]
 rw [e,<-Int.natCast_ediv];simp only [zcan,Int.natAbs_natCast];have hk2:k.natAbs=n.natAbs / Int.gcd n d:=by
  rw [<-hs,hk,Int.natAbs_mul];simp only [Int.natAbs_natCast];rw [Nat.mul_div_cancel_left _ hg]
 have:decide (k<0)=decide (d.sign*n<0):=by
  rw [decide_eq_decide,hk];constructor
  .intro h;exact Int.mul_neg_of_pos_of_neg (by omega) h
  .intro h;rcases Int.lt_or_le k 0 with h' | h'
   .exact h'
   .have:=Int.mul_nonneg (show(0:Int)<=((Int.gcd n d:Nat):Int) by omega) h';omega
 rw [hk2,this]
theorem kU(hΓ:Xa P Γ){f:Nat}(hc:check P f=some (15,Qj.strip,[.tmp 2])):ua P f (.dat true yx):=by
 refine ka hc qas hΓ (λargs K hcl hfi hG=>?_);match args,hG with
 | [a],hG=>
  obtain⟨l,rfl,hl,hK⟩:=hG;refine⟨by simp,?_⟩
  simp only [go_sem,Qj];intro _;refine⟨λh _=>⟨by omega,by omega,by omega,?_⟩,λh=>?_⟩
  .have hne:l≠[]:=λe=>by rw [e]at h;simp at h
   rw [show((l.length:Int)-1).toNat=l.length-1 by omega]
   have e:(!decide (l.getD (l.length-1) 0=0))=decide (l≠[]/\NZ l):=by
    rw [<-decide_not,decide_eq_decide];unfold NZ;rw [List.getLast?_eq_getElem?,List.getElem?_eq_getElem (by omega),List.getD_eq_getElem?_getD,List.getElem?_eq_getElem (by omega)]
    simp [hne]
   rw [e];exact hK
  .have hne:l=[]:=List.eq_nil_of_length_eq_zero (by omega)
   rw [decide_eq_false (λe=>e.1 hne)]at hK;exact hK
theorem uU(hΓ:Xa P Γ){f fv fg fo fc:Nat}(hv:Γ fv=.dat true yx)(hg:Γ fg=.dat false yA)(ho:Γ fo=.dat false vv)(hc' : Γ fc=.dat true Uw)(hc:check P f=some (36,(wi fv fg fo fc).strip,[.tmp 2])):ua P f (.dat true qf):=by
 refine ka hc VQ hΓ (λargs K hcl hfi hG=>?_);match args,hG with
 | [a],hG=>
  obtain⟨x,rfl,hx,hl,hK⟩:=hG;refine⟨by simp,?_⟩
  simp only [go_sem,wi,hv,hg,ho,hc',UaO,yaM,xaO];have hl1:x.2.1.length<=4294967296:=Nat.le_trans (Nat.le_max_left _ _) hl;have hl2:x.2.2.length<=4294967296:=Nat.le_trans (Nat.le_max_right _ _) hl;have e0:∀{l:List Nat},¬l.length=0->l≠[]:=λh e=>h (by rw [e];rfl)
  have key:¬(x.2.1=[]/\x.2.2=[])->WL x.2.1/\(x.2.1≠[]/\NZ x.2.1->WL x.2.2/\(x.2.2≠[]/\NZ x.2.2->WL x.2.1/\WL x.2.2/\zs (zv (false,x.2.1))<=17179869184/\zs (zv (false,x.2.2))<=17179869184/\
    zs (((zv (false,x.2.1)).gcd (zv (false,x.2.2)):Nat):Int)<=17179869184/\zs 1<=17179869184/\zs ((((zv (false,x.2.1)).gcd (zv (false,x.2.2)):Nat):Int)-1)<=17179869184/\
    K (AV.one (C.lit (Value.bool (decide (ordI (((zv (false,x.2.1)).gcd (zv (false,x.2.2)):Nat):Int) 1=0))))))/\(¬(x.2.2≠[]/\NZ x.2.2)->K (AV.one (C.lit (Value.bool false)))))/\(¬(x.2.1≠[]/\NZ x.2.1)->K (AV.one (C.lit (Value.bool false)))):=by
   intro hnd;unfold vldR at hK;rw [if_neg hnd]at hK;refine⟨hx.1,λh1=>⟨hx.2,λh2=>?_,λh2=>?_⟩,λh1=>?_⟩
   .have s2:zs (zv (false,x.2.2))<=4294967296:=by rw [zv_f h2.2,wal,Zf hx.2 h2.2];exact hl2
    have hne:zv (false,x.2.2)≠0:=by
     rw [zv_f h2.2];have:=xd h2.2 h2.1;omega
    have s3:=UaT (v:=zv (false,x.2.1)) hne s2;have s4:zs 1<=2:=jad (by decide)
    have s5:=yQ ((((zv (false,x.2.1)).gcd (zv (false,x.2.2)):Nat):Int)) (-1);rw [kad,<-Int.sub_eq_add_neg]at s5;refine⟨hx.1,hx.2,?_,by omega,by omega,by omega,by omega,?_⟩
    .rw [zv_f h1.2,wal,Zf hx.1 h1.2];omega
    .rw [zv_f h1.2,zv_f h2.2];have e:decide (ordI (((((val x.2.1:Nat):Int)).gcd ((val x.2.2:Nat):Int):Nat):Int) 1=0)=decide (x.2.1≠[]/\x.2.2≠[]/\NZ x.2.1/\NZ x.2.2/\Nat.gcd (val x.2.1) (val x.2.2)=1):=by
      rw [decide_eq_decide,Qai,Int.gcd_natCast_natCast];constructor
      .intro h;exact⟨h1.1,h2.1,h1.2,h2.2,by omega⟩
      .rintro⟨_,_,_,_,h⟩;omega
     rw [e];exact hK
   .rw [decide_eq_false (λh=>h2 ⟨h.2.1,h.2.2.2.1⟩)]at hK;exact hK
   .rw [decide_eq_false (λh=>h1 ⟨h.1,h.2.2.1⟩)]at hK;exact hK
  refine λ_=>⟨λhn _=>⟨λhd=>?_,λhd=>key (λh=>e0 hd h.2)⟩,λhn=>key (λh=>e0 hn h.1)⟩;unfold vldR at hK;rw [if_pos ⟨List.eq_nil_of_length_eq_zero hn,List.eq_nil_of_length_eq_zero hd⟩]at hK;exact hK
theorem xU(hΓ:Xa P Γ){f fv fo:Nat}(hv:Γ fv=.dat true qf)(ho:Γ fo=.dat false vv)(hc:check P f=some (23,(Wi fv fo).strip,[.cell 2 2 true,.cell 3 2 true])):ua P f (.dat false kg):=by
 refine ka hc JP hΓ (λargs K hcl hfi hG=>?_);match args,hG with
 | [a],hG=>
  obtain⟨x,rfl,hx,hl,hK⟩:=hG;refine⟨by simp,?_⟩
  simp only [go_sem,Wi,hv,ho,UaO,yaM,xaO];have hl1:x.2.1.length<=4294967296:=Nat.le_trans (Nat.le_max_left _ _) hl;have hl2:x.2.2.length<=4294967296:=Nat.le_trans (Nat.le_max_right _ _) hl;have e0:(zcan 0)=(false,[]):=by simp [zcan,qc]
  have h0:rv x=0->K (AV.tup [AV.agg [C.lit (Value.bool false),C.slice []],AV.agg [zb (zcan 1),zm (zcan 1)]]):=by
   intro h;rw [h]at hK;have e1:((0:Rat).num)=0:=rfl;have e2:((0:Rat).den:Int)=1:=rfl;rw [e1,e2,e0]at hK;exact hK
  refine⟨hx,hl,λhv _=>⟨λhn=>h0 ?_,λhn=>?_⟩,λhv=>h0 (Var hv)⟩
  .unfold rv;rw [if_pos hv,List.eq_nil_of_length_eq_zero hn];simp [val,sg]
  .obtain⟨p1,p2,p3,p4,p5,p6⟩:=Qac hx hv (λe=>hn (by rw [e];rfl))
   have hn0:=xd p4 (λe=>hn (by rw [e];rfl))
   rw [p1,p2]at hK;have e1:zcan (sg x.1 (val x.2.1))=(x.1,x.2.1):=by
    rw [<-QZ,Zf hx.1 p4];have:decide (0<x.2.1.length)=true:=by simp only [decide_eq_true_eq];omega
    rw [this,Bool.and_true]
   have e2:zcan ((val x.2.2:Nat):Int)=(false,x.2.2):=by
    have:=QZ false (val x.2.2);rw [Zf hx.2 p5,Bool.false_and]at this;exact this.symm
   rw [e1,e2]at hK;exact hK
theorem Vac(hΓ:Xa P Γ){f fs fn fg fd:Nat}(hs:Γ fs=.dat true zk)(hn:Γ fn=.dat false VC)(hg:Γ fg=.dat false yA)(hd:Γ fd=.dat false Yw)(hc:check P f=some (47,(wj fs fn fg fd).strip,[.cell 4 3 true])):ua P f (.dat false xn):=by
 refine ka hc zW hΓ (λargs K hcl hfi hG=>?_);match args,hG with
 | [a,b],hG=>
  obtain⟨v,rfl,hv,w,rfl,hw,hz,hz',h0,hK⟩:=hG;refine⟨by simp,?_⟩
  simp only [go_sem,wj,hs,hn,hg,hd,hv,hw];generalize zv v=n at *
  generalize zv w=d at *
  have hd0:=h0;refine⟨λh=>?_,λh=>?_⟩
  .rw [Int.sign_eq_zero_iff_zero.1 h,Rat.zero_divInt,ub]at hK;exact hK
  have hn0:n≠0:=λe=>h (by rw [e];rfl)
  have hg0:((Int.gcd n d:Nat):Int)≠0:=by
   have:=Int.gcd_pos_of_ne_zero_left d hn0;omega
  have hgz:zs ((Int.gcd n d:Nat):Int)<=17179869184:=UaT hd0 hz';simp only [Int.gcd_neg,Int.neg_gcd,kad,kbk];refine⟨λhdn=>⟨by omega,by omega,hz,hz',hz,hgz,hg0,hz',hgz,hg0,?_⟩,λhdn=>⟨hz,hz',hz,hgz,hg0,hz',hgz,hg0,?_⟩⟩
  .rw [vQ hd0 hn0 (by rw [Int.sign_eq_neg_one_of_neg hdn];omega) (by omega) (by omega) rfl];exact hK
  .rw [vQ hd0 hn0 (by rw [Int.sign_eq_one_of_pos (by omega)];omega) (by omega) (by omega) rfl];exact hK
end Go.Abs
end
section
namespace Go.Num
open Go.Abs
theorem rz_0:rz 0=0:=by unfold rz;rw [ub];rfl
theorem rz_1:rz 1<=2:=by
 have:=jaT 1;have h1:zs 1<=2:=jad (by decide)
 have e:((1:Int):Rat)=1:=rfl;rw [e]at this;omega
theorem Zc(p q:Rat):rz (p*q)<=rz p+rz q+2:=by
 rw [<-Uaj];have n1:=zP p;have n2:=zP q;have d1:=ZP p;have d2:=ZP q;have m1:=qt p.num q.num;have m2:=qt (p.den:Int) (q.den:Int);refine xP (by exact Int.mul_ne_zero (YC _) (YC _)) (by omega) (by omega)
theorem Zah{p q:Rat}(hq:q≠0):Rat.divInt (p.num*q.den) (p.den*q.num)=p / q:=by
 have hn:q.num≠0:=ua7 hq;have e1:(p.num:Rat) / (p.den:Rat)=p:=by have:=Rat.num_divInt_den p;rw [Rat.divInt_eq_div]at this;exact this
 have e2:(q.num:Rat) / (q.den:Rat)=q:=by have:=Rat.num_divInt_den q;rw [Rat.divInt_eq_div]at this;exact this
 have d1:(p.den:Rat)≠0:=by exact_mod_cast p.den_nz
 have d2:(q.den:Rat)≠0:=by exact_mod_cast q.den_nz
 have d3:(q.num:Rat)≠0:=by exact_mod_cast hn
 rw [Rat.divInt_eq_div];simp only [Rat.intCast_mul,Rat.intCast_natCast];have f1:(p.num:Rat)=p*(p.den:Rat):=by grind
 have f2:(q.num:Rat)=q*(q.den:Rat):=by grind
 rw [f1,f2];grind
theorem vY(p q:Rat):rz (p / q)<=rz p+rz q+2:=by
 by_cases hq:q=0
 .subst hq;rw [Rat.div_def,Rat.inv_zero,Rat.mul_zero,rz_0];omega
 .rw [<-Zah hq];have n1:=zP p;have n2:=zP q;have d1:=ZP p;have d2:=ZP q;have m1:=qt p.num (q.den:Int);have m2:=qt (p.den:Int) q.num;refine xP (by exact Int.mul_ne_zero (YC _) (ua7 hq)) (by omega) (by omega)
theorem Wbv(p q:Rat):Rat.divInt (p.num*q.den) (p.den*q.num)=p / q:=by
 by_cases hq:q=0
 .subst hq;rw [show(0:Rat).num=0 from rfl,Int.mul_zero,Rat.divInt_zero,Rat.div_def,Rat.inv_zero,Rat.mul_zero]
 .exact Zah hq
end Go.Num
namespace Go.Abs
open Go.Num
variable {P:Program} {Γ:Nat->Spec}
def rQ(q:Rat):AV:=.agg [cb (rcan q),cn (rcan q),cd (rcan q)]
theorem kaa(q:Rat):rQ q=.agg [cb (rcan q),cn (rcan q),cd (rcan q)]:=eq_of_heq (HEq.refl _)
attribute [go_sem,go_sem ↓] kaa
def jl(l:List AV)(K:AV->Prop):Prop:=
 match l with
 | [a,b]=>onR (λx=>onR (λy=>rl x<=4294967296/\rl y<=4294967296/\K (rQ (rv x*rv y))) b) a
 | _=>False
theorem Ya6 a b K:jl [a,b] K=(onR (λx=>onR (λy=>rl x<=4294967296/\rl y<=4294967296/\K (rQ (rv x*rv y))) b) a):=propext Iff.rfl
@[congr] theorem xce{K}{l l'}(h:l=l'):jl l K=jl l' K:=by subst h;rfl
attribute [go_sem,go_sem ↓] Ya6
theorem YaX:Good jl:=Wa λas=>by
 unfold jl;split
 .exact(Jj λ_=>(Jj λ_=>(.and λ_=>(.and λ_=>(.ret _)))))
 .exact .of λK hk=>hk.elim
def Jx(tE:Nat)(l:List AV)(K:AV->Prop):Prop:=
 match l with
 | [a,b]=>onW (λv=>onW (λw=>zs (zv v)<=17179869184/\zs (zv w)<=17179869184/\K (.tup [rQ (Rat.divInt (zv v) (zv w)),errV tE (if zv w=0 then 8 else 0)])) b) a
 | _=>False
theorem Xai tE a b K:Jx tE [a,b] K=(onW (λv=>onW (λw=>zs (zv v)<=17179869184/\zs (zv w)<=17179869184/\K (.tup [rQ (Rat.divInt (zv v) (zv w)),errV tE (if zv w=0 then 8 else 0)])) b) a):=propext Iff.rfl
@[congr] theorem zbR tE{K}{l l'}(h:l=l'):Jx tE l K=Jx tE l' K:=by subst h;rfl
attribute [go_sem,go_sem ↓] Xai
theorem Qaq(tE:Nat):Good (Jx tE):=Wa λas=>by
 unfold Jx;split
 .exact(qq λ_=>(qq λ_=>(.and λ_=>(.and λ_=>(.ret _)))))
 .exact .of λK hk=>hk.elim
def xB(tE:Nat)(l:List AV)(K:AV->Prop):Prop:=
 match l with
 | [a,b]=>onR (λx=>onR (λy=>rl x<=4294967296/\rl y<=4294967296/\K (.tup [rQ (rv x / rv y),errV tE (if rv y=0 then 8 else 0)])) b) a
 | _=>False
theorem WaC tE a b K:xB tE [a,b] K=(onR (λx=>onR (λy=>rl x<=4294967296/\rl y<=4294967296/\K (.tup [rQ (rv x / rv y),errV tE (if rv y=0 then 8 else 0)])) b) a):=propext Iff.rfl
@[congr] theorem Vb5 tE{K}{l l'}(h:l=l'):xB tE l K=xB tE l' K:=by subst h;rfl
attribute [go_sem,go_sem ↓] WaC
theorem jaO(tE:Nat):Good (xB tE):=Wa λas=>by
 unfold xB;split
 .exact(Jj λ_=>(Jj λ_=>(.and λ_=>(.and λ_=>(.ret _)))))
 .exact .of λK hk=>hk.elim
def xx(l:List AV)(K:AV->Prop):Prop:=
 match l with
 | [a,b]=>onW (λv=>onW (λw=>zs (zv v)<=17179869184/\zs (zv w)<=17179869184/\K (.tup [rQ (Rat.divInt (zv v) (zv w)),.one (.lit (.int .i64 (if zv w=0 then 8 else 0)))])) b) a
 | _=>False
theorem Yal a b K:xx [a,b] K=(onW (λv=>onW (λw=>zs (zv v)<=17179869184/\zs (zv w)<=17179869184/\K (.tup [rQ (Rat.divInt (zv v) (zv w)),.one (.lit (.int .i64 (if zv w=0 then 8 else 0)))])) b) a):=propext Iff.rfl
@[congr] theorem JbP{K}{l l'}(h:l=l'):xx l K=xx l' K:=by subst h;rfl
attribute [go_sem,go_sem ↓] Yal
theorem uan:Good xx:=Wa λas=>by
 unfold xx;split
 .exact(qq λ_=>(qq λ_=>(.and λ_=>(.and λ_=>(.ret _)))))
 .exact .of λK hk=>hk.elim
def UD(l:List AV)(K:AV->Prop):Prop:=
 match l with
 | [a,b]=>onR (λx=>onR (λy=>rl x<=1073741824/\rl y<=1073741824/\K (.tup [rQ (rv x / rv y),.one (.lit (.int .i64 (if rv y=0 then 8 else 0)))])) b) a
 | _=>False
theorem zaM a b K:UD [a,b] K=(onR (λx=>onR (λy=>rl x<=1073741824/\rl y<=1073741824/\K (.tup [rQ (rv x / rv y),.one (.lit (.int .i64 (if rv y=0 then 8 else 0)))])) b) a):=propext Iff.rfl
@[congr] theorem Ub1{K}{l l'}(h:l=l'):UD l K=UD l' K:=by subst h;rfl
attribute [go_sem,go_sem ↓] zaM
theorem JaO:Good UD:=Wa λas=>by
 unfold UD;split
 .exact(Jj λ_=>(Jj λ_=>(.and λ_=>(.and λ_=>(.ret _)))))
 .exact .of λK hk=>hk.elim
def jp(f0 f1 f2:Nat):AC:=(.o [.K 2 3 0,.K 3 3 1,.G 4 [.z,.emp,.emp]] [2,3,4] (.o [.L 10 3 2,.H 11 f0 10,.M 9 11,.X 12 0 9,.X 13 1 9,.G 5 [.z,.emp],.G 6 [.z,.emp],.S 2 5 12,.S 2 6 13] [3,4,5,6] (.o [.L 15 3 3,.H 16 f0 15,.M 14 16,.X 17 0 14,.X 18 1 14,.G 7 [.z,.emp],.G 8 [.z,.emp],.S 2 7 17,.S 2 8 18] [4,5,6,7,8] (.seq (.y [.L 19 2 5,.L 20 2 7,.D 21 f1 19 20,.L 22 2 6,.L 23 2 8,.D 24 f1 22 23,.D 25 f2 21 24,.S 3 4 25]) .ret))))
def Uu(f0 f1 f2:Nat):AC:=(.o [.K 2 3 0,.K 3 3 1,.G 4 [.z,.emp,.emp],.m 5 (.c (.one (.lit .nilIface)))] [2,3,4] (.o [.L 11 3 2,.H 12 f0 11,.M 10 12,.X 13 0 10,.X 14 1 10,.G 6 [.z,.emp],.G 7 [.z,.emp],.S 2 6 13,.S 2 7 14] [3,4,6,7] (.o [.L 16 3 3,.H 17 f0 16,.M 15 17,.X 18 0 15,.X 19 1 15,.G 8 [.z,.emp],.G 9 [.z,.emp],.S 2 8 18,.S 2 9 19] [4,6,7,8,9] (.seq (.y [.L 20 2 6,.L 21 2 9,.D 22 f1 20 21,.L 23 2 7,.L 24 2 8,.D 25 f1 23 24,.D 26 f2 22 25,.X 27 0 26,.X 28 1 26,.S 3 4 27,.M 5 28]) .ret))))
def Ul(f0 f1 f2:Nat):AC:=(.o [.K 2 3 0,.K 3 3 1,.G 4 [.z,.emp,.emp],.N 5 0] [2,3,4] (.o [.L 11 3 2,.H 12 f0 11,.M 10 12,.X 13 0 10,.X 14 1 10,.G 6 [.z,.emp],.G 7 [.z,.emp],.S 2 6 13,.S 2 7 14] [3,4,6,7] (.o [.L 16 3 3,.H 17 f0 16,.M 15 17,.X 18 0 15,.X 19 1 15,.G 8 [.z,.emp],.G 9 [.z,.emp],.S 2 8 18,.S 2 9 19] [4,6,7,8,9] (.seq (.y [.L 20 2 6,.L 21 2 9,.D 22 f1 20 21,.L 23 2 7,.L 24 2 8,.D 25 f1 23 24,.D 26 f2 22 25,.X 27 0 26,.X 28 1 26,.S 3 4 27,.M 5 28]) .ret))))
theorem ZV(hΓ:Xa P Γ){f fp fm ff:Nat}(hp:Γ fp=.dat false kg)(hm:Γ fm=.dat false kC)(hf:Γ ff=.dat false xn)(hc:check P f=some (26,(jp fp fm ff).strip,[.cell 4 3 true])):ua P f (.dat false jl):=by
 refine ka hc YaX hΓ (λargs K hcl hfi hG=>?_);match args,hG with
 | [a,b],hG=>
  obtain⟨x,rfl,hx,y,rfl,hy,hl,hl',hK⟩:=hG;refine⟨by simp,?_⟩
  simp only [go_sem,jp,hp,hm,hf,hx,hy];have n1:=wH hx;have d1:=uH hx;have n2:=wH hy;have d2:=uH hy;have m1:=qt (rv x).num (rv y).num;have m3:=qt ((rv x).den:Int) (rv y).den;rw [Int.natCast_mul,Uaj];exact⟨hl,hl',by omega,by omega,by omega,by omega,by omega,by omega,Int.mul_ne_zero (YC _) (YC _),hK⟩
theorem Vad(hΓ:Xa P Γ){f fs ff tE:Nat}(hs:Γ fs=.dat true zk)(hf:Γ ff=.dat false xn)(hc:check P f=some (14,(yt fs ff tE).strip,[.cell 4 3 true,.tmp 5])):ua P f (.dat false (Jx tE)):=by
 refine ka hc (Qaq tE) hΓ (λargs K hcl hfi hG=>?_);match args,hG with
 | [a,b],hG=>
  obtain⟨v,rfl,hv,w,rfl,hw,hz,hz',hK⟩:=hG;refine⟨by simp,?_⟩
  simp only [go_sem,yt,hs,hf,hv,hw];refine⟨λe=>?_,λe=>?_⟩
  .have h0:=Int.sign_eq_zero_iff_zero.1 e;rw [if_pos h0,h0,Rat.divInt_zero,Zd tE (by decide),kaa,ub]at hK
   exact hK
  .have h0:zv w≠0:=λh=>e (by rw [h];rfl)
   rw [if_neg h0,Qc]at hK;exact⟨hz,hz',h0,hK⟩
theorem Jau(hΓ:Xa P Γ){f fp fm ff tE:Nat}(hp:Γ fp=.dat false kg)(hm:Γ fm=.dat false kC)(hf:Γ ff=.dat false (Jx tE))(hc:check P f=some (29,(Uu fp fm ff).strip,[.cell 4 3 true,.tmp 5])):ua P f (.dat false (xB tE)):=by
 refine ka hc (jaO tE) hΓ (λargs K hcl hfi hG=>?_);match args,hG with
 | [a,b],hG=>
  obtain⟨x,rfl,hx,y,rfl,hy,hl,hl',hK⟩:=hG;refine⟨by simp,?_⟩
  simp only [go_sem,Uu,hp,hm,hf,hx,hy];have n1:=wH hx;have d1:=uH hx;have n2:=wH hy;have d2:=uH hy;have m1:=qt (rv x).num ((rv y).den:Int);have m3:=qt ((rv x).den:Int) (rv y).num;have e:((((rv x).den:Int)*(rv y).num=0))=(rv y=0):=propext ⟨λh=>by
   rcases Int.mul_eq_zero.1 h with h | h
   .exact absurd h (YC _)
   .exact Rat.num_eq_zero.1 h,λh=>by rw [h];exact Int.mul_zero _⟩
  simp only [e];rw [Wbv];exact⟨hl,hl',by omega,by omega,by omega,by omega,by omega,by omega,hK⟩
theorem jae(hΓ:Xa P Γ){f fs ff:Nat}(hs:Γ fs=.dat true zk)(hf:Γ ff=.dat false xn)(hc:check P f=some (13,(Zk fs ff).strip,[.cell 4 3 true,.tmp 5])):ua P f (.dat false xx):=by
 refine ka hc uan hΓ (λargs K hcl hfi hG=>?_);match args,hG with
 | [a,b],hG=>
  obtain⟨v,rfl,hv,w,rfl,hw,hz,hz',hK⟩:=hG;refine⟨by simp,?_⟩
  simp only [go_sem,Zk,hs,hf,hv,hw];refine⟨λe=>?_,λe=>?_⟩
  .have h0:=Int.sign_eq_zero_iff_zero.1 e;rw [if_pos h0,h0,Rat.divInt_zero,kaa,ub]at hK;exact hK
  .have h0:zv w≠0:=λh=>e (by rw [h];rfl)
   rw [if_neg h0]at hK;exact⟨hz,hz',h0,hK⟩
theorem vat(hΓ:Xa P Γ){f fp fm ff:Nat}(hp:Γ fp=.dat false kg)(hm:Γ fm=.dat false kC)(hf:Γ ff=.dat false xx)(hc:check P f=some (29,(Ul fp fm ff).strip,[.cell 4 3 true,.tmp 5])):ua P f (.dat false UD):=by
 refine ka hc JaO hΓ (λargs K hcl hfi hG=>?_);match args,hG with
 | [a,b],hG=>
  obtain⟨x,rfl,hx,y,rfl,hy,hl,hl',hK⟩:=hG;refine⟨by simp,?_⟩
  simp only [go_sem,Ul,hp,hm,hf,hx,hy];have n1:=wH hx;have d1:=uH hx;have n2:=wH hy;have d2:=uH hy;have m1:=qt (rv x).num ((rv y).den:Int);have m3:=qt ((rv x).den:Int) (rv y).num;have e:((((rv x).den:Int)*(rv y).num=0))=(rv y=0):=propext ⟨λh=>by
   rcases Int.mul_eq_zero.1 h with h | h
   .exact absurd h (YC _)
   .exact Rat.num_eq_zero.1 h,λh=>by rw [h];exact Int.mul_zero _⟩
  simp only [e];rw [Wbv];exact⟨by omega,by omega,by omega,by omega,by omega,by omega,by omega,by omega,hK⟩
end Go.Abs
end
section
namespace Go.Num
open Go.Abs
abbrev V2:=Rat×Rat
abbrev TnQ:=Rat×Bool
abbrev PsQ:=TnQ×V2
def tv(t:Tn):TnQ:=(rv t.1,t.2)
def pv(p:Ps):PsQ:=(tv p.1,av p.2)
def subQ(a b:V2):V2:=(a.1-b.1,a.2-b.2)
def addQ(a b:V2):V2:=(a.1+b.1,a.2+b.2)
def negQ(a:V2):V2:=(-a.1,-a.2)
def Je(a b:V2):Rat:=a.1*b.2-a.2*b.1
def sqQ(a:V2):Rat:=a.1*a.1+a.2*a.2
def cosQ(t:TnQ):Rat:=if t.2=true then -1 else (1-t.1*t.1) / (1+t.1*t.1)
def sinQ(t:TnQ):Rat:=if t.2=true then 0 else (t.1+t.1) / (1+t.1*t.1)
def rotQ(t:TnQ)(q:V2):V2:=(cosQ t*q.1-sinQ t*q.2,sinQ t*q.1+cosQ t*q.2)
def appQ(p:PsQ)(q:V2):V2:=addQ (rotQ p.1 q) p.2
def backQ(t:TnQ):TnQ:=(-t.1,t.2)
def invQ(p:PsQ):PsQ:=(backQ p.1,rotQ (backQ p.1) (negQ p.2))
def tchk(t:Tn):Nat:=if vldR t.1=true/\¬(t.2=true/\rv t.1≠0) then 0 else 2
def avld(a:Arc):Bool:=vldR a.1 && vldR a.2
def pvld(p:Ps):Bool:=decide (tchk p.1=0) && avld p.2
def zq(a:V2):Nat:=max (rz a.1) (rz a.2)
theorem WE(a b:V2):zq (subQ a b)<=zq a+zq b+2:=by
 have h1:=QG a.1 b.1;have h2:=QG a.2 b.2;unfold zq subQ;simp only;omega
theorem UbP(a b:V2):zq (addQ a b)<=zq a+zq b+2:=by
 have h1:=km a.1 b.1;have h2:=km a.2 b.2;unfold zq addQ;simp only;omega
theorem Xa6(a:V2):zq (negQ a)=zq a:=by unfold zq negQ;simp only [qA]
theorem uab(a b:V2):rz (Je a b)<=2*zq a+2*zq b+6:=by
 have h1:=Zc a.1 b.2;have h2:=Zc a.2 b.1;have h3:=QG (a.1*b.2) (a.2*b.1);unfold zq Je;omega
theorem wbo(a:V2):rz (sqQ a)<=4*zq a+6:=by
 have h1:=Zc a.1 a.1;have h2:=Zc a.2 a.2;have h3:=km (a.1*a.1) (a.2*a.2);unfold zq sqQ;omega
theorem zat:rz (-1)<=2:=by rw [show(-1:Rat) = -(1:Rat) from rfl,qA];exact rz_1
theorem xM(t:TnQ):rz (cosQ t)<=4*rz t.1+20:=by
 unfold cosQ;split
 .have:=zat;omega
 .have h0:=rz_1;have h1:=Zc t.1 t.1;have h2:=QG 1 (t.1*t.1);have h3:=km 1 (t.1*t.1);have h4:=vY (1-t.1*t.1) (1+t.1*t.1);omega
theorem XH(t:TnQ):rz (sinQ t)<=4*rz t.1+20:=by
 unfold sinQ;split
 .rw [rz_0];omega
 .have h0:=rz_1;have h1:=Zc t.1 t.1;have h2:=km t.1 t.1;have h3:=km 1 (t.1*t.1);have h4:=vY (t.1+t.1) (1+t.1*t.1);omega
theorem Ja8(t:TnQ)(q:V2):zq (rotQ t q)<=8*rz t.1+2*zq q+46:=by
 have c:=xM t;have s:=XH t;have h1:=Zc (cosQ t) q.1;have h2:=Zc (sinQ t) q.2;have h3:=Zc (sinQ t) q.1;have h4:=Zc (cosQ t) q.2;have h5:=QG (cosQ t*q.1) (sinQ t*q.2);have h6:=km (sinQ t*q.1) (cosQ t*q.2);unfold zq rotQ;simp only;omega
theorem vbT(p:PsQ)(q:V2):zq (appQ p q)<=8*rz p.1.1+2*zq q+zq p.2+48:=by
 have h1:=Ja8 p.1 q;have h2:=UbP (rotQ p.1 q) p.2;unfold appQ;omega
theorem ua6(t:Rat):0<=t*t:=by
 rcases(Rat.le_total:0<=t∨t<=0) with h | h
 .exact Rat.mul_nonneg h h
 .have h1:0<=-t:=by grind
  have h2:=Rat.mul_nonneg h1 h1;grind
theorem jbC(t:Rat):1+t*t≠0:=by
 have h:=ua6 t;intro e;grind
theorem kac{a:Arc}(h:WLA a):zq (av a)<=al a:=by
 have h1:=Vg h.1;have h2:=Vg h.2;unfold zq av al;simp only;omega
end Go.Num
end
section
namespace Go.Abs
open Go.Num
variable {P:Program} {Γ:Nat->Spec}
def pQ(x:V2):AV:=.agg [cb (rcan x.1),cn (rcan x.1),cd (rcan x.1),cb (rcan x.2),cn (rcan x.2),cd (rcan x.2)]
theorem xbd(x:V2):pQ x=.agg [cb (rcan x.1),cn (rcan x.1),cd (rcan x.1),cb (rcan x.2),cn (rcan x.2),cd (rcan x.2)]:=eq_of_heq (HEq.refl _)
def tQ(t:TnQ):AV:=.agg [cb (rcan t.1),cn (rcan t.1),cd (rcan t.1),.lit (.bool t.2)]
theorem wbI(t:TnQ):tQ t=.agg [cb (rcan t.1),cn (rcan t.1),cd (rcan t.1),.lit (.bool t.2)]:=eq_of_heq (HEq.refl _)
theorem UbK(x y:R):av (x,y)=(rv x,rv y):=rfl
theorem QbP(a b:Rat):al (rcan a,rcan b)=max (rz a) (rz b):=rfl
theorem ubw(a b:Rat):WLA (rcan a,rcan b)=True:=eq_true ⟨Zp _,Zp _⟩
attribute [go_sem,go_sem ↓] xbd wbI ubw
def Uk(l:List AV)(K:AV->Prop):Prop:=
 match l with
 | [a]=>onA (λp=>al p<=100000000/\K (.one (.lit (.bool (avld p))))) a
 | _=>False
theorem yah a K:Uk [a] K=(onA (λp=>al p<=100000000/\K (.one (.lit (.bool (avld p))))) a):=propext Iff.rfl
@[congr] theorem Qb0{K}{l l'}(h:l=l'):Uk l K=Uk l' K:=by subst h;rfl
attribute [go_sem,go_sem ↓] yah
theorem xav:Good Uk:=Wa λas=>by
 unfold Uk;split
 .exact(qD λ_=>(.and λ_=>(.ret _)))
 .exact .of λK hk=>hk.elim
def Xv(l:List AV)(K:AV->Prop):Prop:=
 match l with
 | [a,b]=>onA (λp=>onA (λq=>al p<=100000000/\al q<=100000000/\K (pQ (subQ (av p) (av q)))) b) a
 | _=>False
theorem vaC a b K:Xv [a,b] K=(onA (λp=>onA (λq=>al p<=100000000/\al q<=100000000/\K (pQ (subQ (av p) (av q)))) b) a):=propext Iff.rfl
@[congr] theorem Wb2{K}{l l'}(h:l=l'):Xv l K=Xv l' K:=by subst h;rfl
attribute [go_sem,go_sem ↓] vaC
theorem vaN:Good Xv:=Wa λas=>by
 unfold Xv;split
 .exact(qD λ_=>(qD λ_=>(.and λ_=>(.and λ_=>(.ret _)))))
 .exact .of λK hk=>hk.elim
def QF(l:List AV)(K:AV->Prop):Prop:=
 match l with
 | [a,b]=>onA (λp=>onA (λq=>al p<=100000000/\al q<=100000000/\K (pQ (addQ (av p) (av q)))) b) a
 | _=>False
theorem uaD a b K:QF [a,b] K=(onA (λp=>onA (λq=>al p<=100000000/\al q<=100000000/\K (pQ (addQ (av p) (av q)))) b) a):=propext Iff.rfl
@[congr] theorem xb3{K}{l l'}(h:l=l'):QF l K=QF l' K:=by subst h;rfl
attribute [go_sem,go_sem ↓] uaD
theorem vaM:Good QF:=Wa λas=>by
 unfold QF;split
 .exact(qD λ_=>(qD λ_=>(.and λ_=>(.and λ_=>(.ret _)))))
 .exact .of λK hk=>hk.elim
def Vu(l:List AV)(K:AV->Prop):Prop:=
 match l with
 | [a,b]=>onA (λp=>onA (λq=>al p<=100000000/\al q<=100000000/\K (rQ (Je (av p) (av q)))) b) a
 | _=>False
theorem zai a b K:Vu [a,b] K=(onA (λp=>onA (λq=>al p<=100000000/\al q<=100000000/\K (rQ (Je (av p) (av q)))) b) a):=propext Iff.rfl
@[congr] theorem VbN{K}{l l'}(h:l=l'):Vu l K=Vu l' K:=by subst h;rfl
attribute [go_sem,go_sem ↓] zai
theorem Zau:Good Vu:=Wa λas=>by
 unfold Vu;split
 .exact(qD λ_=>(qD λ_=>(.and λ_=>(.and λ_=>(.ret _)))))
 .exact .of λK hk=>hk.elim
def Uac(l:List AV)(K:AV->Prop):Prop:=
 match l with
 | [a]=>onA (λp=>al p<=100000000/\K (rQ (sqQ (av p)))) a
 | _=>False
theorem Xbr a K:Uac [a] K=(onA (λp=>al p<=100000000/\K (rQ (sqQ (av p)))) a):=propext Iff.rfl
@[congr] theorem kci{K}{l l'}(h:l=l'):Uac l K=Uac l' K:=by subst h;rfl
attribute [go_sem,go_sem ↓] Xbr
theorem Xbm:Good Uac:=Wa λas=>by
 unfold Uac;split
 .exact(qD λ_=>(.and λ_=>(.ret _)))
 .exact .of λK hk=>hk.elim
def Zar(l:List AV)(K:AV->Prop):Prop:=
 match l with
 | [a,b]=>onA (λp=>onA (λq=>al p<=100000000/\al q<=100000000/\K (.one (.lit (.bool (decide (av p=av q)))))) b) a
 | _=>False
theorem YaL a b K:Zar [a,b] K=(onA (λp=>onA (λq=>al p<=100000000/\al q<=100000000/\K (.one (.lit (.bool (decide (av p=av q)))))) b) a):=propext Iff.rfl
@[congr] theorem Yb2{K}{l l'}(h:l=l'):Zar l K=Zar l' K:=by subst h;rfl
attribute [go_sem,go_sem ↓] YaL
def UL(l:List AV)(K:AV->Prop):Prop:=
 match l with
 | [a]=>onA (λp=>al p<=100000000/\K (pQ (negQ (av p)))) a
 | _=>False
theorem Jba a K:UL [a] K=(onA (λp=>al p<=100000000/\K (pQ (negQ (av p)))) a):=propext Iff.rfl
@[congr] theorem Ucd{K}{l l'}(h:l=l'):UL l K=UL l' K:=by subst h;rfl
attribute [go_sem,go_sem ↓] Jba
theorem za7:Good UL:=Wa λas=>by
 unfold UL;split
 .exact(qD λ_=>(.and λ_=>(.ret _)))
 .exact .of λK hk=>hk.elim
def Xaa(l:List AV)(K:AV->Prop):Prop:=
 match l with
 | [a]=>onA (λp=>al p<=100000000/\K (pQ (av p))) a
 | _=>False
theorem qag a K:Xaa [a] K=(onA (λp=>al p<=100000000/\K (pQ (av p))) a):=propext Iff.rfl
@[congr] theorem YbW{K}{l l'}(h:l=l'):Xaa l K=Xaa l' K:=by subst h;rfl
attribute [go_sem,go_sem ↓] qag
def jz(l:List AV)(K:AV->Prop):Prop:=
 match l with
 | [a]=>onR (λx=>rl x<=4294967296/\K (.one (.lit (.bool (decide (rv x=0)))))) a
 | _=>False
theorem xaD a K:jz [a] K=(onR (λx=>rl x<=4294967296/\K (.one (.lit (.bool (decide (rv x=0)))))) a):=propext Iff.rfl
@[congr] theorem Ub4{K}{l l'}(h:l=l'):jz l K=jz l' K:=by subst h;rfl
attribute [go_sem,go_sem ↓] xaD
theorem YaQ:Good jz:=Wa λas=>by
 unfold jz;split
 .exact(Jj λ_=>(.and λ_=>(.ret _)))
 .exact .of λK hk=>hk.elim
def xy(l:List AV)(K:AV->Prop):Prop:=
 match l with
 | [a,b]=>onR (λx=>onR (λy=>rl x<=1073741824/\rl y<=1073741824/\K (rQ (rv x / rv y))) b) a
 | _=>False
theorem zaA a b K:xy [a,b] K=(onR (λx=>onR (λy=>rl x<=1073741824/\rl y<=1073741824/\K (rQ (rv x / rv y))) b) a):=propext Iff.rfl
@[congr] theorem Wb5{K}{l l'}(h:l=l'):xy l K=xy l' K:=by subst h;rfl
attribute [go_sem,go_sem ↓] zaA
theorem kZ:Good xy:=Wa λas=>by
 unfold xy;split
 .exact(Jj λ_=>(Jj λ_=>(.and λ_=>(.and λ_=>(.ret _)))))
 .exact .of λK hk=>hk.elim
def Qn(tE:Nat)(l:List AV)(K:AV->Prop):Prop:=
 match l with
 | [a]=>onT (λt=>rl t.1<=100000000/\K (errV tE (tchk t))) a
 | _=>False
theorem Xad tE a K:Qn tE [a] K=(onT (λt=>rl t.1<=100000000/\K (errV tE (tchk t))) a):=propext Iff.rfl
@[congr] theorem JbR tE{K}{l l'}(h:l=l'):Qn tE l K=Qn tE l' K:=by subst h;rfl
attribute [go_sem,go_sem ↓] Xad
theorem Zaq(tE:Nat):Good (Qn tE):=Wa λas=>by
 unfold Qn;split
 .exact(UU λ_=>(.and λ_=>(.ret _)))
 .exact .of λK hk=>hk.elim
def Zy(l:List AV)(K:AV->Prop):Prop:=
 match l with
 | [a]=>onT (λt=>rl t.1<=100000000/\K (.one (.lit (.bool (decide (tchk t=0)))))) a
 | _=>False
theorem jam a K:Zy [a] K=(onT (λt=>rl t.1<=100000000/\K (.one (.lit (.bool (decide (tchk t=0)))))) a):=propext Iff.rfl
@[congr] theorem ZbQ{K}{l l'}(h:l=l'):Zy l K=Zy l' K:=by subst h;rfl
attribute [go_sem,go_sem ↓] jam
theorem Yao:Good Zy:=Wa λas=>by
 unfold Zy;split
 .exact(UU λ_=>(.and λ_=>(.ret _)))
 .exact .of λK hk=>hk.elim
def vA(l:List AV)(K:AV->Prop):Prop:=
 match l with
 | [a]=>onPo (λp=>pl p<=100000000/\K (.one (.lit (.bool (pvld p))))) a
 | _=>False
theorem qbh a K:vA [a] K=(onPo (λp=>pl p<=100000000/\K (.one (.lit (.bool (pvld p))))) a):=propext Iff.rfl
@[congr] theorem Ycb{K}{l l'}(h:l=l'):vA l K=vA l' K:=by subst h;rfl
attribute [go_sem,go_sem ↓] qbh
theorem Xaf:Good vA:=Wa λas=>by
 unfold vA;split
 .exact(Q1 λ_=>(.and λ_=>(.ret _)))
 .exact .of λK hk=>hk.elim
def VG(l:List AV)(K:AV->Prop):Prop:=
 match l with
 | [a]=>onT (λt=>rl t.1<=100000000/\K (tQ (backQ (tv t)))) a
 | _=>False
theorem ya8 a K:VG [a] K=(onT (λt=>rl t.1<=100000000/\K (tQ (backQ (tv t)))) a):=propext Iff.rfl
@[congr] theorem Wce{K}{l l'}(h:l=l'):VG l K=VG l' K:=by subst h;rfl
attribute [go_sem,go_sem ↓] ya8
theorem qaT:Good VG:=Wa λas=>by
 unfold VG;split
 .exact(UU λ_=>(.and λ_=>(.ret _)))
 .exact .of λK hk=>hk.elim
def xC(l:List AV)(K:AV->Prop):Prop:=
 match l with
 | [a]=>onT (λt=>rl t.1<=10000000/\K (.tup [rQ (cosQ (tv t)),rQ (sinQ (tv t))])) a
 | _=>False
theorem xbe a K:xC [a] K=(onT (λt=>rl t.1<=10000000/\K (.tup [rQ (cosQ (tv t)),rQ (sinQ (tv t))])) a):=propext Iff.rfl
@[congr] theorem kce{K}{l l'}(h:l=l'):xC l K=xC l' K:=by subst h;rfl
attribute [go_sem,go_sem ↓] xbe
theorem Jbk:Good xC:=Wa λas=>by
 unfold xC;split
 .exact(UU λ_=>(.and λ_=>(.ret _)))
 .exact .of λK hk=>hk.elim
def Yas(l:List AV)(K:AV->Prop):Prop:=
 match l with
 | [a,b]=>onA (λp=>onA (λq=>al p<=4294967296/\K (.one (.lit (.bool (decide (p=q)))))) b) a
 | _=>False
theorem xaG a b K:Yas [a,b] K=(onA (λp=>onA (λq=>al p<=4294967296/\K (.one (.lit (.bool (decide (p=q)))))) b) a):=propext Iff.rfl
@[congr] theorem zb2{K}{l l'}(h:l=l'):Yas l K=Yas l' K:=by subst h;rfl
attribute [go_sem,go_sem ↓] xaG
def JH(f0:Nat):AC:=(.o [.K 2 6 0,.K 3 6 1,.G 4 [.z,.emp,.emp,.z,.emp,.emp]] [2,3,4] (.seq (.y [.A 5 0 2,.L 6 3 5,.A 7 0 3,.L 8 3 7,.D 9 f0 6 8,.A 10 3 2,.L 11 3 10,.A 12 3 3,.L 13 3 12,.D 14 f0 11 13,.u 15 (.build [.x 3 (.t 9),.x 3 (.t 14)]),.S 6 4 15]) .ret))
def Yo(f0 f1:Nat):AC:=(.o [.K 1 6 0,.G 2 [.z,.emp,.emp]] [1,2] (.seq (.y [.A 3 0 1,.L 4 3 3,.A 5 0 1,.L 6 3 5,.D 7 f0 4 6,.A 8 3 1,.L 9 3 8,.A 10 3 1,.L 11 3 10,.D 12 f0 9 11,.D 13 f1 7 12,.S 3 2 13]) .ret))
def zH(f0:Nat):AC:=(.o [.K 1 6 0,.G 2 [.z,.emp,.emp,.z,.emp,.emp]] [1,2] (.seq (.y [.A 3 0 1,.L 4 3 3,.H 5 f0 4,.A 6 3 1,.L 7 3 6,.H 8 f0 7,.u 9 (.build [.x 3 (.t 5),.x 3 (.t 8)]),.S 6 2 9]) .ret))
def uj(f0:Nat):AC:=(.o [.K 1 3 0,.m 2 .fa] [1] (.seq (.p [.L 3 3 1,.H 4 f0 3,.I 5 .eql 4 0,.M 2 5]) .ret))
def Qx(f0:Nat):AC:=(.o [.K 2 3 0,.K 3 3 1,.G 4 [.z,.emp,.emp]] [2,3,4] (.o [.L 8 3 2,.L 9 3 3,.D 10 f0 8 9,.M 7 10,.X 11 0 7,.X 12 1 7,.G 5 [.z,.emp,.emp],.S 3 5 11,.M 6 12] [4,5,6] (.f (.o [.M 13 6,.R 14 13] [4,5,14] (.cond (.t 14) (.seq (.p [.u 15 (.build [.z [.z,.emp,.emp]]),.S 3 4 15]) .ret) .skip)) [4,5] (.seq (.p [.L 16 3 5,.S 3 4 16]) .ret))))
def kj(f0:Nat):AC:=(.o [.K 2 3 0,.K 3 3 1,.G 4 [.z,.emp,.emp]] [2,3,4] (.o [.L 8 3 2,.L 9 3 3,.D 10 f0 8 9,.M 7 10,.X 11 0 7,.X 12 1 7,.G 5 [.z,.emp,.emp],.S 3 5 11,.M 6 12] [4,5] (.seq (.p [.L 13 3 5,.S 3 4 13]) .ret)))
def yk(f0 f1 tE:Nat):AC:=(.o [.K 1 4 0,.m 2 (.c (.one (.lit .nilIface)))] [1] (.f (.o [.A 3 0 1,.L 4 3 3,.H 5 f0 4,.u 6 (.un .not (.t 5)),.M 7 6,.T 8 7 false 3 1,.U 9 7 false 1 false 8,.V 10 7 false 9,.T 11 10 true 0 1,.U 12 10 true 3 true 11,.W 13 10 true f1 12,.w 14 10 true (.bin .neq (.t 13) (.i 0)),.w 15 7 false (.pick (.t 10) (.t 14) .fa),.Q 16 7 15] [16] (.cond (.t 16) (.seq (.p [.u 17 (.iface tE (.i 2)),.M 2 17]) .ret) .skip)) [] (.seq (.p [.m 2 (.c (.one (.lit .nilIface)))]) .ret)))
def yd(f0 f1:Nat):AC:=(.o [.K 1 4 0,.m 2 .fa] [1] (.seq (.p [.A 3 0 1,.L 4 3 3,.H 5 f0 4,.M 6 5,.T 7 6 true 3 1,.U 8 6 true 1 false 7,.w 9 6 true (.un .not (.t 8)),.V 10 6 true 9,.T 11 10 false 0 1,.U 12 10 false 3 true 11,.W 13 10 false f1 12,.w 14 6 true (.pick (.t 10) .tr (.t 13)),.P 15 6 14,.M 2 15]) .ret))
def Yu(f0 f1:Nat):AC:=(.o [.K 1 10 0,.m 2 .fa] [1] (.seq (.p [.A 3 0 1,.L 4 4 3,.H 5 f0 4,.u 6 (.binn .eql (.t 5) (.c (.one (.lit .nilIface)))),.M 7 6,.T 8 7 true 4 1,.U 9 7 true 6 true 8,.W 10 7 true f1 9,.P 11 7 10,.M 2 11]) .ret))
def jf(f0 f1:Nat):AC:=(.o [.K 1 10 0,.m 2 .fa] [1] (.seq (.p [.A 3 0 1,.L 4 4 3,.H 5 f0 4,.M 6 5,.T 7 6 true 4 1,.U 8 6 true 6 true 7,.W 9 6 true f1 8,.P 10 6 9,.M 2 10]) .ret))
def vB(f0:Nat):AC:=(.o [.K 1 4 0,.G 2 [.z,.emp,.emp,.z]] [1,2] (.seq (.y [.A 3 0 1,.L 4 3 3,.H 5 f0 4,.A 6 3 1,.F 7 1 6,.u 8 (.build [.x 3 (.t 5),.x 1 (.t 7)]),.S 4 2 8]) .ret))
def zh(f0 f1 f2 f3 f4:Nat):AC:=(.o [.K 1 4 0,.G 2 [.z,.emp,.emp],.G 3 [.z,.emp,.emp]] [1,2,3] (.f (.o [.A 7 3 1,.F 8 1 7] [1,2,3,8] (.cond (.t 8) (.seq (.p [.u 9 (.call f0 [(.i (-1))]),.u 10 (.build [.z [.z,.emp,.emp]]),.S 3 2 9,.S 3 3 10]) .ret) .skip)) [1,2,3] (.f (.y [.u 11 (.call f0 [(.i 1)]),.A 12 0 1,.L 13 3 12,.A 14 0 1,.L 15 3 14,.D 16 f1 13 15,.G 4 [.z,.emp,.emp],.G 5 [.z,.emp,.emp],.S 3 4 11,.S 3 5 16]) [1,2,3,4,5] (.o [.L 17 3 4,.L 18 3 5,.D 19 f2 17 18,.G 6 [.z,.emp,.emp],.S 3 6 19] [1,2,3,4,5,6] (.seq (.y [.L 20 3 4,.L 21 3 5,.D 22 f3 20 21,.L 23 3 6,.D 24 f4 22 23,.A 25 0 1,.L 26 3 25,.A 27 0 1,.L 28 3 27,.D 29 f2 26 28,.L 30 3 6,.D 31 f4 29 30,.S 3 2 24,.S 3 3 31]) .ret)))))
theorem Wb{α β:Type}(p:α×β):(p.1,p.2)=p:=rfl
theorem al1{p:Arc}{b:Nat}(h:al p<=b):rl p.1<=b/\rl p.2<=b:=⟨Nat.le_trans (Nat.le_max_left _ _) h,Nat.le_trans (Nat.le_max_right _ _) h⟩
theorem xas(hΓ:Xa P Γ){f fs:Nat}(hs:Γ fs=.dat false wl)(hc:check P f=some (16,(JH fs).strip,[.cell 4 6 true])):ua P f (.dat false QF):=by
 refine ka hc vaM hΓ (λargs K hcl hfi hG=>?_);match args,hG with
 | [a,b],hG=>
  obtain⟨p,rfl,hp,q,rfl,hq,hl,hl',hK⟩:=hG;refine⟨by simp,?_⟩
  obtain⟨l1,l2⟩:=al1 hl;obtain⟨l3,l4⟩:=al1 hl';simp only [go_sem,JH,hs,ze,hp.1,hp.2,hq.1,hq.2];exact⟨by omega,by omega,by omega,by omega,hK⟩
theorem ubc(hΓ:Xa P Γ){f fm fs:Nat}(hm:Γ fm=.dat false jl)(hs:Γ fs=.dat false wl)(hc:check P f=some (14,(Yo fm fs).strip,[.cell 2 3 true])):ua P f (.dat false Uac):=by
 refine ka hc Xbm hΓ (λargs K hcl hfi hG=>?_);match args,hG with
 | [a],hG=>
  obtain⟨p,rfl,hp,hl,hK⟩:=hG;refine⟨by simp,?_⟩
  obtain⟨l1,l2⟩:=al1 hl;have r1:=Vg hp.1;have r2:=Vg hp.2;have m1:=Zc (rv p.1) (rv p.1);have m2:=Zc (rv p.2) (rv p.2);simp only [go_sem,Yo,hm,hs,ze,hp.1,hp.2];exact⟨by omega,by omega,by omega,by omega,by omega,by omega,hK⟩
theorem vaQ(hΓ:Xa P Γ){f fn:Nat}(hn:Γ fn=.dat false VA)(hc:check P f=some (10,(zH fn).strip,[.cell 2 6 true])):ua P f (.dat false UL):=by
 refine ka hc za7 hΓ (λargs K hcl hfi hG=>?_);match args,hG with
 | [a],hG=>
  obtain⟨p,rfl,hp,hl,hK⟩:=hG;refine⟨by simp,?_⟩
  obtain⟨l1,l2⟩:=al1 hl;simp only [go_sem,zH,hn,ze,hp.1,hp.2];exact⟨by omega,by omega,hK⟩
theorem Wat(hΓ:Xa P Γ){f fs:Nat}(hs:Γ fs=.dat true yn)(hc:check P f=some (6,(uj fs).strip,[.tmp 2])):ua P f (.dat true jz):=by
 refine ka hc YaQ hΓ (λargs K hcl hfi hG=>?_);match args,hG with
 | [a],hG=>
  obtain⟨x,rfl,hx,hl,hK⟩:=hG;refine⟨by simp,?_⟩
  have e:decide (rv x=0)=decide (ordQ (rv x) 0=0):=by rw [decide_eq_decide,Xt]
  rw [e]at hK;simp only [go_sem,uj,hs,hx];exact⟨hl,hK⟩
theorem yap(hΓ:Xa P Γ){f fd tE:Nat}(hd:Γ fd=.dat false (xB tE))(hc:check P f=some (17,(Qx fd).strip,[.cell 4 3 true])):ua P f (.dat false xy):=by
 refine ka hc kZ hΓ (λargs K hcl hfi hG=>?_);match args,hG with
 | [a,b],hG=>
  obtain⟨x,rfl,hx,y,rfl,hy,hl,hl',hK⟩:=hG;refine⟨by simp,?_⟩
  by_cases h0:rv y=0
  .rw [h0,Rat.div_def,Rat.inv_zero,Rat.mul_zero,kaa,ub]at hK;have e:errV tE 8=.one (.lit (.iface tE (.int .i64 8))):=Zd tE (by decide)
   simp only [go_sem,Qx,hd,hx,hy,h0,e];exact⟨by omega,by omega,hK⟩
  .simp only [go_sem,Qx,hd,hx,hy,h0,Qc];exact⟨by omega,by omega,hK⟩
theorem Wag(hΓ:Xa P Γ){f fd:Nat}(hd:Γ fd=.dat false UD)(hc:check P f=some (14,(kj fd).strip,[.cell 4 3 true])):ua P f (.dat false xy):=by
 refine ka hc kZ hΓ (λargs K hcl hfi hG=>?_);match args,hG with
 | [a,b],hG=>
  obtain⟨x,rfl,hx,y,rfl,hy,hl,hl',hK⟩:=hG;refine⟨by simp,?_⟩
  simp only [go_sem,kj,hd,hx,hy];exact⟨hl,hl',hK⟩
theorem WX(hΓ:Xa P Γ){f fn:Nat}(hn:Γ fn=.dat false VA)(hc:check P f=some (9,(vB fn).strip,[.cell 2 4 true])):ua P f (.dat false VG):=by
 refine ka hc qaT hΓ (λargs K hcl hfi hG=>?_);match args,hG with
 | [a],hG=>
  obtain⟨t,rfl,ht,hl,hK⟩:=hG;refine⟨by simp,?_⟩
  simp only [go_sem,vB,hn,tA,tC,ht];exact⟨by omega,hK⟩
theorem qbs(t:Tn):tchk t=if vldR t.1=true/\¬(t.2=true/\rv t.1≠0) then 0 else 2:=rfl
theorem Zal(hΓ:Xa P Γ){f fv fs tE:Nat}(hv:Γ fv=.dat true qf)(hs:Γ fs=.dat true yn)(hc:check P f=some (18,(yk fv fs tE).strip,[.tmp 2])):ua P f (.dat false (Qn tE)):=by
 refine ka hc (Zaq tE) hΓ (λargs K hcl hfi hG=>?_);match args,hG with
 | [a],hG=>
  obtain⟨t,rfl,ht,hl,hK⟩:=hG;refine⟨by simp,?_⟩
  rw [qbs]at hK;have e2:errV tE 2=.one (.lit (.iface tE (.int .i64 2))):=Zd tE (by decide)
  cases h1:vldR t.1 with
  | false=>
   rw [if_neg (λh=>by rw [h1]at h;exact absurd h.1 (by decide)),e2]at hK
   simp only [go_sem,yk,hv,hs,tA,tC,ht,h1];exact⟨by omega,hK⟩
  | true=>
   cases h2:t.2 with
   | false=>
    rw [if_pos ⟨h1,λh=>by rw [h2]at h;exact absurd h.1 (by decide)⟩,Qc]at hK
    simp only [go_sem,yk,hv,hs,tA,tC,ht,h1,h2];exact⟨by omega,hK⟩
   | true=>
    by_cases h3:ordQ (rv t.1) 0=0
    .rw [if_pos ⟨h1,λh=>h.2 (Xt.1 h3)⟩,Qc]at hK;simp only [go_sem,yk,hv,hs,tA,tC,ht,h1,h2,h3];exact⟨by omega,by omega,hK⟩
    .rw [if_neg (λh=>h.2 ⟨h2,λe=>h3 (Xt.2 e)⟩),e2]at hK;simp only [go_sem,yk,hv,hs,tA,tC,ht,h1,h2,h3];exact⟨by omega,by omega,hK⟩
theorem Uae(hΓ:Xa P Γ){f fv fz:Nat}(hv:Γ fv=.dat true qf)(hz:Γ fz=.dat true jz)(hc:check P f=some (16,(yd fv fz).strip,[.tmp 2])):ua P f (.dat true Zy):=by
 refine ka hc Yao hΓ (λargs K hcl hfi hG=>?_);match args,hG with
 | [a],hG=>
  obtain⟨t,rfl,ht,hl,hK⟩:=hG;refine⟨by simp,?_⟩
  rw [qbs]at hK;cases h1:vldR t.1 with
  | false=>
   rw [if_neg (λh=>by rw [h1]at h;exact absurd h.1 (by decide))]at hK
   simp only [go_sem,yd,hv,hz,tA,tC,ht,h1];exact⟨by omega,hK⟩
  | true=>
   cases h2:t.2 with
   | false=>
    rw [if_pos ⟨h1,λh=>by rw [h2]at h;exact absurd h.1 (by decide)⟩]at hK
    simp only [go_sem,yd,hv,hz,tA,tC,ht,h1,h2];exact⟨by omega,hK⟩
   | true=>
    by_cases h3:rv t.1=0
    .rw [if_pos ⟨h1,λh=>h.2 h3⟩]at hK;simp only [go_sem,yd,hv,hz,tA,tC,ht,h1,h2,h3];exact⟨by omega,by omega,hK⟩
    .rw [if_neg (λh=>h.2 ⟨h2,h3⟩)]at hK;simp only [go_sem,yd,hv,hz,tA,tC,ht,h1,h2,h3];exact⟨by omega,by omega,hK⟩
theorem pl1{p:Ps}{b:Nat}(h:pl p<=b):rl p.1.1<=b/\al p.2<=b:=⟨Nat.le_trans (Nat.le_max_left _ _) h,Nat.le_trans (Nat.le_max_right _ _) h⟩
theorem QK(t:Tn):tchk t=0∨tchk t=2:=by unfold tchk;split <;> simp
theorem XaN(hΓ:Xa P Γ){f ft fp:Nat}{tE:Nat}(ht:Γ ft=.dat false (Qn tE))(hp' : Γ fp=.dat true Uk)(hc:check P f=some (12,(Yu ft fp).strip,[.tmp 2])):ua P f (.dat true vA):=by
 refine ka hc Xaf hΓ (λargs K hcl hfi hG=>?_);match args,hG with
 | [a],hG=>
  obtain⟨p,rfl,hp,hl,hK⟩:=hG;refine⟨by simp,?_⟩
  obtain⟨l1,l2⟩:=pl1 hl;unfold pvld at hK;rcases QK p.1 with h | h
  .rw [h]at hK;simp only [go_sem,Yu,ht,hp',poA,pC,Wb,h,Qc,hp.1,hp.2];exact⟨l1,l2,hK⟩
  .have e2:errV tE 2=.one (.lit (.iface tE (.int .i64 2))):=Zd tE (by decide)
   rw [h]at hK;simp only [go_sem,Yu,ht,hp',poA,pC,Wb,h,e2,hp.1,hp.2];exact⟨l1,hK⟩
theorem qaq(hΓ:Xa P Γ){f ft fp:Nat}(ht:Γ ft=.dat true Zy)(hp' : Γ fp=.dat true Uk)(hc:check P f=some (11,(jf ft fp).strip,[.tmp 2])):ua P f (.dat true vA):=by
 refine ka hc Xaf hΓ (λargs K hcl hfi hG=>?_);match args,hG with
 | [a],hG=>
  obtain⟨p,rfl,hp,hl,hK⟩:=hG;refine⟨by simp,?_⟩
  obtain⟨l1,l2⟩:=pl1 hl;unfold pvld at hK;by_cases h:tchk p.1=0
  .rw [decide_eq_true h]at hK;simp only [go_sem,jf,ht,hp',poA,pC,Wb,h,hp.1,hp.2];exact⟨l1,⟨l2,hK⟩,λh=>absurd trivial h⟩
  .rw [decide_eq_false h]at hK;simp only [go_sem,jf,ht,hp',poA,pC,Wb,h,hp.1,hp.2];exact⟨l1,hK⟩
theorem Y3(hΓ:Xa P Γ){f fo fm fa fs fv:Nat}(ho:Γ fo=.dat false XE)(hm:Γ fm=.dat false jl)(ha:Γ fa=.dat false wl)(hs:Γ fs=.dat false yw)(hov:Γ fv=.dat false xy)(hc:check P f=some (32,(zh fo fm fa fs fv).strip,[.cell 2 3 true,.cell 3 3 true])):ua P f (.dat false xC):=by
 refine ka hc Jbk hΓ (λargs K hcl hfi hG=>?_);match args,hG with
 | [a],hG=>
  obtain⟨t,rfl,ht,hl,hK⟩:=hG;refine⟨by simp,?_⟩
  have r1:=Vg ht;have h0:=rz_1;have h1:=Zc (rv t.1) (rv t.1);have h2:=QG 1 (rv t.1*rv t.1);have h3:=km 1 (rv t.1*rv t.1);have h4:=km (rv t.1) (rv t.1);have c1:((1:Int):Rat)=1:=rfl;have c2:((-1:Int):Rat) = -1:=rfl;unfold cosQ sinQ at hK;cases hh:t.2 with
  | true=>
   have e:(tv t).2=true:=hh;rw [if_pos e,if_pos e]at hK;simp only [go_sem,zh,ho,hm,ha,hs,hov,tA,tC,ht,hh,c1,c2];refine⟨by decide,by decide,?_⟩
   simp only [kaa,ub]at hK;exact hK
  | false=>
   have e:¬((tv t).2=true):=by show ¬(t.2=true);rw [hh];decide
   rw [if_neg e,if_neg e]at hK;simp only [go_sem,zh,ho,hm,ha,hs,hov,tA,tC,ht,hh,c1,c2];refine⟨by decide,by decide,by omega,by omega,by omega,by omega,by omega,by omega,by omega,by omega,by omega,by omega,by omega,by omega,hK⟩
end Go.Abs
end
section
namespace Go.Num
open Go.Abs
def aok(p:Ps)(q:Arc):Bool:=pvld p && avld q
def plchk(l:List Ps):Nat:=if l.length<2 then 10 else if 5<l.length then 4 else if l.all pvld then 0 else 2
def threeC(l:List Ps):Nat:=if plchk l≠0 then plchk l else if l.length=3 then 0 else 10
def imgs(l:List Ps)(q:Arc):List V2:=l.map λp=>appQ (pv p) (av q)
def imgC(l:List Ps)(q:Arc):Nat:=if l.all (λp=>aok p q) then 0 else 2
theorem Xbl{t:Tn}(h:tchk t=0):tchk (rcan (-rv t.1),t.2)=0:=by
 unfold tchk at *
 split at h
 .rename_i h1;rw [if_pos];refine⟨Qp _,λh2=>h1.2 ⟨h2.1,λe=>h2.2 ?_⟩⟩;show rv (rcan (-rv t.1))=0;rw [Vb,e];rfl
 .contradiction
end Go.Num
namespace Go.Abs
open Go.Num
variable {P:Program} {Γ:Nat->Spec}
def psQ(p:PsQ):AV:=.agg [cb (rcan p.1.1),cn (rcan p.1.1),cd (rcan p.1.1),.lit (.bool p.1.2),cb (rcan p.2.1),cn (rcan p.2.1),cd (rcan p.2.1),cb (rcan p.2.2),cn (rcan p.2.2),cd (rcan p.2.2)]
theorem ya4(p:PsQ):psQ p=.agg [cb (rcan p.1.1),cn (rcan p.1.1),cd (rcan p.1.1),.lit (.bool p.1.2),cb (rcan p.2.1),cn (rcan p.2.1),cd (rcan p.2.1),cb (rcan p.2.2),cn (rcan p.2.2),cd (rcan p.2.2)]:=eq_of_heq (HEq.refl _)
attribute [go_sem,go_sem ↓] ya4
def UM(tE:Nat)(l:List AV)(K:AV->Prop):Prop:=
 match l with
 | [a]=>onT (λt=>rl t.1<=10000000/\K (.tup [rQ (if tchk t=0 then cosQ (tv t) else 0),errV tE (tchk t)])) a
 | _=>False
theorem zbk tE a K:UM tE [a] K=(onT (λt=>rl t.1<=10000000/\K (.tup [rQ (if tchk t=0 then cosQ (tv t) else 0),errV tE (tchk t)])) a):=propext Iff.rfl
@[congr] theorem wb9 tE{K}{l l'}(h:l=l'):UM tE l K=UM tE l' K:=by subst h;rfl
attribute [go_sem,go_sem ↓] zbk
theorem Ua2(tE:Nat):Good (UM tE):=Wa λas=>by
 unfold UM;split
 .exact(UU λ_=>(.and λ_=>(.ret _)))
 .exact .of λK hk=>hk.elim
def vM(tE:Nat)(l:List AV)(K:AV->Prop):Prop:=
 match l with
 | [a]=>onT (λt=>rl t.1<=10000000/\K (.tup [rQ (if tchk t=0 then sinQ (tv t) else 0),errV tE (tchk t)])) a
 | _=>False
theorem QaX tE a K:vM tE [a] K=(onT (λt=>rl t.1<=10000000/\K (.tup [rQ (if tchk t=0 then sinQ (tv t) else 0),errV tE (tchk t)])) a):=propext Iff.rfl
@[congr] theorem Xb9 tE{K}{l l'}(h:l=l'):vM tE l K=vM tE l' K:=by subst h;rfl
attribute [go_sem,go_sem ↓] QaX
theorem zaZ(tE:Nat):Good (vM tE):=Wa λas=>by
 unfold vM;split
 .exact(UU λ_=>(.and λ_=>(.ret _)))
 .exact .of λK hk=>hk.elim
def JI(tE:Nat)(l:List AV)(K:AV->Prop):Prop:=
 match l with
 | [a]=>onT (λt=>rl t.1<=10000000/\K (.tup [rQ (if tchk t=0 then cosQ (tv t) else 0),rQ (if tchk t=0 then sinQ (tv t) else 0),errV tE (tchk t)])) a
 | _=>False
theorem Zbj tE a K:JI tE [a] K=(onT (λt=>rl t.1<=10000000/\K (.tup [rQ (if tchk t=0 then cosQ (tv t) else 0),rQ (if tchk t=0 then sinQ (tv t) else 0),errV tE (tchk t)])) a):=propext Iff.rfl
@[congr] theorem Jca tE{K}{l l'}(h:l=l'):JI tE l K=JI tE l' K:=by subst h;rfl
attribute [go_sem,go_sem ↓] Zbj
theorem jba(tE:Nat):Good (JI tE):=Wa λas=>by
 unfold JI;split
 .exact(UU λ_=>(.and λ_=>(.ret _)))
 .exact .of λK hk=>hk.elim
def QJ(tE:Nat)(l:List AV)(K:AV->Prop):Prop:=
 match l with
 | [a,b]=>onT (λt=>onA (λq=>rl t.1<=10000000/\al q<=10000000/\K (.tup [pQ (if tchk t=0 then rotQ (tv t) (av q) else (0,0)),errV tE (tchk t)])) b) a
 | _=>False
theorem UaW tE a b K:QJ tE [a,b] K=(onT (λt=>onA (λq=>rl t.1<=10000000/\al q<=10000000/\K (.tup [pQ (if tchk t=0 then rotQ (tv t) (av q) else (0,0)),errV tE (tchk t)])) b) a):=propext Iff.rfl
@[congr] theorem Vcf tE{K}{l l'}(h:l=l'):QJ tE l K=QJ tE l' K:=by subst h;rfl
attribute [go_sem,go_sem ↓] UaW
theorem ya7(tE:Nat):Good (QJ tE):=Wa λas=>by
 unfold QJ;split
 .exact(UU λ_=>(qD λ_=>(.and λ_=>(.and λ_=>(.ret _)))))
 .exact .of λK hk=>hk.elim
def uM(l:List AV)(K:AV->Prop):Prop:=
 match l with
 | [a,b]=>onT (λt=>onA (λq=>rl t.1<=10000000/\al q<=10000000/\K (pQ (rotQ (tv t) (av q)))) b) a
 | _=>False
theorem za1 a b K:uM [a,b] K=(onT (λt=>onA (λq=>rl t.1<=10000000/\al q<=10000000/\K (pQ (rotQ (tv t) (av q)))) b) a):=propext Iff.rfl
@[congr] theorem jb6{K}{l l'}(h:l=l'):uM l K=uM l' K:=by subst h;rfl
attribute [go_sem,go_sem ↓] za1
theorem Xbg:Good uM:=Wa λas=>by
 unfold uM;split
 .exact(UU λ_=>(qD λ_=>(.and λ_=>(.and λ_=>(.ret _)))))
 .exact .of λK hk=>hk.elim
def wL(tE:Nat)(l:List AV)(K:AV->Prop):Prop:=
 match l with
 | [a,b]=>onPo (λp=>onA (λq=>pl p<=1000000/\al q<=1000000/\K (.tup [pQ (if aok p q=true then appQ (pv p) (av q) else (0,0)),errV tE (if aok p q=true then 0 else 2)])) b) a
 | _=>False
theorem ya1 tE a b K:wL tE [a,b] K=(onPo (λp=>onA (λq=>pl p<=1000000/\al q<=1000000/\K (.tup [pQ (if aok p q=true then appQ (pv p) (av q) else (0,0)),errV tE (if aok p q=true then 0 else 2)])) b) a):=propext Iff.rfl
@[congr] theorem Ub7 tE{K}{l l'}(h:l=l'):wL tE l K=wL tE l' K:=by subst h;rfl
attribute [go_sem,go_sem ↓] ya1
theorem Wa8(tE:Nat):Good (wL tE):=Wa λas=>by
 unfold wL;split
 .exact(Q1 λ_=>(qD λ_=>(.and λ_=>(.and λ_=>(.ret _)))))
 .exact .of λK hk=>hk.elim
def VaW(l:List AV)(K:AV->Prop):Prop:=
 match l with
 | [a,b]=>onPo (λp=>onA (λq=>pl p<=1000000/\al q<=1000000/\K (pQ (appQ (pv p) (av q)))) b) a
 | _=>False
theorem Za0 a b K:VaW [a,b] K=(onPo (λp=>onA (λq=>pl p<=1000000/\al q<=1000000/\K (pQ (appQ (pv p) (av q)))) b) a):=propext Iff.rfl
@[congr] theorem ycd{K}{l l'}(h:l=l'):VaW l K=VaW l' K:=by subst h;rfl
attribute [go_sem,go_sem ↓] Za0
def qF(tE:Nat)(l:List AV)(K:AV->Prop):Prop:=
 match l with
 | [a]=>onT (λt=>rl t.1<=10000000/\K (.tup [tQ (if tchk t=0 then backQ (tv t) else (0,false)),errV tE (tchk t)])) a
 | _=>False
theorem YaE tE a K:qF tE [a] K=(onT (λt=>rl t.1<=10000000/\K (.tup [tQ (if tchk t=0 then backQ (tv t) else (0,false)),errV tE (tchk t)])) a):=propext Iff.rfl
@[congr] theorem Xb2 tE{K}{l l'}(h:l=l'):qF tE l K=qF tE l' K:=by subst h;rfl
attribute [go_sem,go_sem ↓] YaE
theorem yaO(tE:Nat):Good (qF tE):=Wa λas=>by
 unfold qF;split
 .exact(UU λ_=>(.and λ_=>(.ret _)))
 .exact .of λK hk=>hk.elim
def WM(tE:Nat)(l:List AV)(K:AV->Prop):Prop:=
 match l with
 | [a]=>onPo (λp=>pl p<=1000000/\K (.tup [psQ (if pvld p=true then invQ (pv p) else ((0,false),(0,0))),errV tE (if pvld p=true then 0 else 2)])) a
 | _=>False
theorem wa7 tE a K:WM tE [a] K=(onPo (λp=>pl p<=1000000/\K (.tup [psQ (if pvld p=true then invQ (pv p) else ((0,false),(0,0))),errV tE (if pvld p=true then 0 else 2)])) a):=propext Iff.rfl
@[congr] theorem qb7 tE{K}{l l'}(h:l=l'):WM tE l K=WM tE l' K:=by subst h;rfl
attribute [go_sem,go_sem ↓] wa7
theorem ZaX(tE:Nat):Good (WM tE):=Wa λas=>by
 unfold WM;split
 .exact(Q1 λ_=>(.and λ_=>(.ret _)))
 .exact .of λK hk=>hk.elim
def qL(l:List AV)(K:AV->Prop):Prop:=
 match l with
 | [a]=>onPo (λp=>pl p<=1000000/\K (psQ (invQ (pv p)))) a
 | _=>False
theorem Ybf a K:qL [a] K=(onPo (λp=>pl p<=1000000/\K (psQ (invQ (pv p)))) a):=propext Iff.rfl
@[congr] theorem ucd{K}{l l'}(h:l=l'):qL l K=qL l' K:=by subst h;rfl
attribute [go_sem,go_sem ↓] Ybf
theorem Vbe:Good qL:=Wa λas=>by
 unfold qL;split
 .exact(Q1 λ_=>(.and λ_=>(.ret _)))
 .exact .of λK hk=>hk.elim
def Vq(f0 f1:Nat):AC:=(.o [.K 1 4 0,.G 2 [.z,.emp,.emp],.m 3 (.c (.one (.lit .nilIface)))] [1,2] (.f (.o [.L 7 4 1,.H 8 f0 7,.M 4 8] [1,2,4] (.o [.M 9 4,.R 10 9] [1,2,4,10] (.cond (.t 10) (.seq (.p [.u 11 (.build [.z [.z,.emp,.emp]]),.M 12 4,.S 3 2 11,.M 3 12]) .ret) .skip))) [1,2] (.o [.L 14 4 1,.H 15 f1 14,.M 13 15,.X 16 0 13,.X 17 1 13,.G 5 [.z,.emp,.emp],.G 6 [.z,.emp,.emp],.S 3 5 16,.S 3 6 17] [2,5] (.seq (.p [.L 18 3 5,.S 3 2 18,.m 3 (.c (.one (.lit .nilIface)))]) .ret))))
def Uq(f0 f1:Nat):AC:=(.o [.K 1 4 0,.G 2 [.z,.emp,.emp],.m 3 (.c (.one (.lit .nilIface)))] [1,2] (.f (.o [.L 7 4 1,.H 8 f0 7,.M 4 8] [1,2,4] (.o [.M 9 4,.R 10 9] [1,2,4,10] (.cond (.t 10) (.seq (.p [.u 11 (.build [.z [.z,.emp,.emp]]),.M 12 4,.S 3 2 11,.M 3 12]) .ret) .skip))) [1,2] (.o [.L 14 4 1,.H 15 f1 14,.M 13 15,.X 16 0 13,.X 17 1 13,.G 5 [.z,.emp,.emp],.G 6 [.z,.emp,.emp],.S 3 5 16,.S 3 6 17] [2,6] (.seq (.p [.L 18 3 6,.S 3 2 18,.m 3 (.c (.one (.lit .nilIface)))]) .ret))))
def qC(f0 f1:Nat):AC:=(.o [.K 1 4 0,.G 2 [.z,.emp,.emp,.z],.m 3 (.c (.one (.lit .nilIface)))] [1,2] (.f (.o [.L 5 4 1,.H 6 f0 5,.M 4 6] [1,2,4] (.o [.M 7 4,.R 8 7] [1,2,4,8] (.cond (.t 8) (.seq (.p [.u 9 (.build [.z [.z,.emp,.emp,.z]]),.M 10 4,.S 4 2 9,.M 3 10]) .ret) .skip))) [1,2] (.seq (.p [.L 11 4 1,.H 12 f1 11,.S 4 2 12,.m 3 (.c (.one (.lit .nilIface)))]) .ret)))
def Xk(f0 f1 f2 tE:Nat):AC:=(.o [.K 1 4 0,.G 2 [.z,.emp,.emp],.G 3 [.z,.emp,.emp],.m 4 (.c (.one (.lit .nilIface)))] [1,2,3] (.f (.o [.L 5 4 1,.H 6 f0 5,.R 7 6] [1,2,3,7] (.cond (.t 7) (.seq (.p [.u 8 (.build [.z [.z,.emp,.emp]]),.u 9 (.build [.z [.z,.emp,.emp]]),.u 10 (.iface tE (.i 2)),.S 3 2 8,.S 3 3 9,.M 4 10]) .ret) .skip)) [1,2,3] (.f (.o [.L 12 4 1,.H 13 f1 12,.M 11 13,.X 14 0 11,.X 15 1 11,.S 3 2 14,.M 4 15] [1,2,3,4] (.o [.M 16 4,.R 17 16] [1,2,3,4,17] (.cond (.t 17) (.seq (.p [.u 18 (.build [.z [.z,.emp,.emp]]),.u 19 (.build [.z [.z,.emp,.emp]]),.M 20 4,.S 3 2 18,.S 3 3 19,.M 4 20]) .ret) .skip))) [1,2,3] (.o [.L 22 4 1,.H 23 f2 22,.M 21 23,.X 24 0 21,.X 25 1 21,.S 3 3 24,.M 4 25] [2,3,4] (.seq (.y [.u 26 (.ld (some 2) 3 true (.t 2)),.u 27 (.ld (some 3) 3 true (.t 3)),.M 28 4,.n (.st (some 2) 3 (.t 2) (.t 26)),.n (.st (some 3) 3 (.t 3) (.t 27)),.M 4 28]) .ret)))))
def Zr(f0 f1 f2 f3:Nat):AC:=(.o [.K 2 4 0,.K 3 6 1,.G 4 [.z,.emp,.emp,.z,.emp,.emp],.m 5 (.c (.one (.lit .nilIface)))] [2,3,4] (.o [.L 10 4 2,.H 11 f0 10,.M 9 11,.X 12 0 9,.X 13 1 9,.X 14 2 9,.G 6 [.z,.emp,.emp],.G 7 [.z,.emp,.emp],.S 3 6 12,.S 3 7 13,.M 8 14] [3,4,6,7,8] (.f (.o [.M 15 8,.R 16 15] [3,4,6,7,8,16] (.cond (.t 16) (.seq (.p [.u 17 (.build [.z [.z,.emp,.emp,.z,.emp,.emp]]),.M 18 8,.S 6 4 17,.M 5 18]) .ret) .skip)) [3,4,6,7] (.seq (.y [.L 19 3 6,.A 20 0 3,.L 21 3 20,.D 22 f1 19 21,.L 23 3 7,.A 24 3 3,.L 25 3 24,.D 26 f1 23 25,.D 27 f2 22 26,.L 28 3 7,.A 29 0 3,.L 30 3 29,.D 31 f1 28 30,.L 32 3 6,.A 33 3 3,.L 34 3 33,.D 35 f1 32 34,.D 36 f3 31 35,.u 37 (.build [.x 3 (.t 27),.x 3 (.t 36)]),.S 6 4 37,.m 5 (.c (.one (.lit .nilIface)))]) .ret))))
def yh(f0 f1 f2 f3:Nat):AC:=(.o [.K 2 4 0,.K 3 6 1,.G 4 [.z,.emp,.emp,.z,.emp,.emp]] [2,3,4] (.o [.L 8 4 2,.H 9 f0 8,.M 7 9,.X 10 0 7,.X 11 1 7,.G 5 [.z,.emp,.emp],.G 6 [.z,.emp,.emp],.S 3 5 10,.S 3 6 11] [3,4,5,6] (.seq (.y [.L 12 3 5,.A 13 0 3,.L 14 3 13,.D 15 f1 12 14,.L 16 3 6,.A 17 3 3,.L 18 3 17,.D 19 f1 16 18,.D 20 f2 15 19,.L 21 3 6,.A 22 0 3,.L 23 3 22,.D 24 f1 21 23,.L 25 3 5,.A 26 3 3,.L 27 3 26,.D 28 f1 25 27,.D 29 f3 24 28,.u 30 (.build [.x 3 (.t 20),.x 3 (.t 29)]),.S 6 4 30]) .ret)))
def jo(f0 f1 f2 f3 tE:Nat):AC:=(.o [.K 2 10 0,.K 3 6 1,.G 4 [.z,.emp,.emp,.z,.emp,.emp],.m 5 (.c (.one (.lit .nilIface)))] [2,3,4] (.f (.o [.L 8 10 2,.H 9 f0 8,.u 10 (.un .not (.t 9)),.M 11 10,.U 12 11 false 6 true 3,.W 13 11 false f1 12,.w 14 11 false (.un .not (.t 13)),.Q 15 11 14] [2,3,4,15] (.cond (.t 15) (.seq (.p [.u 16 (.build [.z [.z,.emp,.emp,.z,.emp,.emp]]),.u 17 (.iface tE (.i 2)),.S 6 4 16,.M 5 17]) .ret) .skip)) [2,3,4] (.o [.A 19 0 2,.L 20 4 19,.L 21 6 3,.D 22 f2 20 21,.M 18 22,.X 23 0 18,.X 24 1 18,.G 6 [.z,.emp,.emp,.z,.emp,.emp],.S 6 6 23,.M 7 24] [2,4,6,7] (.f (.o [.M 25 7,.R 26 25] [2,4,6,7,26] (.cond (.t 26) (.seq (.p [.u 27 (.build [.z [.z,.emp,.emp,.z,.emp,.emp]]),.M 28 7,.S 6 4 27,.M 5 28]) .ret) .skip)) [2,4,6] (.seq (.p [.L 29 6 6,.A 30 4 2,.L 31 6 30,.D 32 f3 29 31,.S 6 4 32,.m 5 (.c (.one (.lit .nilIface)))]) .ret)))))
def wo(f0 f1 f2 f3 tE:Nat):AC:=(.o [.K 1 10 0,.G 2 [.z,.emp,.emp,.z,.z,.emp,.emp,.z,.emp,.emp],.m 3 (.c (.one (.lit .nilIface)))] [1,2] (.f (.o [.L 7 10 1,.H 8 f0 7,.u 9 (.un .not (.t 8))] [1,2,9] (.cond (.t 9) (.seq (.p [.u 10 (.build [.z [.z,.emp,.emp,.z,.z,.emp,.emp,.z,.emp,.emp]]),.u 11 (.iface tE (.i 2)),.S 10 2 10,.M 3 11]) .ret) .skip)) [1,2] (.o [.A 13 0 1,.L 14 4 13,.H 15 f1 14,.M 12 15,.X 16 0 12,.X 17 1 12,.G 4 [.z,.emp,.emp,.z],.S 4 4 16,.M 5 17] [1,2,4,5] (.f (.o [.M 18 5,.R 19 18] [1,2,4,5,19] (.cond (.t 19) (.seq (.p [.u 20 (.build [.z [.z,.emp,.emp,.z,.z,.emp,.emp,.z,.emp,.emp]]),.M 21 5,.S 10 2 20,.M 3 21]) .ret) .skip)) [1,2,4] (.f (.y [.L 23 4 4,.A 24 4 1,.L 25 6 24,.H 26 f2 25,.D 27 f3 23 26,.M 22 27,.X 28 0 22,.X 29 1 22,.G 6 [.z,.emp,.emp,.z,.emp,.emp],.S 6 6 28,.M 5 29]) [2,4,5,6] (.f (.o [.M 30 5,.R 31 30] [2,4,5,6,31] (.cond (.t 31) (.seq (.p [.u 32 (.build [.z [.z,.emp,.emp,.z,.z,.emp,.emp,.z,.emp,.emp]]),.M 33 5,.S 10 2 32,.M 3 33]) .ret) .skip)) [2,4,6] (.seq (.p [.L 34 4 4,.L 35 6 6,.u 36 (.build [.x 4 (.t 34),.x 6 (.t 35)]),.S 10 2 36,.m 3 (.c (.one (.lit .nilIface)))]) .ret)))))))
def Xg(f0 f1 f2:Nat):AC:=(.o [.K 1 10 0,.G 2 [.z,.emp,.emp,.z,.z,.emp,.emp,.z,.emp,.emp]] [1,2] (.o [.A 4 0 1,.L 5 4 4,.H 6 f0 5,.G 3 [.z,.emp,.emp,.z],.S 4 3 6] [1,2,3] (.seq (.y [.L 7 4 3,.L 8 4 3,.u 9 (.build [.z [.z,.emp,.emp,.z,.emp,.emp]]),.A 10 4 1,.L 11 6 10,.D 12 f1 9 11,.D 13 f2 8 12,.u 14 (.build [.x 4 (.t 7),.x 6 (.t 13)]),.S 10 2 14]) .ret)))
theorem vaO(hΓ:Xa P Γ){f fk fd tE:Nat}(hk:Γ fk=.dat false (Qn tE))(hd:Γ fd=.dat false xC)(hc:check P f=some (19,(Vq fk fd).strip,[.cell 2 3 true,.tmp 3])):ua P f (.dat false (UM tE)):=by
 refine ka hc (Ua2 tE) hΓ (λargs K hcl hfi hG=>?_);match args,hG with
 | [a],hG=>
  obtain⟨t,rfl,ht,hl,hK⟩:=hG;refine⟨by simp,?_⟩
  have e2:errV tE 2=.one (.lit (.iface tE (.int .i64 2))):=Zd tE (by decide)
  rcases QK t with h | h
  .rw [h,if_pos rfl,Qc]at hK;simp only [go_sem,Vq,Uq,hk,hd,tA,tC,ht,Wb,h,Qc];exact⟨by omega,by omega,hK⟩
  .rw [h,if_neg (by decide),e2,kaa,ub]at hK
   simp only [go_sem,Vq,Uq,hk,hd,tA,tC,ht,Wb,h,e2];exact⟨by omega,hK⟩
theorem QaO(hΓ:Xa P Γ){f fk fd tE:Nat}(hk:Γ fk=.dat false (Qn tE))(hd:Γ fd=.dat false xC)(hc:check P f=some (19,(Uq fk fd).strip,[.cell 2 3 true,.tmp 3])):ua P f (.dat false (vM tE)):=by
 refine ka hc (zaZ tE) hΓ (λargs K hcl hfi hG=>?_);match args,hG with
 | [a],hG=>
  obtain⟨t,rfl,ht,hl,hK⟩:=hG;refine⟨by simp,?_⟩
  have e2:errV tE 2=.one (.lit (.iface tE (.int .i64 2))):=Zd tE (by decide)
  rcases QK t with h | h
  .rw [h,if_pos rfl,Qc]at hK;simp only [go_sem,Vq,Uq,hk,hd,tA,tC,ht,Wb,h,Qc];exact⟨by omega,by omega,hK⟩
  .rw [h,if_neg (by decide),e2,kaa,ub]at hK
   simp only [go_sem,Vq,Uq,hk,hd,tA,tC,ht,Wb,h,e2];exact⟨by omega,hK⟩
theorem zap(hΓ:Xa P Γ){f fk fn tE:Nat}(hk:Γ fk=.dat false (Qn tE))(hn:Γ fn=.dat false VG)(hc:check P f=some (13,(qC fk fn).strip,[.cell 2 4 true,.tmp 3])):ua P f (.dat false (qF tE)):=by
 refine ka hc (yaO tE) hΓ (λargs K hcl hfi hG=>?_);match args,hG with
 | [a],hG=>
  obtain⟨t,rfl,ht,hl,hK⟩:=hG;refine⟨by simp,?_⟩
  have e2:errV tE 2=.one (.lit (.iface tE (.int .i64 2))):=Zd tE (by decide)
  rcases QK t with h | h
  .rw [h,if_pos rfl,Qc]at hK;simp only [go_sem,qC,hk,hn,tA,tC,ht,Wb,h,Qc];exact⟨by omega,by omega,hK⟩
  .rw [h,if_neg (by decide),e2,wbI,ub]at hK
   simp only [go_sem,qC,hk,hn,tA,tC,ht,Wb,h,e2];exact⟨by omega,hK⟩
theorem kaP(hΓ:Xa P Γ){f fk fc fs tE:Nat}(hk:Γ fk=.dat false (Qn tE))(hc' : Γ fc=.dat false (UM tE))(hs:Γ fs=.dat false (vM tE))(hc:check P f=some (29,(Xk fk fc fs tE).strip,[.cell 2 3 true,.cell 3 3 true,.tmp 4])):ua P f (.dat false (JI tE)):=by
 refine ka hc (jba tE) hΓ (λargs K hcl hfi hG=>?_);match args,hG with
 | [a],hG=>
  obtain⟨t,rfl,ht,hl,hK⟩:=hG;refine⟨by simp,?_⟩
  have e2:errV tE 2=.one (.lit (.iface tE (.int .i64 2))):=Zd tE (by decide)
  rcases QK t with h | h
  .rw [h,if_pos rfl,if_pos rfl,Qc]at hK;simp only [go_sem,Xk,hk,hc',hs,tA,tC,ht,Wb,h,Qc];exact⟨by omega,by omega,by omega,hK⟩
  .rw [h,if_neg (by decide),if_neg (by decide),e2,kaa,ub]at hK
   simp only [go_sem,Xk,hk,hc',hs,tA,tC,ht,Wb,h,e2];exact⟨by omega,hK⟩
theorem zaR(hΓ:Xa P Γ){f fd fm fs fa tE:Nat}(hd:Γ fd=.dat false (JI tE))(hm:Γ fm=.dat false jl)(hs:Γ fs=.dat false yw)(ha:Γ fa=.dat false wl)(hc:check P f=some (38,(Zr fd fm fs fa).strip,[.cell 4 6 true,.tmp 5])):ua P f (.dat false (QJ tE)):=by
 refine ka hc (ya7 tE) hΓ (λargs K hcl hfi hG=>?_);match args,hG with
 | [a,b],hG=>
  obtain⟨t,rfl,ht,q,rfl,hq,hl,hl',hK⟩:=hG;refine⟨by simp,?_⟩
  have e2:errV tE 2=.one (.lit (.iface tE (.int .i64 2))):=Zd tE (by decide)
  rcases QK t with h | h
  .skip
   have r1:=Vg ht;have q1:=Vg hq.1;have q2:=Vg hq.2;obtain⟨l1,l2⟩:=al1 hl';have cc:=xM (tv t);have ss:=XH (tv t);have hrt:rz (tv t).1=rz (rv t.1):=rfl;obtain⟨c,hcc⟩:∃c,cosQ (tv t)=c:=⟨_,rfl⟩;obtain⟨s,hss⟩:∃s,sinQ (tv t)=s:=⟨_,rfl⟩;rw [hcc]at cc;rw [hss]at ss;have m1:=Zc c (rv q.1);have m2:=Zc s (rv q.2);have m3:=Zc s (rv q.1);have m4:=Zc c (rv q.2);have er:rotQ (tv t) (av q)=(c*rv q.1-s*rv q.2,s*rv q.1+c*rv q.2):=by unfold rotQ;rw [hcc,hss];rfl
   rw [h,if_pos rfl,Qc,er]at hK;simp only [go_sem,Zr,hd,hm,hs,ha,tA,tC,ze,ht,hq.1,hq.2,Wb,h,Qc,hcc,hss];exact⟨by omega,by omega,by omega,by omega,by omega,by omega,by omega,by omega,by omega,by omega,by omega,by omega,by omega,hK⟩
  .rw [h,if_neg (by decide),e2,xbd,ub]at hK
   simp only [go_sem,Zr,hd,hm,hs,ha,tA,tC,ze,ht,Wb,h,e2];exact⟨by omega,hK⟩
theorem waN(hΓ:Xa P Γ){f fd fm fs fa:Nat}(hd:Γ fd=.dat false xC)(hm:Γ fm=.dat false jl)(hs:Γ fs=.dat false yw)(ha:Γ fa=.dat false wl)(hc:check P f=some (31,(yh fd fm fs fa).strip,[.cell 4 6 true])):ua P f (.dat false uM):=by
 refine ka hc Xbg hΓ (λargs K hcl hfi hG=>?_);match args,hG with
 | [a,b],hG=>
  obtain⟨t,rfl,ht,q,rfl,hq,hl,hl',hK⟩:=hG;refine⟨by simp,?_⟩
  have r1:=Vg ht;have q1:=Vg hq.1;have q2:=Vg hq.2;obtain⟨l1,l2⟩:=al1 hl';have cc:=xM (tv t);have ss:=XH (tv t);have hrt:rz (tv t).1=rz (rv t.1):=rfl;obtain⟨c,hcc⟩:∃c,cosQ (tv t)=c:=⟨_,rfl⟩;obtain⟨s,hss⟩:∃s,sinQ (tv t)=s:=⟨_,rfl⟩;rw [hcc]at cc;rw [hss]at ss;have m1:=Zc c (rv q.1);have m2:=Zc s (rv q.2);have m3:=Zc s (rv q.1);have m4:=Zc c (rv q.2);have er:rotQ (tv t) (av q)=(c*rv q.1-s*rv q.2,s*rv q.1+c*rv q.2):=by unfold rotQ;rw [hcc,hss];rfl
  rw [er]at hK;simp only [go_sem,yh,hd,hm,hs,ha,tA,tC,ze,ht,hq.1,hq.2,Wb,hcc,hss];exact⟨by omega,by omega,by omega,by omega,by omega,by omega,by omega,by omega,by omega,by omega,by omega,by omega,by omega,hK⟩
theorem zaS(hΓ:Xa P Γ){f fv fw fr fp tE:Nat}(hv:Γ fv=.dat true vA)(hw:Γ fw=.dat true Uk)(hr:Γ fr=.dat false (QJ tE))(hp' : Γ fp=.dat false QF)(hc:check P f=some (33,(jo fv fw fr fp tE).strip,[.cell 4 6 true,.tmp 5])):ua P f (.dat false (wL tE)):=by
 refine ka hc (Wa8 tE) hΓ (λargs K hcl hfi hG=>?_);match args,hG with
 | [a,b],hG=>
  obtain⟨p,rfl,hp,q,rfl,hq,hl,hl',hK⟩:=hG;refine⟨by simp,?_⟩
  obtain⟨l1,l2⟩:=pl1 hl;have e8:errV tE 2=.one (.lit (.iface tE (.int .i64 2))):=Zd tE (by decide)
  unfold aok at hK;cases h1:pvld p with
  | false=>
   rw [h1,Bool.false_and,if_neg (by decide),if_neg (by decide),e8,xbd,ub]at hK
   simp only [go_sem,jo,hv,hw,poA,pC,ze,hp,Wb,h1];exact⟨by omega,hK⟩
  | true=>
   cases h2:avld q with
   | false=>
    rw [h1,h2,Bool.true_and,if_neg (by decide),if_neg (by decide),e8,xbd,ub]at hK
    simp only [go_sem,jo,hv,hw,poA,pC,ze,hp,hq,Wb,h1,h2];exact⟨by omega,by omega,hK⟩
   | true=>
    rw [h1,h2,Bool.true_and,if_pos rfl,if_pos rfl,Qc]at hK;have ht:tchk p.1=0:=by
     unfold pvld at h1;rw [Bool.and_eq_true,decide_eq_true_eq]at h1;exact h1.1
    have r1:=Vg hp.1;have q1:=kac hq;have z:=Ja8 (tv p.1) (av q);have e1:rz (tv p.1).1=rz (rv p.1.1):=rfl;have e2:al (rcan (rotQ (tv p.1) (av q)).1,rcan (rotQ (tv p.1) (av q)).2)=zq (rotQ (tv p.1) (av q)):=rfl;simp only [go_sem,jo,hv,hw,hr,hp',poA,pC,ze,hp,hp.1,hp.2,hq,Wb,h1,h2,ht,Qc,UbK,Vb];exact⟨by omega,by omega,by omega,by omega,by rw [e2];omega,by omega,hK⟩
theorem waO(hΓ:Xa P Γ){f fb fl fr:Nat}(hb:Γ fb=.dat false VG)(hl' : Γ fl=.dat false Xv)(hr:Γ fr=.dat false uM)(hc:check P f=some (15,(Xg fb fl fr).strip,[.cell 2 10 true])):ua P f (.dat false qL):=by
 refine ka hc Vbe hΓ (λargs K hcl hfi hG=>?_);match args,hG with
 | [a],hG=>
  obtain⟨p,rfl,hp,hl,hK⟩:=hG;refine⟨by simp,?_⟩
  obtain⟨l1,l2⟩:=pl1 hl;have e1:subQ (0,0) (av p.2)=negQ (av p.2):=by
   unfold subQ negQ;simp only [Prod.mk.injEq];constructor <;> grind
  have r1:=Vg hp.1;have q1:=kac hp.2;have e3:al (rcan 0,rcan 0)=0:=by rw [QbP,rz_0];decide
  have e4:al (rcan (negQ (av p.2)).1,rcan (negQ (av p.2)).2)=zq (negQ (av p.2)):=rfl;have e5:=Xa6 (av p.2);have e6:rz (backQ (tv p.1)).1=rz (rv p.1.1):=qA _;have e7:tv (rcan (backQ (tv p.1)).1,(backQ (tv p.1)).2)=backQ (tv p.1):=by unfold tv;simp only [Vb]
  simp only [go_sem,Xg,hb,hl',hr,poA,pC,hp.1,hp.2,Wb,UbK,Vb,e1,e3,e7];exact⟨by omega,by omega,by omega,by rw [e4];omega,hK⟩
theorem WaP(hΓ:Xa P Γ){f fv ft fn fr tE:Nat}(hv:Γ fv=.dat true vA)(ht' : Γ ft=.dat false (qF tE))(hn:Γ fn=.dat false UL)(hr:Γ fr=.dat false (QJ tE))(hc:check P f=some (37,(wo fv ft fn fr tE).strip,[.cell 2 10 true,.tmp 3])):ua P f (.dat false (WM tE)):=by
 refine ka hc (ZaX tE) hΓ (λargs K hcl hfi hG=>?_);match args,hG with
 | [a],hG=>
  obtain⟨p,rfl,hp,hl,hK⟩:=hG;refine⟨by simp,?_⟩
  obtain⟨l1,l2⟩:=pl1 hl;have e8:errV tE 2=.one (.lit (.iface tE (.int .i64 2))):=Zd tE (by decide)
  cases h1:pvld p with
  | false=>
   rw [h1,if_neg (by decide),if_neg (by decide),e8,ya4,ub]at hK
   simp only [go_sem,wo,hv,poA,pC,hp,Wb,h1];exact⟨by omega,hK⟩
  | true=>
   rw [h1,if_pos rfl,if_pos rfl,Qc]at hK;have ht:tchk p.1=0:=by
    unfold pvld at h1;rw [Bool.and_eq_true,decide_eq_true_eq]at h1;exact h1.1
   have ht2:tchk (rcan (backQ (tv p.1)).1,(backQ (tv p.1)).2)=0:=Xbl ht;have r1:=Vg hp.1;have q1:=kac hp.2;have e4:al (rcan (negQ (av p.2)).1,rcan (negQ (av p.2)).2)=zq (negQ (av p.2)):=rfl;have e5:=Xa6 (av p.2);have e6:rz (backQ (tv p.1)).1=rz (rv p.1.1):=qA _;have e7:tv (rcan (backQ (tv p.1)).1,(backQ (tv p.1)).2)=backQ (tv p.1):=by unfold tv;simp only [Vb]
   simp only [go_sem,wo,hv,ht',hn,hr,poA,pC,hp,hp.1,hp.2,Wb,h1,ht,ht2,Qc,UbK,Vb,e7];exact⟨by omega,by omega,by omega,by omega,by rw [e4];omega,hK⟩
end Go.Abs
end
section
namespace Go.Num
def inA(y:Rat)(x:Arc):Bool:=decide (rv x.1<=y) && decide (y<rv x.2)
def idxOf(y:Rat)(l:List Arc):Int:=match l.findIdx? (inA y) with | some i=>i | none=>-1
end Go.Num
namespace Go.Abs
open Go.Num
variable {P:Program} {Γ:Nat->Spec}
def pA(y:R):AV:=.one (.ref [cb y,cn y,cd y])
def kA(f:Nat)(y:R):AV:=.one (.clo f [.ref [cb y,cn y,cd y]])
theorem ZbP(x y:R)(h:pA x=pA y):x=y:=Yt x y (by simpa [pA,rA] using h)
theorem ybO(f:Nat)(x y:R)(h:kA f x=kA f y):x=y:=Yt x y (by simpa [kA,rA] using h)
def onP(k:R->Prop)(a:AV):Prop:=onE pA (λx=>WLR x/\k x) a
@[congr] theorem Xci{k:R->Prop}{a a'}(h:a=a'):onP k a=onP k a':=by subst h;rfl
theorem xbS(k:R->Prop)(x:R):onP k (.one (.ref [cb x,cn x,cd x]))=(WLR x/\k x):=Zq ZbP (λx=>WLR x/\k x) x
def onKl(f:Nat)(k:R->Prop)(a:AV):Prop:=onE (kA f) (λx=>WLR x/\k x) a
@[congr] theorem Ub6{f}{k:R->Prop}{a a'}(h:a=a'):onKl f k a=onKl f k a':=by subst h;rfl
theorem Vbs(f:Nat)(k:R->Prop)(x:R):onKl f k (.one (.clo f [.ref [cb x,cn x,cd x]]))=(WLR x/\k x):=Zq (ybO f) (λx=>WLR x/\k x) x
attribute [go_sem,go_sem ↓] xbS Vbs
theorem J0(y:R):Jd [cb y,cn y,cd y]:=by
 intro c hc;simp only [List.mem_cons,List.not_mem_nil,or_false]at hc;rcases hc with rfl | rfl | rfl
 .exact of_eq_true (qn _)
 .exact of_eq_true (Um _)
 .exact of_eq_true (vn _)
def Xas(l:List AV)(K:AV->Prop):Prop:=
 match l with
 | [a,b]=>onA (λx=>onP (λy=>al x<=4294967296/\rl y<=4294967296/\K (.one (.lit (.bool (inA (rv y) x))))) b) a
 | _=>False
theorem Qaw a b K:Xas [a,b] K=(onA (λx=>onP (λy=>al x<=4294967296/\rl y<=4294967296/\K (.one (.lit (.bool (inA (rv y) x))))) b) a):=propext Iff.rfl
@[congr] theorem qb5{K}{l l'}(h:l=l'):Xas l K=Xas l' K:=by subst h;rfl
attribute [go_sem,go_sem ↓] Qaw
def Wa3(fc:Nat)(l:List AV)(K:AV->Prop):Prop:=
 match l with
 | [a,c]=>onAs (λl=>onKl fc (λy=>okAs 4294967296 l/\rl y<=4294967296/\K (.one (.lit (.int .i64 (idxOf (rv y) l))))) c) a
 | _=>False
theorem Jbe fc a c K:Wa3 fc [a,c] K=(onAs (λl=>onKl fc (λy=>okAs 4294967296 l/\rl y<=4294967296/\K (.one (.lit (.int .i64 (idxOf (rv y) l))))) c) a):=propext Iff.rfl
@[congr] theorem qb9 fc{K}{l l'}(h:l=l'):Wa3 fc l K=Wa3 fc l' K:=by subst h;rfl
attribute [go_sem,go_sem ↓] Jbe
def Uau(fc:Nat)(l:List AV)(K:AV->Prop):Prop:=
 match l with
 | [a,c]=>onAs (λl=>onKl fc (λy=>okAs 4294967296 l/\rl y<=4294967296/\K (.one (.lit (.bool (l.any (inA (rv y))))))) c) a
 | _=>False
theorem Xay fc a c K:Uau fc [a,c] K=(onAs (λl=>onKl fc (λy=>okAs 4294967296 l/\rl y<=4294967296/\K (.one (.lit (.bool (l.any (inA (rv y))))))) c) a):=propext Iff.rfl
@[congr] theorem Xb3 fc{K}{l l'}(h:l=l'):Uau fc l K=Uau fc l' K:=by subst h;rfl
attribute [go_sem,go_sem ↓] Xay
def Vbb(tE:Nat)(l:List AV)(K:AV->Prop):Prop:=
 match l with
 | [a,b]=>onAs (λl=>onR (λy=>okAs 4294967296 l/\rl y<=1000000000/\K (.tup [.one (.lit (.bool (decide (chk [l]=0) && (vldR y && l.any (inA (frac (rv y))))))),errV tE (if chk [l]=0 then (if vldR y then 0 else 3) else chk [l])])) b) a
 | _=>False
theorem Jbc tE a b K:Vbb tE [a,b] K=(onAs (λl=>onR (λy=>okAs 4294967296 l/\rl y<=1000000000/\K (.tup [.one (.lit (.bool (decide (chk [l]=0) && (vldR y && l.any (inA (frac (rv y))))))),errV tE (if chk [l]=0 then (if vldR y then 0 else 3) else chk [l])])) b) a):=propext Iff.rfl
@[congr] theorem Yca tE{K}{l l'}(h:l=l'):Vbb tE l K=Vbb tE l' K:=by subst h;rfl
attribute [go_sem,go_sem ↓] Jbc
end Go.Abs
end
section
namespace Go.Num
def longR(x:R):Bool:=decide (4<x.2.1.length+x.2.2.length)
def largeL(l:List Arc):Bool:=if 20<l.length then (decide (l.length<=64) || decide (200<l.length)) else l.any λx=>longR x.1 || longR x.2
def validL(l:List Arc):Bool:=!largeL l && decide (chk1 l=0)
end Go.Num
namespace Go.Abs
open Go.Num
variable {P:Program} {Γ:Nat->Spec}
def Y4(l:List AV)(K:AV->Prop):Prop:=
 match l with
 | [a]=>onAs (λl=>okAs 1073741824 l/\K (.one (.lit (.int .i64 (chk1 l:Nat))))) a
 | _=>False
theorem qah a K:Y4 [a] K=(onAs (λl=>okAs 1073741824 l/\K (.one (.lit (.int .i64 (chk1 l:Nat))))) a):=propext Iff.rfl
@[congr] theorem wbW{K}{l l'}(h:l=l'):Y4 l K=Y4 l' K:=by subst h;rfl
attribute [go_sem,go_sem ↓] qah
def jaq(l:List AV)(K:AV->Prop):Prop:=
 match l with
 | [a,b]=>onAs (λl=>onAs (λm=>okAs 1073741824 l/\okAs 1073741824 m/\K (.one (.lit (.bool (decide (vals l=vals m)))))) b) a
 | _=>False
theorem Vaz a b K:jaq [a,b] K=(onAs (λl=>onAs (λm=>okAs 1073741824 l/\okAs 1073741824 m/\K (.one (.lit (.bool (decide (vals l=vals m)))))) b) a):=propext Iff.rfl
@[congr] theorem yb5{K}{l l'}(h:l=l'):jaq l K=jaq l' K:=by subst h;rfl
attribute [go_sem,go_sem ↓] Vaz
def Yaq(l:List AV)(K:AV->Prop):Prop:=
 match l with
 | [a]=>onR (λx=>rl x<=1000000000/\K (.agg [cb (rcan (frac (rv x))),cn (rcan (frac (rv x))),cd (rcan (frac (rv x)))])) a
 | _=>False
theorem kaJ a K:Yaq [a] K=(onR (λx=>rl x<=1000000000/\K (.agg [cb (rcan (frac (rv x))),cn (rcan (frac (rv x))),cd (rcan (frac (rv x)))])) a):=propext Iff.rfl
@[congr] theorem kb4{K}{l l'}(h:l=l'):Yaq l K=Yaq l' K:=by subst h;rfl
attribute [go_sem,go_sem ↓] kaJ
def Vaq(l:List AV)(K:AV->Prop):Prop:=
 match l with
 | [a,b]=>asInt (λk n=>asInt (λk' d=>k=.i64/\k' = .i64/\(-9223372036854775808<=n/\n<=9223372036854775807)/\(-9223372036854775808<=d/\d<=9223372036854775807)/\d≠0/\K (.agg [cb (rcan (Rat.divInt n d)),cn (rcan (Rat.divInt n d)),cd (rcan (Rat.divInt n d))])) b) a
 | _=>False
theorem kaB a b K:Vaq [a,b] K=(asInt (λk n=>asInt (λk' d=>k=.i64/\k' = .i64/\(-9223372036854775808<=n/\n<=9223372036854775807)/\(-9223372036854775808<=d/\d<=9223372036854775807)/\d≠0/\K (.agg [cb (rcan (Rat.divInt n d)),cn (rcan (Rat.divInt n d)),cd (rcan (Rat.divInt n d))])) b) a):=propext Iff.rfl
@[congr] theorem yb2{K}{l l'}(h:l=l'):Vaq l K=Vaq l' K:=by subst h;rfl
attribute [go_sem,go_sem ↓] kaB
def waq(l:List AV)(K:AV->Prop):Prop:=
 match l with
 | [a]=>onR (λx=>rl x<=4294967296/\K (.one (.lit (.bool (longR x))))) a
 | _=>False
theorem JaI a K:waq [a] K=(onR (λx=>rl x<=4294967296/\K (.one (.lit (.bool (longR x))))) a):=propext Iff.rfl
@[congr] theorem Jb4{K}{l l'}(h:l=l'):waq l K=waq l' K:=by subst h;rfl
attribute [go_sem,go_sem ↓] JaI
def Yac(l:List AV)(K:AV->Prop):Prop:=
 match l with
 | [a]=>onAs (λl=>okAs 1073741824 l/\K (.one (.lit (.bool (largeL l))))) a
 | _=>False
theorem xaj a K:Yac [a] K=(onAs (λl=>okAs 1073741824 l/\K (.one (.lit (.bool (largeL l))))) a):=propext Iff.rfl
@[congr] theorem VbW{K}{l l'}(h:l=l'):Yac l K=Yac l' K:=by subst h;rfl
attribute [go_sem,go_sem ↓] xaj
def vP(l:List AV)(K:AV->Prop):Prop:=
 match l with
 | [a]=>onAs (λl=>okAs 1073741824 l/\K (.one (.lit (.bool (validL l))))) a
 | _=>False
theorem Z2 a K:vP [a] K=(onAs (λl=>okAs 1073741824 l/\K (.one (.lit (.bool (validL l))))) a):=propext Iff.rfl
@[congr] theorem WbM{K}{l l'}(h:l=l'):vP l K=vP l' K:=by subst h;rfl
attribute [go_sem,go_sem ↓] Z2
def V7(tE:Nat)(l:List AV)(K:AV->Prop):Prop:=
 match l with
 | [a]=>onAs (λl=>K (.tup [.one (.slice ((if 64<l.length then [] else l).map aC)),errV tE (if 64<l.length then 4 else 0)])) a
 | _=>False
theorem Qam tE a K:V7 tE [a] K=(onAs (λl=>K (.tup [.one (.slice ((if 64<l.length then [] else l).map aC)),errV tE (if 64<l.length then 4 else 0)])) a):=propext Iff.rfl
@[congr] theorem Jb0 tE{K}{l l'}(h:l=l'):V7 tE l K=V7 tE l' K:=by subst h;rfl
attribute [go_sem,go_sem ↓] Qam
end Go.Abs
end
