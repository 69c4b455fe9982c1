/-
  Parts of the proof, merged: IntK, PolyS, PolyU, PolyT, PolyV, RefB, RefC, RefD, RefE, RefF.
-/
import Derived.Test.YtneiiodebbmcaaaGreatDoorM14
set_option linter.unusedVariables false
set_option linter.unusedSimpArgs false
set_option maxRecDepth 100000
section
namespace Go.Abs
open Go.Num
variable {P:Program} {Γ:Nat->Spec}
def vl:AC:=(.seq (.ops false [.u 1 (.box 2 (.t 0)),.m 2 .fa])
 (.fg [1] (.seq (.seq (.ops false [.u 3 (.fa 1 (.t 1)),.u 4 (.ld none 1 false (.t 3)),.u 5 (.len (.t 4)),.u 6 (.bin .eql (.t 5) (.i 0))])
 (.fg [1,6] (.cond (.t 6) (.seq (.ops false [.u 7 (.fa 0 (.t 1)),.u 8 (.ld none 1 false (.t 7)),.u 9 (.un .not (.t 8)),.m 2 (.t 9)])
 .ret) .skip)))
 (.fg [1] (.seq (.ops false [.u 10 (.fa 1 (.t 1)),.u 11 (.ld none 1 false (.t 10)),.u 12 (.fa 1 (.t 1)),.u 13 (.ld none 1 false (.t 12)),.u 14 (.len (.t 13)),.u 15 (.bin .sub (.t 14) (.i 1)),.u 16 (.idx 1 (.t 11) (.t 15)),.u 17 (.ld none 1 false (.t 16)),.u 18 (.bin .neq (.t 17) (.c (.one (.lit (.int .u32 0))))),.m 2 (.t 18)])
 .ret)))))
def xo(f0:Nat):AC:=(.seq (.ops false [.u 1 (.box 2 (.t 0)),.m 2 (.c (.one .emp))])
 (.fg [1] (.seq (.seq (.ops false [.u 3 (.ld none 2 true (.t 1)),.u 4 (.call f0 [(.t 3)]),.u 5 (.un .not (.t 4))])
 (.fg [1,5] (.cond (.t 5) (.seq (.ops false [.m 2 (.c (.one .emp))])
 .ret) .skip)))
 (.fg [1] (.seq (.ops false [.u 6 (.fa 1 (.t 1)),.u 7 (.ld none 1 false (.t 6)),.m 2 (.t 7)])
 .ret)))))
def Vp(f0:Nat):AC:=(.seq (.ops false [.u 1 (.box 2 (.t 0)),.m 2 .fa])
 (.fg [1] (.seq (.ops false [.u 3 (.ld none 2 true (.t 1)),.u 4 (.call f0 [(.t 3)]),.m 5 (.t 4),.w 6 5 true (.fa 0 (.t 1)),.w 7 5 true (.ld none 1 false (.t 6)),.u 8 (.pick (.t 5) (.t 7) .fa),.m 2 (.t 8)])
 .ret)))
def Wr(f0:Nat):AC:=(.seq (.ops false [.u 4 (.alloc [(.lit (.bool false)),.emp])])
 (.fg [0,1,4] (.seq (.ops false [.m 5 (.t 1),.u 6 (.call f0 [(.t 5)]),.m 1 (.t 6)])
 (.fg [0,1,4] (.seq (.ops false [.m 7 (.t 0),.m 8 (.t 7),.w 9 8 true (.mv (.t 1)),.w 10 8 true (.len (.t 9)),.w 11 8 true (.bin .gtr (.t 10) (.i 0)),.u 12 (.pick (.t 8) (.t 11) .fa),.m 13 (.t 1),.u 14 (.build [.x 1 (.t 12),.x 1 (.t 13)]),.n (.st none 2 (.t 4) (.t 14))])
 .ret)))))
def zu(f0:Nat):AC:=(.seq (.ops false [.u 2 (.alloc [(.lit (.bool false)),.emp])])
 (.fg [0,2] (.seq (.ops false [.m 4 (.t 0),.u 5 (.conv .u64 (.t 4)),.m 3 (.t 5)])
 (.fg [0,2,3] (.seq (.seq (.ops false [.m 6 (.t 0),.u 7 (.bin .lss (.t 6) (.i 0))])
 (.fg [0,2,3,7] (.cond (.t 7) (.ops false [.m 8 (.t 3),.u 9 (.un .neg (.t 8)),.m 3 (.t 9)]) .skip)))
 (.fg [0,2,3] (.seq (.ops false [.m 10 (.t 0),.u 11 (.bin .lss (.t 10) (.i 0)),.m 12 (.t 3),.u 13 (.conv .u32 (.t 12)),.m 14 (.t 3),.u 15 (.bin .shr (.t 14) (.c (.one (.lit (.int .u64 32))))),.u 16 (.conv .u32 (.t 15)),.u 17 (.row 1 [[.x 1 (.t 13)],[.x 1 (.t 16)]]),.u 18 (.call f0 [(.t 11),(.t 17)]),.n (.st none 2 (.t 2) (.t 18))])
 .ret)))))))
def Wu(f0:Nat):AC:=(.seq (.ops false [.u 1 (.box 2 (.t 0)),.m 2 (.i 0)])
 (.fg [1] (.seq (.block 0 (.seq (.ops false [.u 4 (.ld none 2 true (.t 1)),.u 5 (.call f0 [(.t 4)]),.u 6 (.len (.t 5)),.u 7 (.bin .eql (.t 6) (.i 0)),.m 3 (.t 7)])
 (.fg [1,3] (.cond (.t 3) (.seq (.ops false [.m 2 (.i 0)])
 .ret) (.seq (.ops false [.u 9 (.fa 0 (.t 1)),.u 10 (.ld none 1 false (.t 9)),.m 8 (.t 10)])
 (.fg [8] (.cond (.t 8) (.seq (.ops false [.m 2 (.i (-1))])
 .ret) .skip)))))))
 (.fg [] (.seq (.ops false [.m 2 (.i 1)])
 .ret)))))
def Xw(f0 f1 f2 f3:Nat):AC:=(.seq (.ops false [.u 2 (.box 2 (.t 0)),.u 3 (.box 2 (.t 1)),.m 4 (.i 0)])
 (.fg [2,3] (.seq (.seq (.ops true [.u 8 (.ld none 2 true (.t 2)),.u 9 (.call f0 [(.t 8)]),.u 10 (.ld none 2 true (.t 3)),.u 11 (.call f0 [(.t 10)]),.m 5 (.t 9),.m 6 (.t 11)])
 (.fg [2,3,5,6] (.seq (.ops false [.m 12 (.t 5),.m 13 (.t 6),.u 14 (.bin .neq (.t 12) (.t 13))])
 (.fg [2,3,5,6,14] (.cond (.t 14) (.seq (.seq (.ops false [.m 15 (.t 5),.m 16 (.t 6),.u 17 (.bin .lss (.t 15) (.t 16))])
 (.fg [17] (.cond (.t 17) (.seq (.ops false [.m 4 (.i (-1))])
 .ret) .skip)))
 (.fg [] (.seq (.ops false [.m 4 (.i 1)])
 .ret))) .skip)))))
 (.fg [2,3] (.seq (.ops true [.u 18 (.ld none 2 true (.t 2)),.u 19 (.call f1 [(.t 18)]),.u 20 (.ld none 2 true (.t 3)),.u 21 (.call f1 [(.t 20)]),.u 22 (.call f2 [(.t 19),(.t 21)]),.m 7 (.t 22)])
 (.fg [2,7] (.seq (.seq (.ops false [.u 23 (.ld none 2 true (.t 2)),.u 24 (.call f3 [(.t 23)])])
 (.fg [7,24] (.cond (.t 24) (.seq (.ops false [.m 25 (.t 7),.u 26 (.un .neg (.t 25)),.m 4 (.t 26)])
 .ret) .skip)))
 (.fg [7] (.seq (.ops false [.m 27 (.t 7),.m 4 (.t 27)])
 .ret)))))))))
def Jp(f0 f1 f2:Nat):AC:=(.seq (.ops false [.u 1 (.box 2 (.t 0)),.u 2 (.alloc [(.lit (.bool false)),.emp])])
 (.fg [1,2] (.seq (.ops true [.u 3 (.ld none 2 true (.t 1)),.u 4 (.call f0 [(.t 3)]),.u 5 (.un .not (.t 4)),.u 6 (.ld none 2 true (.t 1)),.u 7 (.call f1 [(.t 6)]),.u 8 (.call f2 [(.t 5),(.t 7)]),.n (.st none 2 (.t 2) (.t 8))])
 .ret)))
def Vx(f0 f1 f2 f3 f4 f5:Nat):AC:=(.seq (.ops false [.u 2 (.box 2 (.t 0)),.u 3 (.box 2 (.t 1)),.u 4 (.alloc [(.lit (.bool false)),.emp])])
 (.fg [2,3,4] (.seq (.ops true [.u 7 (.ld none 2 true (.t 2)),.u 8 (.call f0 [(.t 7)]),.u 9 (.ld none 2 true (.t 3)),.u 10 (.call f0 [(.t 9)]),.m 5 (.t 8),.m 6 (.t 10)])
 (.fg [2,3,4,5,6] (.seq (.block 0 (.seq (.ops true [.u 12 (.ld none 2 true (.t 2)),.u 13 (.call f1 [(.t 12)]),.u 14 (.ld none 2 true (.t 3)),.u 15 (.call f1 [(.t 14)]),.u 16 (.binb .eql (.t 13) (.t 15)),.m 11 (.t 16)])
 (.fg [2,3,4,5,6,11] (.cond (.t 11) (.seq (.ops false [.u 17 (.ld none 2 true (.t 2)),.u 18 (.call f1 [(.t 17)]),.m 19 (.t 5),.m 20 (.t 6),.u 21 (.call f2 [(.t 19),(.t 20)]),.u 22 (.call f3 [(.t 18),(.t 21)]),.n (.st none 2 (.t 4) (.t 22))])
 .ret) (.seq (.ops false [.m 24 (.t 5),.m 25 (.t 6),.u 26 (.call f4 [(.t 24),(.t 25)]),.u 27 (.bin .geq (.t 26) (.i 0)),.m 23 (.t 27)])
 (.fg [2,3,4,5,6,23] (.cond (.t 23) (.seq (.ops false [.u 28 (.ld none 2 true (.t 2)),.u 29 (.call f1 [(.t 28)]),.m 30 (.t 5),.m 31 (.t 6),.u 32 (.call f5 [(.t 30),(.t 31)]),.u 33 (.call f3 [(.t 29),(.t 32)]),.n (.st none 2 (.t 4) (.t 33))])
 .ret) .skip)))))))
 (.fg [3,4,5,6] (.seq (.ops false [.u 34 (.ld none 2 true (.t 3)),.u 35 (.call f1 [(.t 34)]),.m 36 (.t 6),.m 37 (.t 5),.u 38 (.call f5 [(.t 36),(.t 37)]),.u 39 (.call f3 [(.t 35),(.t 38)]),.n (.st none 2 (.t 4) (.t 39))])
 .ret)))))))
def Uo(f0 f1 f2 f3:Nat):AC:=(.seq (.ops false [.u 2 (.box 2 (.t 0)),.u 3 (.box 2 (.t 1)),.u 4 (.alloc [(.lit (.bool false)),.emp])])
 (.fg [2,3,4] (.seq (.ops true [.u 5 (.ld none 2 true (.t 2)),.u 6 (.call f0 [(.t 5)]),.u 7 (.ld none 2 true (.t 3)),.u 8 (.call f0 [(.t 7)]),.u 9 (.binb .neq (.t 6) (.t 8)),.u 10 (.ld none 2 true (.t 2)),.u 11 (.call f1 [(.t 10)]),.u 12 (.ld none 2 true (.t 3)),.u 13 (.call f1 [(.t 12)]),.u 14 (.call f2 [(.t 11),(.t 13)]),.u 15 (.call f3 [(.t 9),(.t 14)]),.n (.st none 2 (.t 4) (.t 15))])
 .ret)))
def ux(f0 f1 f2:Nat):AC:=(.seq (.ops false [.u 2 (.box 2 (.t 0)),.u 3 (.box 2 (.t 1)),.u 4 (.alloc [(.lit (.bool false)),.emp])])
 (.fg [2,3,4] (.seq (.ops true [.u 9 (.ld none 2 true (.t 2)),.u 10 (.call f0 [(.t 9)]),.u 11 (.ld none 2 true (.t 3)),.u 12 (.call f0 [(.t 11)]),.m 5 (.t 10),.m 6 (.t 12)])
 (.fg [4,5,6] (.seq (.block 0 (.loop (.seq (.seq (.ops false [.m 13 (.t 6),.u 14 (.len (.t 13)),.u 15 (.bin .gtr (.t 14) (.i 0))])
 (.fg [4,5,6,15] (.cond (.t 15) .skip (.exit 0))))
 (.fg [4,5,6] (.block 1 (.seq (.ops false [.m 17 (.t 5),.m 18 (.t 6),.u 19 (.call f1 [(.t 17),(.t 18)]),.m 16 (.t 19),.u 20 (.ext 0 (.t 16)),.u 21 (.ext 1 (.t 16)),.m 7 (.t 20),.m 8 (.t 21)])
 (.fg [4,6,8] (.ops false [.m 22 (.t 6),.m 23 (.t 8),.m 5 (.t 22),.m 6 (.t 23)]))))))))
 (.fg [4,5] (.seq (.ops false [.m 24 (.t 5),.u 25 (.call f2 [.fa,(.t 24)]),.n (.st none 2 (.t 4) (.t 25))])
 .ret)))))))
def yx(f0 f1 f2 f3 f4 f5 tE:Nat):AC:=(.seq (.ops false [.u 2 (.box 2 (.t 0)),.u 3 (.box 2 (.t 1)),.u 4 (.alloc [(.lit (.bool false)),.emp]),.u 5 (.alloc [(.lit (.bool false)),.emp]),.m 6 (.c (.one (.lit .nilIface)))])
 (.fg [2,3,4,5] (.seq (.ops false [.u 10 (.ld none 2 true (.t 3)),.u 11 (.call f0 [(.t 10)]),.m 7 (.t 11)])
 (.fg [2,3,4,5,7] (.seq (.seq (.ops false [.m 12 (.t 7),.u 13 (.len (.t 12)),.u 14 (.bin .eql (.t 13) (.i 0))])
 (.fg [2,3,4,5,7,14] (.cond (.t 14) (.seq (.ops false [.u 15 (.build [.z [(.lit (.bool false)),.emp]]),.u 16 (.build [.z [(.lit (.bool false)),.emp]]),.u 17 (.iface tE (.i 8)),.n (.st none 2 (.t 4) (.t 15)),.n (.st none 2 (.t 5) (.t 16)),.m 6 (.t 17)])
 .ret) .skip)))
 (.fg [2,3,4,5,7] (.seq (.ops false [.u 19 (.ld none 2 true (.t 2)),.u 20 (.call f0 [(.t 19)]),.m 21 (.t 7),.u 22 (.call f1 [(.t 20),(.t 21)]),.m 18 (.t 22),.u 23 (.ext 0 (.t 18)),.u 24 (.ext 1 (.t 18)),.m 8 (.t 23),.m 9 (.t 24)])
 (.fg [2,3,4,5,7,8,9] (.seq (.seq (.ops false [.u 25 (.ld none 2 true (.t 2)),.u 26 (.call f2 [(.t 25)]),.m 27 (.t 26),.w 28 27 true (.mv (.t 9)),.w 29 27 true (.len (.t 28)),.w 30 27 true (.bin .gtr (.t 29) (.i 0)),.u 31 (.pick (.t 27) (.t 30) .fa)])
 (.fg [2,3,4,5,7,8,9,31] (.cond (.t 31) (.ops false [.m 32 (.t 8),.u 33 (.row 1 [[.x 1 (.c (.one (.lit (.int .u32 1))))]]),.u 34 (.call f3 [(.t 32),(.t 33)]),.m 35 (.t 7),.m 36 (.t 9),.u 37 (.call f4 [(.t 35),(.t 36)]),.m 8 (.t 34),.m 9 (.t 37)]) .skip)))
 (.fg [2,3,4,5,8,9] (.seq (.ops true [.u 38 (.ld none 2 true (.t 2)),.u 39 (.call f2 [(.t 38)]),.u 40 (.ld none 2 true (.t 3)),.u 41 (.call f2 [(.t 40)]),.u 42 (.binb .neq (.t 39) (.t 41)),.m 43 (.t 8),.u 44 (.call f5 [(.t 42),(.t 43)]),.m 45 (.t 9),.u 46 (.call f5 [.fa,(.t 45)]),.n (.st none 2 (.t 4) (.t 44)),.n (.st none 2 (.t 5) (.t 46)),.m 6 (.c (.one (.lit .nilIface)))])
 .ret)))))))))))
theorem xI(hΓ:Holds P Γ){f:Nat}(hc:check P f=some (19,vl.strip,[.tmp 2])):Sound P f (.dat true Xj):=by
 refine ka hc qap hΓ (λargs K hcl hfi hG=>?_);match args,hG with
 | [a],hG=>
  obtain⟨w,rfl,hw,hK⟩:=hG;refine⟨by simp,?_⟩
  simp only [go_sem,vl,ybq,waG];unfold vldW at hK;intro hlen;refine⟨λh=>?_,λh _=>?_⟩
  .rw [if_pos (List.length_eq_zero_iff.1 h)]at hK;exact hK
  .have hn:w.2≠[]:=λe=>h (by rw [e];rfl)
   rw [if_neg hn]at hK;refine⟨⟨by omega,by omega⟩,by omega,by omega,?_⟩
   have e1:((w.2.length:Int)-1).toNat=w.2.length-1:=by omega
   rw [e1];have e2:(!decide (w.2.getD (w.2.length-1) 0=0))=decide (NZ w.2):=by
    rw [<-decide_not,decide_eq_decide];unfold NZ;rw [List.getLast?_eq_getElem?,List.getElem?_eq_getElem (by omega),List.getD_eq_getElem?_getD,List.getElem?_eq_getElem (by omega)]
    simp
   rw [e2];exact hK
theorem YV(hΓ:Holds P Γ){f fv:Nat}(hv:Γ fv=.dat true Xj)(hc:check P f=some (8,(xo fv).strip,[.tmp 2])):Sound P f (.dat false jk):=by
 refine ka hc ZaZ hΓ (λargs K hcl hfi hG=>?_);match args,hG with
 | [a],hG=>
  obtain⟨w,rfl,hw,hK⟩:=hG;refine⟨by simp,?_⟩
  simp only [go_sem,xo,hv,hw];rw [<-kbL hw]at hK;refine⟨λh=>?_,λh=>?_⟩
  .rw [if_pos h]at hK;exact hK
  .rw [if_neg (by rw [h];simp)]at hK;exact hK
theorem uO(hΓ:Holds P Γ){f fv:Nat}(hv:Γ fv=.dat true Xj)(hc:check P f=some (9,(Vp fv).strip,[.tmp 2])):Sound P f (.dat true zg):=by
 refine ka hc qaH hΓ (λargs K hcl hfi hG=>?_);match args,hG with
 | [a],hG=>
  obtain⟨w,rfl,hw,hK⟩:=hG;refine⟨by simp,?_⟩
  simp only [go_sem,Vp,hv,hw];rw [<-Za9 hw]at hK;refine⟨λh=>?_,λh=>?_⟩
  .rw [h,Bool.true_and]at hK;exact hK
  .rw [h,Bool.false_and]at hK;exact hK
theorem Zan(hΓ:Holds P Γ){f ft:Nat}(ht:Γ ft=.dat false Qv)(hc:check P f=some (15,(Wr ft).strip,[.cell 4 2 true])):Sound P f (.dat false kf):=by
 refine ka hc UQ hΓ (λargs K hcl hfi hG=>?_);match args,hG with
 | [a,m],hG=>
  obtain⟨b,rfl,hG⟩:=zD hG;obtain⟨l,rfl,hl,hlen,hK⟩:=hG;refine⟨by simp,?_⟩
  simp only [go_sem,Wr,ht];rw [<-ZW]at hK;refine⟨hl,hlen,λh _=>?_,λh=>?_⟩
  .rw [h,Bool.true_and]at hK;exact hK
  .rw [h,Bool.false_and]at hK;exact hK
theorem Y7(hΓ:Holds P Γ){f fw:Nat}(hw:Γ fw=.dat false kf)(hc:check P f=some (19,(zu fw).strip,[.cell 2 2 true])):Sound P f (.dat false ZJ):=by
 refine ka hc zbg hΓ (λargs K hcl hfi hG=>?_);match args,hG with
 | [a],hG=>
  obtain⟨k,n,rfl,rfl,hn1,hn2,hK⟩:=Jb hG;refine⟨by simp,?_⟩
  simp only [go_sem,zu,hw];have e0:(18446744073709551616:Int)=((18446744073709551616:Nat):Int):=rfl;have key:∀(x:Nat) (b:Bool),x<18446744073709551616->sg b x=n->
    onWs (λl=>l.length<=68719476736/\K (AV.agg [zb (zcan (sg b (val l))),zm (zcan (sg b (val l)))]))
     (AV.one (C.slice [[C.lit (Value.int IntKind.u32 ((x:Int) % 4294967296))],[C.lit (Value.int IntKind.u32 ((x:Int) / 2 ^ 32 % 4294967296))]])):=by
   intro x b hx hs;have e1:((x:Int) % 4294967296)=((x % 4294967296:Nat):Int):=by omega
   have e2:((x:Int) / 2 ^ 32 % 4294967296)=((x / 4294967296:Nat):Int):=by omega
   rw [e1,e2,VaO];refine⟨?_,by simp,?_⟩
   .rw [Yc,Yc];exact⟨by omega,by omega,Xc⟩
   .have:val [x % 4294967296,x / 4294967296]=x:=by
     simp only [uj,Jo];omega
    rw [this,hs];exact hK
  refine⟨λh=>⟨⟨by omega,by omega,by decide⟩,?_⟩,λh=>⟨⟨by omega,by omega,by decide⟩,?_⟩⟩
  .have e:(-(n % 18446744073709551616) % 18446744073709551616:Int)=((-n).toNat:Int):=by omega
   rw [e];refine key _ _ (by omega) ?_
   rw [decide_eq_true h];unfold sg;rw [if_pos rfl];omega
  .have e:(n % 18446744073709551616:Int)=(n.toNat:Int):=by omega
   rw [e];refine key _ _ (by omega) ?_
   rw [decide_eq_false h];unfold sg;rw [if_neg (by simp)];omega
theorem Xaj(hΓ:Holds P Γ){f fm:Nat}(hm:Γ fm=.dat false jk)(hc:check P f=some (11,(Wu fm).strip,[.tmp 2])):Sound P f (.dat true vg):=by
 refine ka hc QT hΓ (λargs K hcl hfi hG=>?_);match args,hG with
 | [a],hG=>
  obtain⟨w,rfl,hw,hK⟩:=hG;refine⟨by simp,?_⟩
  simp only [go_sem,Wu,hm,hw,ybq,waG];intro _;show((digs (zv w).natAbs).length=0->_)/\(¬(digs (zv w).natAbs).length=0->_);have h0:(digs (zv w).natAbs).length=0↔zv w=0:=Qy;rw [h0];refine⟨λh=>?_,λh=>⟨λhb=>?_,λhb=>?_⟩⟩
  .rw [h]at hK;exact hK
  .have:zv w<0:=by
    have:=Za9 hw;rw [hb,Bool.and_true]at this;have hv:vldW w=true:=by
     cases hv:vldW w with
     | true=>rfl
     | false=>exact absurd (yao hv) h
    rw [hv]at this;simpa using this.symm
   rw [Int.sign_eq_neg_one_of_neg this]at hK;exact hK
  .have:¬zv w<0:=by
    have:=Za9 hw;rw [hb,Bool.and_false]at this;simpa using this.symm
   rw [Int.sign_eq_one_of_pos (by omega)]at hK;exact hK
theorem kaJ(hΓ:Holds P Γ){f fs fm fc fn:Nat}(hs:Γ fs=.dat true vg)(hm:Γ fm=.dat false jk)(hc' : Γ fc=.dat false Yi)(hn:Γ fn=.dat true zg)
  (hc:check P f=some (28,(Xw fs fm fc fn).strip,[.tmp 4])):Sound P f (.dat true vD):=by
 refine ka hc WaY hΓ (λargs K hcl hfi hG=>?_);match args,hG with
 | [a,b],hG=>
  obtain⟨v,rfl,hv,w,rfl,hw,hK⟩:=hG;refine⟨by simp,?_⟩
  simp only [go_sem,Xw,hs,hm,hc',hn,hv,hw];simp only [jb];have hs:∀n:Int,Int.sign n=if n<0 then -1 else if n=0 then 0 else 1:=by
   intro n;split
   .exact Int.sign_eq_neg_one_of_neg ‹_›
   .split
    .rename_i h;rw [h];rfl
    .exact Int.sign_eq_one_of_pos (by omega)
  rw [hs,hs];generalize zv v=x at hK ⊢;generalize zv w=y at hK ⊢;refine⟨λh=>⟨Ua _,Ua _,Yq _,Yq _,λhx=>⟨?_,?_⟩,λhx=>?_⟩,λh=>⟨λh'=>?_,λh'=>?_⟩⟩
  .unfold ordN;split <;> (try split) <;> omega
  .have e:-ordN x.natAbs y.natAbs=ordI x y:=by
    unfold ordN ordI;rw [if_pos hx]at h;have hy:y<0:=by
     split at h
     .assumption
     .split at h <;> omega
    split <;> (try split) <;> (try split) <;> (try split) <;> omega
   rw [e];exact hK
  .have e:ordN x.natAbs y.natAbs=ordI x y:=by
    unfold ordN ordI;rw [if_neg hx]at h;have hy:¬y<0:=by
     intro hy;rw [if_pos hy]at h;split at h <;> omega
    split <;> (try split) <;> (try split) <;> (try split) <;> omega
   rw [e];exact hK
  .have e:ordI x y = -1:=wbp (by
    split at h' <;> split at h' <;> (try split at h') <;> (try split at h') <;> omega)
   rw [e]at hK;exact hK
  .have e:ordI x y=1:=Ybo (by
    split at h' <;> split at h' <;> (try split at h') <;> (try split at h') <;> (try split at h) <;> (try split at h) <;> (try split at h) <;> (try split at h) <;> omega)
   rw [e]at hK;exact hK
theorem jQ(hΓ:Holds P Γ){f fn fm fw:Nat}(hn:Γ fn=.dat true zg)(hm:Γ fm=.dat false jk)(hw' : Γ fw=.dat false kf)(hc:check P f=some (9,(Jp fn fm fw).strip,[.cell 2 2 true])):Sound P f (.dat false Zw):=by
 refine ka hc Za8 hΓ (λargs K hcl hfi hG=>?_);match args,hG with
 | [a],hG=>
  obtain⟨w,rfl,hw,hz,hK⟩:=hG;refine⟨by simp,?_⟩
  simp only [go_sem,Jp,hn,hm,hw',hw];rw [jb];refine⟨Ua _,hz,?_⟩;have e:sg (!decide (zv w<0)) (zv w).natAbs = -zv w:=by
   unfold sg;by_cases h:zv w<0 <;> simp [h] <;> omega
  rw [e];exact hK
theorem JV(hΓ:Holds P Γ){f fn fm ft fw:Nat}(hn:Γ fn=.dat true zg)(hm:Γ fm=.dat false jk)(ht:Γ ft=.dat false zr)(hw' : Γ fw=.dat false kf)(hc:check P f=some (16,(Uo fn fm ft fw).strip,[.cell 4 2 true])):Sound P f (.dat false qw):=by
 refine ka hc yaS hΓ (λargs K hcl hfi hG=>?_);match args,hG with
 | [a,b],hG=>
  obtain⟨v,rfl,hv,w,rfl,hw,hz,hz',hK⟩:=hG;refine⟨by simp,?_⟩
  simp only [go_sem,Uo,hn,hm,ht,hw',hw,hv];simp only [jb];have e:sg (!(decide (zv v<0) == decide (zv w<0))) ((zv v).natAbs*(zv w).natAbs)=zv v*zv w:=vbD _ _;rw [e];refine⟨Ua _,Ua _,hz,hz',Ua _,?_,hK⟩;have:=jq (zv v) (zv w);unfold zs at *
  rw [<-Int.natAbs_mul];omega
theorem XaI(hΓ:Holds P Γ){f fn fm fp fw fc fl:Nat}(hn:Γ fn=.dat true zg)(hm:Γ fm=.dat false jk)(hp:Γ fp=.dat false xr)(hw' : Γ fw=.dat false kf)(hc' : Γ fc=.dat false Yi)(hl:Γ fl=.dat false Yv)(hc:check P f=some (40,(Vx fm fn fp fw fc fl).strip,[.cell 4 2 true])):Sound P f (.dat false Wy):=by
 refine ka hc U4 hΓ (λargs K hcl hfi hG=>?_);match args,hG with
 | [a,b],hG=>
  obtain⟨v,rfl,hv,w,rfl,hw,hz,hz',hK⟩:=hG;refine⟨by simp,?_⟩
  simp only [go_sem,Vx,hn,hm,hp,hw',hc',hl,hw,hv];simp only [jb];have hsz:=jL (zv v) (zv w);refine⟨λh=>⟨Ua _,Ua _,hz,hz',Ua _,?_,?_⟩,λh=>⟨Ua _,Ua _,Yq _,Yq _,λho=>⟨Ua _,Ua _,by unfold zs at hz;omega,?_,Ua _,?_,?_⟩,λho=>⟨Ua _,Ua _,by unfold zs at hz';omega,?_,Ua _,?_,?_⟩⟩⟩
  .have e:=Wz (Yj h);rw [show(zv v).natAbs+(zv w).natAbs=(zv v+zv w).natAbs by have:=Yj h;omega]
   unfold zs at *;omega
  .rw [Wz (Yj h)];exact hK
  .exact(Zx.1 ho)
  .have:=ua (Nat.sub_le (zv v).natAbs (zv w).natAbs);unfold zs at *;omega
  .have h1:=Zx.1 ho;rw [Zav (xt h) h1];exact hK
  .have:=mt Zx.2 ho;omega
  .have:=ua (Nat.sub_le (zv w).natAbs (zv v).natAbs);unfold zs at *;omega
  .have h1:=mt Zx.2 ho;rw [Zav (λe=>xt h e.symm) (by omega),Int.add_comm];exact hK
theorem YaG(hΓ:Holds P Γ){f fn fm fp fw fd fl tE:Nat}(hn:Γ fn=.dat true zg)(hm:Γ fm=.dat false jk)(hp:Γ fp=.dat false xr)(hw' : Γ fw=.dat false kf)(hd:Γ fd=.dat false Zi)(hl:Γ fl=.dat false Yv)(hc:check P f=some (47,(yx fm fd fn fp fl fw tE).strip,[.cell 4 2 true,.cell 5 2 true,.tmp 6])):Sound P f (.dat false WE):=by
 refine ka hc zaP hΓ (λargs K hcl hfi hG=>?_);match args,hG with
 | [a,b],hG=>
  obtain⟨v,rfl,hv,w,rfl,hw,hz,hz',h0,hK⟩:=hG;refine⟨by simp,?_⟩
  simp only [go_sem,yx,hn,hm,hp,hw',hd,hl,hw,hv];simp only [jb];have hne:¬(digs (zv w).natAbs).length=0:=λe=>h0 (Qy.1 e);intro _;refine⟨λe=>absurd e hne,λ_=>⟨Ua _,Ua _,Yq _,Yq _,λe=>hne (by rw [e];rfl),hz,hz',?_⟩⟩
  have hq:(digs ((zv v).natAbs / (zv w).natAbs)).length<=17179869184:=Nat.le_trans (ua (Nat.div_le_self _ _)) hz;have hr:(digs ((zv v).natAbs % (zv w).natAbs)).length<=17179869184:=Nat.le_trans (ua (Nat.mod_le _ _)) hz;have hz'' : (digs (zv w).natAbs).length<=17179869184:=hz';have hlt:=Nat.mod_lt (zv v).natAbs (show 0<(zv w).natAbs by omega)
  have hfin:(0<=zv v∨(zv v).natAbs % (zv w).natAbs=0)->K (AV.tup
    [AV.agg [zb (zcan (sg (!(decide (zv v<0) == decide (zv w<0))) ((zv v).natAbs / (zv w).natAbs))),zm (zcan (sg (!(decide (zv v<0) == decide (zv w<0))) ((zv v).natAbs / (zv w).natAbs)))],
     AV.agg [zb (zcan (sg false ((zv v).natAbs % (zv w).natAbs))),zm (zcan (sg false ((zv v).natAbs % (zv w).natAbs)))],AV.one (C.lit Value.nilIface)]):=by
   intro h;obtain⟨e1,e2⟩:=qaF h0 h;have e1' : sg (!(decide (zv v<0) == decide (zv w<0))) ((zv v).natAbs / (zv w).natAbs)=zv v / zv w:=e1;have e2' : sg false ((zv v).natAbs % (zv w).natAbs)=zv v % zv w:=e2;rw [e1',e2'];exact hK
  refine⟨λhneg _=>⟨λhp=>⟨Ua _,(Vay _ 1).mpr ⟨Yc.2 ⟨by decide,Xc⟩,hq,by decide,Ua _,Ua _,by omega,by omega,Ua _,?_,Ua _,?_,?_⟩⟩,λhp=>⟨Ua _,by omega,Ua _,by omega,hfin (.inr ?_)⟩⟩,λhneg=>⟨Ua _,by omega,Ua _,by omega,hfin (.inl (by omega))⟩⟩
  .have hv1:val [1]=1:=rfl;rw [hv1];have h1:zs 1<=2:=Jr (by decide)
   have:=jL (((zv v).natAbs / (zv w).natAbs:Nat):Int) 1;have e:(((zv v).natAbs / (zv w).natAbs:Nat):Int)+1=(((zv v).natAbs / (zv w).natAbs+1:Nat):Int):=by omega
   rw [e]at this;have h3:zs (((zv v).natAbs / (zv w).natAbs:Nat):Int)=(digs ((zv v).natAbs / (zv w).natAbs)).length:=rfl;have h4:zs (((zv v).natAbs / (zv w).natAbs+1:Nat):Int)=(digs ((zv v).natAbs / (zv w).natAbs+1)).length:=rfl;rw [h3,h4]at this;omega
  .have:=ua (Nat.sub_le (zv w).natAbs ((zv v).natAbs % (zv w).natAbs));omega
  .have hv1:val [1]=1:=rfl;rw [hv1];have hne' : (zv v).natAbs % (zv w).natAbs≠0:=by
    intro e;rw [e,Wb]at hp;simp at hp
   obtain⟨e1,e2⟩:=qaA h0 hneg hne';have e1' : sg (!(decide (zv v<0) == decide (zv w<0))) ((zv v).natAbs / (zv w).natAbs+1)=zv v / zv w:=e1;have e2' : sg false ((zv w).natAbs-(zv v).natAbs % (zv w).natAbs)=zv v % zv w:=e2;rw [e1',e2'];exact hK
  .have:digs ((zv v).natAbs % (zv w).natAbs)=[]:=List.eq_nil_of_length_eq_zero (by omega)
   exact kg.1 this
theorem WaF(hΓ:Holds P Γ){f fm fd fw:Nat}(hm:Γ fm=.dat false jk)(hw' : Γ fw=.dat false kf)(hd:Γ fd=.dat false Zi)(hc:check P f=some (26,(ux fm fd fw).strip,[.cell 4 2 true])):Sound P f (.dat false uu):=by
 refine ka hc zaa hΓ (λargs K hcl hfi hG=>?_);match args,hG with
 | [a,b],hG=>
  obtain⟨v,rfl,hv,w,rfl,hw,hz,hz',hK⟩:=hG;refine⟨by simp,?_⟩
  simp only [go_sem,ux,hm,hw',hd,hw,hv];refine Ya (λp:Nat×Nat=>⟨mkV [(4,.one (.ptr 4 1 0 0)),(5,.one (ws (digs p.1))),(6,.one (ws (digs p.2)))],mkH [(4,⟨1,some ⟨[[.lit (.bool false),.emp]],2,true⟩⟩)]⟩)
   (λp=>(digs p.1).length<=17179869184/\(digs p.2).length<=17179869184/\Nat.gcd p.1 p.2=Int.gcd (zv v) (zv w)) (λp=>p.2) ((zv v).natAbs,(zv w).natAbs) ?_ ?_ ?_
  .exact Qa (by simp [okS,okV,okC,okL,okH,okB,okE,ja,Va,qa,va,wsA,ws]) ⟨⟨⟨rfl,rfl⟩,.inr ⟨⟨rfl,trivial,trivial⟩,trivial⟩⟩,trivial⟩
  .exact⟨hz,hz',rfl⟩
  .rintro⟨a,b⟩ ⟨ha,hb,hg⟩;simp only at ha hb hg;simp only [go_sem,hm,hw',hd,ws];simp only [jb];refine λ_=>⟨λh=>⟨Ua _,Ua _,Yq _,Yq _,λe=>by rw [e]at h;simp at h,ha,hb,?_⟩,λh=>⟨Ua _,by omega,?_⟩⟩
   .have hb0:0<b:=by
     rcases Nat.eq_zero_or_pos b with e | e
     .rw [e,Wb]at h;simp at h
     .exact e
    refine⟨(b,a % b),Qa (by simp [okS,okV,okC,okL,okH,okB,okE,ja,Va,qa,va,wsA,ws]) ⟨⟨⟨rfl,rfl⟩,.inr ⟨⟨rfl,trivial,trivial⟩,trivial⟩⟩,trivial⟩,⟨hb,Nat.le_trans (ua (Nat.mod_le _ _)) ha,?_⟩,Nat.mod_lt _ hb0⟩
    rw [<-hg];show Nat.gcd b (a % b)=_;rw [Nat.gcd_comm b,<-Nat.gcd_rec,Nat.gcd_comm]
   .have:digs b=[]:=List.eq_nil_of_length_eq_zero (by omega)
    rw [kg.1 this,Nat.gcd_zero_right]at hg;rw [hg];exact hK
end Go.Abs
end
section
namespace Go.Num
theorem getMM{α:Type}(U V:List α)(x d:α){n:Nat}(h:U.length=n):(U++x::V).getD n d=x:=by
 subst h;simp [List.getD_eq_getElem?_getD]
theorem setMM{α:Type}(U V:List α)(x y:α){n:Nat}(h:U.length=n):(U++x::V).set n y=U++y::V:=by
 subst h;rw [List.set_append_right _ _ (Nat.le_refl _),Nat.sub_self,List.set_cons_zero]
end Go.Num
namespace Go.Abs
open Go.Num
variable {P:Program} {Γ:Nat->Spec}
def kD(fc:Nat)(d:Option Nat)(args:List AV)(h:Nat->HB)(K:AV->(Nat->HB)->Prop):Prop:=
 match args with
 | [.one (.own r ver 5 0 len),.one (.lit (.int .i64 a)),.one (.lit (.int .i64 b)),.one (.lit (.int .i64 n)),c]=>∃(U A M B V:List Mo),c=fnV fc/\a=U.length/\b=(U.length+A.length+M.length:Nat)/\n=A.length/\A.length=B.length/\
   U.length+A.length+M.length+B.length<=len/\len<=U.length+A.length+M.length+B.length+V.length/\len<=68719476736/\
   h r=⟨ver,some ⟨(U++A++M++B++V).map mC,5,true⟩⟩/\K (.tup []) (upd h r ⟨ver,some ⟨(U++B++M++A++V).map mC,5,true⟩⟩)
 | _=>False
@[congr] theorem ybT {fc:Nat} {d:Option Nat} {l l' : List AV} {h h' : Nat->HB} {K:AV->(Nat->HB)->Prop} (e1:l=l') (e2:h=h'):kD fc d l h K=kD fc d l' h' K:=by subst e1;subst e2;rfl
def vH(fc:Nat)(d:Option Nat)(args:List AV)(h:Nat->HB)(K:AV->(Nat->HB)->Prop):Prop:=
 match args with
 | [.one (.own r ver 5 0 len),.one (.lit (.int .i64 a)),.one (.lit (.int .i64 m)),.one (.lit (.int .i64 b)),c]=>∃(U A B V:List Mo),c=fnV fc/\a=U.length/\m=(U.length+A.length:Nat)/\b=(U.length+A.length+B.length:Nat)/\A≠[]/\B≠[]/\
   U.length+A.length+B.length<=len/\len<=U.length+A.length+B.length+V.length/\len<=68719476736/\
   h r=⟨ver,some ⟨(U++A++B++V).map mC,5,true⟩⟩/\K (.tup []) (upd h r ⟨ver,some ⟨(U++B++A++V).map mC,5,true⟩⟩)
 | _=>False
@[congr] theorem XbX {fc:Nat} {d:Option Nat} {l l' : List AV} {h h' : Nat->HB} {K:AV->(Nat->HB)->Prop} (e1:l=l') (e2:h=h'):vH fc d l h K=vH fc d l' h' K:=by subst e1;subst e2;rfl
def ui(fc N:Nat)(d:Option Nat)(args:List AV)(h:Nat->HB)(K:AV->(Nat->HB)->Prop):Prop:=
 match args with
 | [.one (.own r ver 5 0 len),.one (.lit (.int .i64 a)),.one (.lit (.int .i64 m)),.one (.lit (.int .i64 b)),c]=>∃(U A B V:List Mo),c=fnV fc/\a=U.length/\m=(U.length+A.length:Nat)/\b=(U.length+A.length+B.length:Nat)/\A≠[]/\B≠[]/\A.length+B.length<=N/\
   U.length+A.length+B.length<=len/\len<=U.length+A.length+B.length+V.length/\len<=1073741824/\okMs A/\okMs B/\SortM A/\SortM B/\
   h r=⟨ver,some ⟨(U++A++B++V).map mC,5,true⟩⟩/\∀C:List Mo,(A++B).Perm C->SortM C->K (.tup []) (upd h r ⟨ver,some ⟨(U++C++V).map mC,5,true⟩⟩)
 | _=>False
@[congr] theorem zbX {fc N:Nat} {d:Option Nat} {l l' : List AV} {h h' : Nat->HB} {K:AV->(Nat->HB)->Prop} (e1:l=l') (e2:h=h'):ui fc N d l h K=ui fc N d l' h' K:=by subst e1;subst e2;rfl
def yd:AC:=(.seq (.ops false [.m 10 (.i 0)])
 (.fg [0,1,2,3,10] (.block 0 (.loop (.seq (.seq (.ops false [.m 11 (.t 10),.m 12 (.t 3),.u 13 (.bin .lss (.t 11) (.t 12))])
 (.fg [0,1,2,3,10,13] (.cond (.t 13) .skip (.exit 0))))
 (.fg [0,1,2,3,10] (.seq (.block 1 (.ops true [.m 16 (.t 0),.m 17 (.t 1),.m 18 (.t 10),.u 19 (.bin .add (.t 17) (.t 18)),.m 20 (.t 0),.m 21 (.t 2),.m 22 (.t 10),.u 23 (.bin .add (.t 21) (.t 22)),.m 24 (.t 0),.m 25 (.t 2),.m 26 (.t 10),.u 27 (.bin .add (.t 25) (.t 26)),.u 28 (.idx 5 (.t 24) (.t 27)),.u 29 (.ld none 5 true (.t 28)),.m 30 (.t 0),.m 31 (.t 1),.m 32 (.t 10),.u 33 (.bin .add (.t 31) (.t 32)),.u 34 (.idx 5 (.t 30) (.t 33)),.u 35 (.ld none 5 true (.t 34)),.u 36 (.idx 5 (.t 16) (.t 19)),.n (.st none 5 (.t 36) (.t 29)),.u 37 (.idx 5 (.t 20) (.t 23)),.n (.st none 5 (.t 37) (.t 35))]))
 (.fg [0,1,2,3,10] (.ops false [.m 14 (.t 10),.u 15 (.bin .add (.t 14) (.i 1)),.m 10 (.t 15)])))))))))
def we(f0:Nat):AC:=(.seq (.ops false [.m 12 (.t 2),.m 13 (.t 1),.u 14 (.bin .sub (.t 12) (.t 13)),.m 10 (.t 14)])
 (.fg [0,2,3,4,10] (.seq (.ops false [.m 15 (.t 3),.m 16 (.t 2),.u 17 (.bin .sub (.t 15) (.t 16)),.m 11 (.t 17)])
 (.fg [0,2,4,10,11] (.seq (.block 0 (.loop (.seq (.seq (.ops false [.m 18 (.t 10),.m 19 (.t 11),.u 20 (.bin .neq (.t 18) (.t 19))])
 (.fg [0,2,4,10,11,20] (.cond (.t 20) .skip (.exit 0))))
 (.fg [0,2,4,10,11] (.block 1 (.seq (.ops false [.m 21 (.t 10),.m 22 (.t 11),.u 23 (.bin .gtr (.t 21) (.t 22))])
 (.fg [0,2,4,10,11,23] (.cond (.t 23) (.seq (.ops false [.m 24 (.t 0),.m 25 (.t 2),.m 26 (.t 10),.u 27 (.bin .sub (.t 25) (.t 26)),.m 28 (.t 2),.m 29 (.t 11),.m 30 (.t 4),.u 31 (.call f0 [(.t 24),(.t 27),(.t 28),(.t 29),(.t 30)])])
 (.fg [0,2,4,10,11] (.ops false [.m 32 (.t 10),.m 33 (.t 11),.u 34 (.bin .sub (.t 32) (.t 33)),.m 10 (.t 34)]))) (.seq (.ops false [.m 35 (.t 0),.m 36 (.t 2),.m 37 (.t 10),.u 38 (.bin .sub (.t 36) (.t 37)),.m 39 (.t 2),.m 40 (.t 11),.u 41 (.bin .add (.t 39) (.t 40)),.m 42 (.t 10),.u 43 (.bin .sub (.t 41) (.t 42)),.m 44 (.t 10),.m 45 (.t 4),.u 46 (.call f0 [(.t 35),(.t 38),(.t 43),(.t 44),(.t 45)])])
 (.fg [0,2,4,10,11] (.ops false [.m 47 (.t 11),.m 48 (.t 10),.u 49 (.bin .sub (.t 47) (.t 48)),.m 11 (.t 49)])))))))))))
 (.fg [0,2,4,10] (.ops false [.m 50 (.t 0),.m 51 (.t 2),.m 52 (.t 10),.u 53 (.bin .sub (.t 51) (.t 52)),.m 54 (.t 2),.m 55 (.t 10),.m 56 (.t 4),.u 57 (.call f0 [(.t 50),(.t 53),(.t 54),(.t 55),(.t 56)])])))))))
def vb(f0 f1:Nat):AC:=(.seq (.seq (.ops false [.m 25 (.t 2),.m 26 (.t 1),.u 27 (.bin .sub (.t 25) (.t 26)),.u 28 (.bin .eql (.t 27) (.i 1))])
 (.fg [0,1,2,3,4,28] (.cond (.t 28) (.seq (.ops false [.m 29 (.t 2),.m 10 (.t 29)])
 (.fg [0,1,3,4,10] (.seq (.ops false [.m 30 (.t 3),.m 11 (.t 30)])
 (.fg [0,1,4,10,11] (.seq (.block 0 (.loop (.seq (.seq (.ops false [.m 31 (.t 10),.m 32 (.t 11),.u 33 (.bin .lss (.t 31) (.t 32))])
 (.fg [0,1,4,10,11,33] (.cond (.t 33) .skip (.exit 0))))
 (.fg [0,1,4,10,11] (.block 1 (.seq (.ops false [.m 34 (.t 10),.m 35 (.t 11),.u 36 (.bin .add (.t 34) (.t 35)),.u 37 (.conv .u64 (.t 36)),.u 38 (.bin .shr (.t 37) (.c (.one (.lit (.int .u64 1))))),.u 39 (.conv .i64 (.t 38)),.m 12 (.t 39)])
 (.fg [0,1,4,10,11,12] (.seq (.ops true [.m 40 (.t 4),.m 41 (.t 0),.m 42 (.t 12),.u 43 (.idx 5 (.t 41) (.t 42)),.u 44 (.ld none 5 true (.t 43)),.m 45 (.t 0),.m 46 (.t 1),.u 47 (.idx 5 (.t 45) (.t 46)),.u 48 (.ld none 5 true (.t 47)),.u 49 (.callv (.t 40) [(.t 44),(.t 48)]),.u 50 (.bin .lss (.t 49) (.i 0))])
 (.fg [0,1,4,10,11,12,50] (.cond (.t 50) (.ops false [.m 51 (.t 12),.u 52 (.bin .add (.t 51) (.i 1)),.m 10 (.t 52)]) (.ops false [.m 53 (.t 12),.m 11 (.t 53)])))))))))))
 (.fg [0,1,10] (.seq (.seq (.ops false [.m 54 (.t 1),.m 13 (.t 54)])
 (.fg [0,10,13] (.block 2 (.loop (.seq (.seq (.ops false [.m 55 (.t 13),.m 56 (.t 10),.u 57 (.bin .sub (.t 56) (.i 1)),.u 58 (.bin .lss (.t 55) (.t 57))])
 (.fg [0,10,13,58] (.cond (.t 58) .skip (.exit 2))))
 (.fg [0,10,13] (.seq (.block 3 (.ops true [.m 61 (.t 0),.m 62 (.t 13),.m 63 (.t 0),.m 64 (.t 13),.u 65 (.bin .add (.t 64) (.i 1)),.m 66 (.t 0),.m 67 (.t 13),.u 68 (.bin .add (.t 67) (.i 1)),.u 69 (.idx 5 (.t 66) (.t 68)),.u 70 (.ld none 5 true (.t 69)),.m 71 (.t 0),.m 72 (.t 13),.u 73 (.idx 5 (.t 71) (.t 72)),.u 74 (.ld none 5 true (.t 73)),.u 75 (.idx 5 (.t 61) (.t 62)),.n (.st none 5 (.t 75) (.t 70)),.u 76 (.idx 5 (.t 63) (.t 65)),.n (.st none 5 (.t 76) (.t 74))]))
 (.fg [0,10,13] (.ops false [.m 59 (.t 13),.u 60 (.bin .add (.t 59) (.i 1)),.m 13 (.t 60)])))))))))
 .ret))))))) .skip)))
 (.fg [0,1,2,3,4] (.seq (.seq (.ops false [.m 77 (.t 3),.m 78 (.t 2),.u 79 (.bin .sub (.t 77) (.t 78)),.u 80 (.bin .eql (.t 79) (.i 1))])
 (.fg [0,1,2,3,4,80] (.cond (.t 80) (.seq (.ops false [.m 81 (.t 1),.m 14 (.t 81)])
 (.fg [0,2,4,14] (.seq (.ops false [.m 82 (.t 2),.m 15 (.t 82)])
 (.fg [0,2,4,14,15] (.seq (.block 4 (.loop (.seq (.seq (.ops false [.m 83 (.t 14),.m 84 (.t 15),.u 85 (.bin .lss (.t 83) (.t 84))])
 (.fg [0,2,4,14,15,85] (.cond (.t 85) .skip (.exit 4))))
 (.fg [0,2,4,14,15] (.block 5 (.seq (.ops false [.m 86 (.t 14),.m 87 (.t 15),.u 88 (.bin .add (.t 86) (.t 87)),.u 89 (.conv .u64 (.t 88)),.u 90 (.bin .shr (.t 89) (.c (.one (.lit (.int .u64 1))))),.u 91 (.conv .i64 (.t 90)),.m 16 (.t 91)])
 (.fg [0,2,4,14,15,16] (.seq (.ops true [.m 92 (.t 4),.m 93 (.t 0),.m 94 (.t 2),.u 95 (.idx 5 (.t 93) (.t 94)),.u 96 (.ld none 5 true (.t 95)),.m 97 (.t 0),.m 98 (.t 16),.u 99 (.idx 5 (.t 97) (.t 98)),.u 100 (.ld none 5 true (.t 99)),.u 101 (.callv (.t 92) [(.t 96),(.t 100)]),.u 102 (.bin .lss (.t 101) (.i 0)),.u 103 (.un .not (.t 102))])
 (.fg [0,2,4,14,15,16,103] (.cond (.t 103) (.ops false [.m 104 (.t 16),.u 105 (.bin .add (.t 104) (.i 1)),.m 14 (.t 105)]) (.ops false [.m 106 (.t 16),.m 15 (.t 106)])))))))))))
 (.fg [0,2,14] (.seq (.seq (.ops false [.m 107 (.t 2),.m 17 (.t 107)])
 (.fg [0,14,17] (.block 6 (.loop (.seq (.seq (.ops false [.m 108 (.t 17),.m 109 (.t 14),.u 110 (.bin .gtr (.t 108) (.t 109))])
 (.fg [0,14,17,110] (.cond (.t 110) .skip (.exit 6))))
 (.fg [0,14,17] (.seq (.block 7 (.ops true [.m 113 (.t 0),.m 114 (.t 17),.m 115 (.t 0),.m 116 (.t 17),.u 117 (.bin .sub (.t 116) (.i 1)),.m 118 (.t 0),.m 119 (.t 17),.u 120 (.bin .sub (.t 119) (.i 1)),.u 121 (.idx 5 (.t 118) (.t 120)),.u 122 (.ld none 5 true (.t 121)),.m 123 (.t 0),.m 124 (.t 17),.u 125 (.idx 5 (.t 123) (.t 124)),.u 126 (.ld none 5 true (.t 125)),.u 127 (.idx 5 (.t 113) (.t 114)),.n (.st none 5 (.t 127) (.t 122)),.u 128 (.idx 5 (.t 115) (.t 117)),.n (.st none 5 (.t 128) (.t 126))]))
 (.fg [0,14,17] (.ops false [.m 111 (.t 17),.u 112 (.bin .sub (.t 111) (.i 1)),.m 17 (.t 112)])))))))))
 .ret))))))) .skip)))
 (.fg [0,1,2,3,4] (.seq (.ops false [.m 129 (.t 1),.m 130 (.t 3),.u 131 (.bin .add (.t 129) (.t 130)),.u 132 (.conv .u64 (.t 131)),.u 133 (.bin .shr (.t 132) (.c (.one (.lit (.int .u64 1))))),.u 134 (.conv .i64 (.t 133)),.m 18 (.t 134)])
 (.fg [0,1,2,3,4,18] (.seq (.ops false [.m 135 (.t 18),.m 136 (.t 2),.u 137 (.bin .add (.t 135) (.t 136)),.m 19 (.t 137)])
 (.fg [0,1,2,3,4,18,19] (.seq (.ops false [.m 20 (.i 0),.m 21 (.i 0)])
 (.fg [0,1,2,3,4,18,19] (.seq (.seq (.ops false [.m 138 (.t 2),.m 139 (.t 18),.u 140 (.bin .gtr (.t 138) (.t 139))])
 (.fg [0,1,2,3,4,18,19,140] (.cond (.t 140) (.seq (.ops false [.m 141 (.t 19),.m 142 (.t 3),.u 143 (.bin .sub (.t 141) (.t 142)),.m 20 (.t 143)])
 (.fg [0,1,2,3,4,18,19,20] (.ops false [.m 144 (.t 18),.m 21 (.t 144)]))) (.seq (.ops false [.m 145 (.t 1),.m 20 (.t 145)])
 (.fg [0,1,2,3,4,18,19,20] (.ops false [.m 146 (.t 2),.m 21 (.t 146)]))))))
 (.fg [0,1,2,3,4,18,19,20,21] (.seq (.ops false [.m 147 (.t 19),.u 148 (.bin .sub (.t 147) (.i 1)),.m 22 (.t 148)])
 (.fg [0,1,2,3,4,18,19,20,21,22] (.seq (.block 8 (.loop (.seq (.seq (.ops false [.m 149 (.t 20),.m 150 (.t 21),.u 151 (.bin .lss (.t 149) (.t 150))])
 (.fg [0,1,2,3,4,18,19,20,21,22,151] (.cond (.t 151) .skip (.exit 8))))
 (.fg [0,1,2,3,4,18,19,20,21,22] (.block 9 (.seq (.ops false [.m 152 (.t 20),.m 153 (.t 21),.u 154 (.bin .add (.t 152) (.t 153)),.u 155 (.conv .u64 (.t 154)),.u 156 (.bin .shr (.t 155) (.c (.one (.lit (.int .u64 1))))),.u 157 (.conv .i64 (.t 156)),.m 23 (.t 157)])
 (.fg [0,1,2,3,4,18,19,20,21,22,23] (.seq (.ops true [.m 158 (.t 4),.m 159 (.t 0),.m 160 (.t 22),.m 161 (.t 23),.u 162 (.bin .sub (.t 160) (.t 161)),.u 163 (.idx 5 (.t 159) (.t 162)),.u 164 (.ld none 5 true (.t 163)),.m 165 (.t 0),.m 166 (.t 23),.u 167 (.idx 5 (.t 165) (.t 166)),.u 168 (.ld none 5 true (.t 167)),.u 169 (.callv (.t 158) [(.t 164),(.t 168)]),.u 170 (.bin .lss (.t 169) (.i 0)),.u 171 (.un .not (.t 170))])
 (.fg [0,1,2,3,4,18,19,20,21,22,23,171] (.cond (.t 171) (.ops false [.m 172 (.t 23),.u 173 (.bin .add (.t 172) (.i 1)),.m 20 (.t 173)]) (.ops false [.m 174 (.t 23),.m 21 (.t 174)])))))))))))
 (.fg [0,1,2,3,4,18,19,20] (.seq (.ops false [.m 175 (.t 19),.m 176 (.t 20),.u 177 (.bin .sub (.t 175) (.t 176)),.m 24 (.t 177)])
 (.fg [0,1,2,3,4,18,20,24] (.seq (.seq (.ops false [.m 178 (.t 20),.m 179 (.t 2),.u 180 (.bin .lss (.t 178) (.t 179)),.m 181 (.t 180),.w 182 181 true (.mv (.t 2)),.w 183 181 true (.mv (.t 24)),.w 184 181 true (.bin .lss (.t 182) (.t 183)),.u 185 (.pick (.t 181) (.t 184) .fa)])
 (.fg [0,1,2,3,4,18,20,24,185] (.cond (.t 185) (.ops false [.m 186 (.t 0),.m 187 (.t 20),.m 188 (.t 2),.m 189 (.t 24),.m 190 (.t 4),.u 191 (.call f0 [(.t 186),(.t 187),(.t 188),(.t 189),(.t 190)])]) .skip)))
 (.fg [0,1,3,4,18,20,24] (.seq (.seq (.ops false [.m 192 (.t 1),.m 193 (.t 20),.u 194 (.bin .lss (.t 192) (.t 193)),.m 195 (.t 194),.w 196 195 true (.mv (.t 20)),.w 197 195 true (.mv (.t 18)),.w 198 195 true (.bin .lss (.t 196) (.t 197)),.u 199 (.pick (.t 195) (.t 198) .fa)])
 (.fg [0,1,3,4,18,20,24,199] (.cond (.t 199) (.ops false [.m 200 (.t 0),.m 201 (.t 1),.m 202 (.t 20),.m 203 (.t 18),.m 204 (.t 4),.u 205 (.call f1 [(.t 200),(.t 201),(.t 202),(.t 203),(.t 204)])]) .skip)))
 (.fg [0,3,4,18,24] (.seq (.ops false [.m 206 (.t 18),.m 207 (.t 24),.u 208 (.bin .lss (.t 206) (.t 207)),.m 209 (.t 208),.w 210 209 true (.mv (.t 24)),.w 211 209 true (.mv (.t 3)),.w 212 209 true (.bin .lss (.t 210) (.t 211)),.u 213 (.pick (.t 209) (.t 212) .fa)])
 (.fg [0,3,4,18,24,213] (.cond (.t 213) (.ops false [.m 214 (.t 0),.m 215 (.t 18),.m 216 (.t 24),.m 217 (.t 3),.m 218 (.t 4),.u 219 (.call f1 [(.t 214),(.t 215),(.t 216),(.t 217),(.t 218)])]) .skip)))))))))))))))))))))))))
theorem QaG(hΓ:Holds P Γ){f fc:Nat}(hc:check P f=some (38,yd.strip,[])):Sound P f (.own (kD fc)):=by
 refine Ug hc hΓ (λd args h K hG=>?_);unfold kD at hG;split at hG
 case h_2=>exact hG.elim
 rename_i r ver len x1 x2 x3 c;obtain⟨U,A,M,B,V,rfl,hx1,hx2,hx3,hAB,hlen,hlen2,hroom,hr,hK⟩:=hG;obtain⟨D,hD⟩:∃D,D=U++A++M++B++V:=⟨_,rfl⟩;rw [<-hD]at hr;have hDl:D.length=U.length+A.length+M.length+B.length+V.length:=by rw [hD];simp [Nat.add_assoc]
 refine⟨[r],[⟨D.map mC,5,true⟩],[.one (.own 1048576 ver 5 0 len),.one (.lit (.int .i64 x1)),.one (.lit (.int .i64 x2)),.one (.lit (.int .i64 x3)),fnV fc],by simp,rfl,?_,?_,?_,λhfi=>⟨by simp,?_⟩⟩
 .intro i r' b h1 h2;cases i with
  | zero=>simp only [List.getElem?_cons_zero,Option.some.injEq]at h1 h2;subst h1 h2;exact⟨by rw [hr],rfl,of_eq_true (Uf _)⟩
  | succ i=>simp at h1
 .simp [exA,exC,exB,nameOf,pinA,fnV]
 .intro a ha;simp only [List.mem_cons,List.not_mem_nil,or_false]at ha;rcases ha with rfl | rfl | rfl | rfl | rfl
  .simp [pasA,pasC,pasB,nameOf,pinA]
  .exact .lit _
  .exact .lit _
  .exact .lit _
  .exact .lit _
 simp only [go_sem,yd,hr,fnV];refine Ya (λp:List Mo×List Mo×List Mo×List Mo=>⟨mkV [(0,.one (.own 1048576 ver 5 0 len)),(1,.one (.lit (.int .i64 x1))),(2,.one (.lit (.int .i64 x2))),(3,.one (.lit (.int .i64 x3))),(10,.one (.lit (.int .i64 p.1.length)))],mkH [(1048576,⟨ver,some ⟨(U++(p.2.2.1++p.2.1)++M++(p.1++p.2.2.2)++V).map mC,5,true⟩⟩)]⟩)
  (λp=>A=p.1++p.2.1/\B=p.2.2.1++p.2.2.2/\p.1.length=p.2.2.1.length) (λp=>p.2.1.length) ([],A,[],B) ?_ ?_ ?_
 .exact Qa (by simp [okS,okV,okC,okL,okH,okB,okE,ja,Va,qa,va,wsA,ws]) (Jk (by simp [hD]))
 .exact⟨rfl,rfl,rfl⟩
 .rintro⟨A1,A2,B1,B2⟩ ⟨hA,hB,h1⟩;simp only at hA hB h1;have lA:=congrArg List.length hA;have lB:=congrArg List.length hB;simp only [List.length_append]at lA lB;rcases A2 with _ | ⟨x,A2⟩
  .have hlt:¬((A1.length:Int)<x3):=by simp only [List.length_nil]at lA;omega
   simp only [go_sem,hr,hlt];rcases B2 with _ | ⟨y,B2⟩
   .simp only [List.append_nil]at hA hB ⊢;subst hA hB;exact hK
   .simp only [List.length_nil,List.length_cons]at *;omega
  .rcases B2 with _ | ⟨y,B2⟩
   .simp only [List.length_nil,List.length_cons]at *;omega
   .simp only [List.length_cons]at lA lB;have hlt:(A1.length:Int)<x3:=by omega
    obtain⟨E,hE⟩:∃E,E=U++(B1++x::A2)++M++(A1++y::B2)++V:=⟨_,rfl⟩;have hEl:E.length=D.length:=by rw [hE,hDl];simp only [List.length_append,List.length_cons];omega
    have e1:E=(U++B1)++x::(A2++M++(A1++y::B2)++V):=by rw [hE];simp
    have e2:E=(U++(B1++x::A2)++M++A1)++y::(B2++V):=by rw [hE];simp
    obtain⟨i1,hi1⟩:∃i1:Nat,i1=U.length+A1.length:=⟨_,rfl⟩;obtain⟨i2,hi2⟩:∃i2:Nat,i2=U.length+A.length+M.length+A1.length:=⟨_,rfl⟩;have n1:x1+(A1.length:Int)=(i1:Int):=by omega
    have n2:x2+(A1.length:Int)=(i2:Int):=by omega
    have g1:E.getD i1 mo0=x:=by rw [e1];exact getMM _ _ _ _ (by simp;omega)
    have g2:E.getD i2 mo0=y:=by rw [e2];exact getMM _ _ _ _ (by simp;omega)
    have b1:i1<len:=by omega
    have b2:i2<len:=by omega
    have c1:i1<E.length:=by omega
    have c2:i2<E.length:=by omega
    have s1:(E.set i1 y).set i2 x=U++((B1++[y])++A2)++M++((A1++[x])++B2)++V:=by
     have:E.set i1 y=(U++B1)++y::(A2++M++(A1++y::B2)++V):=by rw [e1];exact setMM _ _ _ _ (by simp;omega)
     rw [this];have:(U++B1)++y::(A2++M++(A1++y::B2)++V)=(U++(B1++y::A2)++M++A1)++y::(B2++V):=by simp
     rw [this,setMM _ _ _ _ (by simp;omega)]
     simp
    simp only [<-hE];simp only [go_sem,hr,hlt,n1,n2,g1,g2,b1,b2,c1,c2,s1,List.length_set];refine⟨by omega,by omega,by omega,by omega,by omega,(A1++[x],A2,B1++[y],B2),Qa (by simp [okS,okV,okC,okL,okH,okB,okE,ja,Va,qa,va,wsA,ws]) (Jk rfl),⟨by rw [hA];simp,by rw [hB];simp,by simp [h1]⟩,by simp⟩
theorem yaJ(hΓ:Holds P Γ){f fs fc:Nat}(hs:Γ fs=.own (kD fc))(hc:check P f=some (58,(we fs).strip,[])):Sound P f (.own (vH fc)):=by
 refine Ug hc hΓ (λd args h K hG=>?_);unfold vH at hG;split at hG
 case h_2=>exact hG.elim
 rename_i r ver len x1 x2 x3 c;obtain⟨U,A,B,V,rfl,hx1,hx2,hx3,hA0,hB0,hlen,hlen2,hroom,hr,hK⟩:=hG;obtain⟨D,hD⟩:∃D,D=U++A++B++V:=⟨_,rfl⟩;rw [<-hD]at hr;have hDl:D.length=U.length+A.length+B.length+V.length:=by rw [hD];simp [Nat.add_assoc]
 have hAp:=List.length_pos_iff.2 hA0;have hBp:=List.length_pos_iff.2 hB0;refine⟨[r],[⟨D.map mC,5,true⟩],[.one (.own 1048576 ver 5 0 len),.one (.lit (.int .i64 x1)),.one (.lit (.int .i64 x2)),.one (.lit (.int .i64 x3)),fnV fc],by simp,rfl,?_,?_,?_,λhfi=>⟨by simp,?_⟩⟩
 .intro i r' b h1 h2;cases i with
  | zero=>simp only [List.getElem?_cons_zero,Option.some.injEq]at h1 h2;subst h1 h2;exact⟨by rw [hr],rfl,of_eq_true (Uf _)⟩
  | succ i=>simp at h1
 .simp [exA,exC,exB,nameOf,pinA,fnV]
 .intro a ha;simp only [List.mem_cons,List.not_mem_nil,or_false]at ha;rcases ha with rfl | rfl | rfl | rfl | rfl
  .simp [pasA,pasC,pasB,nameOf,pinA]
  .exact .lit _
  .exact .lit _
  .exact .lit _
  .exact .lit _
 have n1:x2-x1=(A.length:Int):=by omega
 have n2:x3-x2=(B.length:Int):=by omega
 simp only [go_sem,we,hr,fnV,hs,n1,n2];refine⟨by omega,by omega,?_⟩
 refine Ya (λp:List Mo×List Mo×List Mo×List Mo=>⟨mkV [(0,.one (.own 1048576 ver 5 0 len)),(2,.one (.lit (.int .i64 x2))),(4,.one (.lit (.func (.func fc) ⟨[]⟩ ⟨[]⟩))),(10,.one (.lit (.int .i64 p.2.1.length))),(11,.one (.lit (.int .i64 p.2.2.1.length)))],mkH [(1048576,⟨ver,some ⟨(p.1++p.2.1++p.2.2.1++p.2.2.2).map mC,5,true⟩⟩)]⟩)
  (λp=>p.1++p.2.2.1++p.2.1++p.2.2.2=U++B++A++V/\x2=(p.1.length+p.2.1.length:Nat)/\p.2.1≠[]/\p.2.2.1≠[]/\(p.2.1.length+p.2.2.1.length<=A.length+B.length)/\x2+p.2.2.1.length<=x3) (λp=>p.2.1.length+p.2.2.1.length) (U,A,B,V) ?_ ?_ ?_
 .exact Qa (by simp [okS,okV,okC,okL,okH,okB,okE,ja,Va,qa,va,wsA,ws]) (Jk (by simp [hD]))
 .exact⟨rfl,by simp only;omega,hA0,hB0,Nat.le_refl _,by simp only;omega⟩
 .rintro⟨U',A',B',V'⟩ ⟨hT,hx2',hA1,hB1,hsz,hx3'⟩;simp only at hT hx2' hA1 hB1 hsz hx3';have hTl:=congrArg List.length hT;simp only [List.length_append]at hTl;have hAp':=List.length_pos_iff.2 hA1;have hBp':=List.length_pos_iff.2 hB1;have n1:x2-(A'.length:Int)=(U'.length:Int):=by omega
  by_cases heq:A'.length=B'.length
  .have heq' : (A'.length:Int)=(B'.length:Int):=by omega
   simp only [go_sem,hr,hs,fnV,n1,<-heq',ne_eq,not_true_eq_false];refine⟨by omega,?_⟩
   simp only [kD];refine⟨U',A',[],B',V',rfl,rfl,by simp;omega,rfl,heq,by simp;omega,by simp;omega,by omega,by simp [qa],?_⟩
   simp only [go_sem,hr];have:U'++B'++[]++A'++V' = U++B++A++V:=by rw [<-hT];simp
   rw [List.append_nil]at this;rw [this];exact hK
  .have heq' : ¬(A'.length:Int)=(B'.length:Int):=by omega
   by_cases hgt:B'.length<A'.length
   .have hgt' : (B'.length:Int)<(A'.length:Int):=by omega
    simp only [go_sem,hr,hs,fnV,n1,heq',hgt',ne_eq];obtain⟨A1,A2,rfl,hA1l⟩:∃A1 A2,A' = A1++A2/\A1.length=B'.length:=⟨A'.take B'.length,A'.drop B'.length,(List.take_append_drop _ _).symm,by rw [List.length_take];omega⟩
    have hA12:(A1++A2).length=A1.length+A2.length:=List.length_append;have n3:((A1++A2).length:Int)-(B'.length:Int)=(A2.length:Int):=by omega
    refine⟨by omega,?_⟩
    simp only [kD];refine⟨U',A1,A2,B',V',rfl,rfl,by omega,by omega,hA1l,by omega,by omega,by omega,by simp [qa],?_⟩
    rw [n3];simp only [go_sem,hr];have z1:A2.length≠0:=by omega
    have z2:A1.length≠0:=by omega
    refine⟨by omega,(U'++B',A2,A1,V'),Qa (by simp [okS,okV,okC,okL,okH,okB,okE,ja,Va,qa,va,wsA,ws];omega) (Jk rfl),⟨by simp only;rw [<-hT];simp,by simp only [List.length_append];omega,?_,?_,by simp only;omega,by simp only;omega⟩,by simp only;omega⟩
    .exact λh=>z1 (List.length_eq_zero_iff.2 h)
    .exact λh=>z2 (List.length_eq_zero_iff.2 h)
   .have hgt' : ¬(B'.length:Int)<(A'.length:Int):=by omega
    simp only [go_sem,hr,hs,fnV,n1,heq',hgt',ne_eq];obtain⟨B1,B2,rfl,hB2l⟩:∃B1 B2,B' = B1++B2/\B2.length=A'.length:=⟨B'.take (B'.length-A'.length),B'.drop (B'.length-A'.length),(List.take_append_drop _ _).symm,by rw [List.length_drop];omega⟩
    have hB12:(B1++B2).length=B1.length+B2.length:=List.length_append;have n3:((B1++B2).length:Int)-(A'.length:Int)=(B1.length:Int):=by omega
    refine⟨by omega,by omega,by omega,?_⟩
    simp only [kD];refine⟨U',A',B1,B2,V',rfl,rfl,by omega,by omega,by omega,by omega,by omega,by omega,by simp [qa],?_⟩
    rw [n3];simp only [go_sem,hr];have z1:B1.length≠0:=by omega
    have z2:B2.length≠0:=by omega
    refine⟨by omega,(U',B2,B1,A'++V'),Qa (by simp [okS,okV,okC,okL,okH,okB,okE,ja,Va,qa,va,wsA,ws];omega) (Jk (by simp)),⟨by simp only;rw [<-hT];simp,by simp only;omega,?_,?_,by simp only;omega,by simp only;omega⟩,by simp only;omega⟩
    .exact λh=>z2 (List.length_eq_zero_iff.2 h)
    .exact λh=>z1 (List.length_eq_zero_iff.2 h)
theorem YA{A B:List Mo}(hA:SortM A)(hB:SortM B)(h:∀x∈A,∀y∈B,kM x<=kM y):SortM (A++B):=
 List.pairwise_append.2 ⟨hA,hB,h⟩
theorem zB{A B:List Mo}(h:SortM (A++B)):SortM A:=(List.pairwise_append.1 h).1
theorem uv{A B:List Mo}(h:SortM (A++B)):SortM B:=(List.pairwise_append.1 h).2.1
theorem Ww{A B:List Mo}(h:SortM (A++B)):∀x∈A,∀y∈B,kM x<=kM y:=(List.pairwise_append.1 h).2.2
theorem zS{A:List Mo}(h:SortM A){i j:Nat}(hi:i<A.length)(hj:j<A.length)(hij:i<=j):kM (A[i])<=kM (A[j]):=by
 by_cases e:i=j
 .subst e;exact Nat.le_refl _
 .exact List.pairwise_iff_getElem.1 h i j hi hj (by omega)
theorem YJ{A:List Mo}(hA:SortM A){s:Nat}(hs:0<s)(hsl:s<=A.length){q:Nat}(h:kM (A.getD (s-1) mo0)<=q):∀x∈A.take s,kM x<=q:=by
 intro x hx;obtain⟨i,hi,rfl⟩:=List.mem_iff_getElem.1 hx;rw [List.length_take]at hi;rw [List.getElem_take];refine Nat.le_trans (zS hA (by omega) (show s-1<A.length by omega) (by omega)) ?_
 rw [List.getD_eq_getElem?_getD,List.getElem?_eq_getElem (by omega)]at h
 exact h
theorem kJ{A:List Mo}(hA:SortM A){s:Nat}(hsl:s<A.length){q:Nat}(h:q<=kM (A.getD s mo0)):∀x∈A.drop s,q<=kM x:=by
 intro x hx;obtain⟨i,hi,rfl⟩:=List.mem_iff_getElem.1 hx;rw [List.length_drop]at hi;rw [List.getElem_drop];refine Nat.le_trans ?_ (zS hA hsl (show s+i<A.length by omega) (by omega))
 rw [List.getD_eq_getElem?_getD,List.getElem?_eq_getElem (by omega)]at h
 exact h
theorem getLM(U A V:List Mo){k i:Nat}(h1:k=U.length+i)(h2:i<A.length):(U++A++V).getD k mo0=A.getD i mo0:=by
 subst h1;simp only [List.getD_eq_getElem?_getD];rw [List.getElem?_append_left (by simp;omega),List.getElem?_append_right (by omega)]
 congr 2;omega
end Go.Abs
end
section
namespace Go.Num
def PcsM(k:Nat)(Ls:List (List Mo)):Prop:=∀c∈Ls,c.length=k/\SortM c
theorem zG{k:Nat}:∀{Ls:List (List Mo)},PcsM k Ls->Ls.flatten.length=k*Ls.length
 | [],_=>by simp
 | c::Ls,h=>by
  have:=zG (Ls:=Ls) λd hd=>h d (by simp [hd])
  have hc:=(h c (by simp)).1
  rw [List.flatten_cons,List.length_append,this,hc,List.length_cons,Nat.mul_succ,Nat.add_comm]
theorem Q9{k:Nat}{Ls:List (List Mo)}{c:List Mo}(h:PcsM k Ls)(h1:c.length=k)(h2:SortM c):PcsM k (Ls++[c]):=by
 intro d hd;rcases List.mem_append.1 hd with hd | hd
 .exact h d hd
 .rw [List.mem_singleton]at hd;subst hd;exact⟨h1,h2⟩
end Go.Num
namespace Go.Abs
open Go.Num
variable {P:Program} {Γ:Nat->Spec}
set_option maxHeartbeats 4000000 in
theorem Jao(hΓ:Holds P Γ){f fi fm fc m N:Nat}(hmN:m<=N)(hm30:m<=1073741824)(hi:Γ fi=.own (vG fc))(hg:Γ fm=.own (ui fc N))(hc:check P f=some (63,(We fi fm).strip,[])):Sound P f (.own (uB fc m)):=by
 refine Ug hc hΓ (λd args h K hG=>?_);unfold uB at hG;split at hG
 case h_2=>exact hG.elim
 rename_i r ver len n c;obtain⟨rfl,l,post,rfl,rfl,hlen,hr,hok,hK⟩:=hG;refine⟨[r],[⟨(l++post).map mC,5,true⟩],[.one (.own 1048576 ver 5 0 l.length),.one (.lit (.int .i64 l.length)),fnV fc],by simp,rfl,?_,?_,?_,λhfi=>⟨by simp,?_⟩⟩
 .intro i r' b h1 h2;cases i with
  | zero=>simp only [List.getElem?_cons_zero,Option.some.injEq]at h1 h2;subst h1 h2;exact⟨by rw [hr],rfl,of_eq_true (Uf _)⟩
  | succ i=>simp at h1
 .simp [exA,exC,exB,nameOf,pinA,fnV]
 .intro a ha;simp only [List.mem_cons,List.not_mem_nil,or_false]at ha;rcases ha with rfl | rfl | rfl
  .simp [pasA,pasC,pasB,nameOf,pinA]
  .exact .lit _
  .exact .lit _
 simp only [go_sem,We,hr,fnV,hi,hg];refine Ya (λp:List (List Mo)×List Mo=>⟨mkV [(0,.one (.own 1048576 ver 5 0 l.length)),(1,.one (.lit (.int .i64 l.length))),(2,.one (.lit (.func (.func fc) ⟨[]⟩ ⟨[]⟩))),(6,.one (.lit (.int .i64 20))),(7,.one (.lit (.int .i64 (20*p.1.length:Nat)))),(8,.one (.lit (.int .i64 (20*p.1.length+20:Nat))))],mkH [(1048576,⟨ver,some ⟨(p.1.flatten++p.2++post).map mC,5,true⟩⟩)]⟩)
  (λp=>PcsM 20 p.1/\l.Perm (p.1.flatten++p.2)) (λp=>p.2.length) ([],l) ?_ ?_ ?_
 .exact Qa (by simp [okS,okV,okC,okL,okH,okB,okE,ja,Va,qa,va,wsA,ws]) (Jk (by simp))
 .exact⟨λc hc=>by simp at hc,by simp⟩
 .rintro⟨Ls,R⟩ ⟨hL,hp⟩;simp only at hL hp;have lL:=zG hL;have hpl:=hp.length_eq;rw [List.length_append,lL]at hpl;have hokp:=JL hp hok;obtain⟨hokL,hokR⟩:=Zj.1 hokp;by_cases hR:20<=R.length
  .have hle:((20*Ls.length+20:Nat):Int)<=(l.length:Int):=by omega
   obtain⟨S,R',rfl,hS⟩:∃S R',R=S++R'/\S.length=20:=⟨R.take 20,R.drop 20,(List.take_append_drop _ _).symm,by rw [List.length_take];omega⟩
   rw [List.length_append]at hpl;simp only [go_sem,hr,hi,hg,hle];simp only [vG];refine⟨Ls.flatten,S,R'++post,rfl,by rw [lL],by rw [lL,hS],by rw [lL,hS,List.length_append];omega,by omega,by omega,by simp [qa],(Zj.1 hokR).1,λS' hpS hS'=>?_⟩
   have lS':=hpS.length_eq;simp only [go_sem,hr,hi,hg];refine⟨by omega,(Ls++[S'],R'),Qa (by simp [okS,okV,okC,okL,okH,okB,okE,ja,Va,qa,va,wsA,ws];omega) (Jk (by simp)),⟨Q9 hL (by omega) hS',?_⟩,by simp only;rw [List.length_append];omega⟩
   simp only;refine hp.trans ?_;simp only [List.flatten_append,List.flatten_cons,List.flatten_nil,List.append_nil,List.append_assoc];exact List.Perm.append_left _ (List.Perm.append_right _ hpS)
  .have hle:¬((20*Ls.length+20:Nat):Int)<=(l.length:Int):=by omega
   simp only [go_sem,hr,hi,hg,hle];simp only [vG];refine⟨Ls.flatten,R,post,rfl,by rw [lL],by rw [lL];omega,by rw [lL];omega,by omega,by omega,by simp [qa],hokR,λR' hpR hR'=>?_⟩
   have lR':=hpR.length_eq;simp only [go_sem,hr,hi,hg];refine Ya (λp:Nat×List (List Mo)×List Mo=>⟨mkV [(0,.one (.own 1048576 ver 5 0 l.length)),(1,.one (.lit (.int .i64 l.length))),(2,.one (.lit (.func (.func fc) ⟨[]⟩ ⟨[]⟩))),(6,.one (.lit (.int .i64 p.1)))],mkH [(1048576,⟨ver,some ⟨(p.2.1.flatten++p.2.2++post).map mC,5,true⟩⟩)]⟩)
    (λp=>PcsM p.1 p.2.1/\SortM p.2.2/\p.2.2.length<p.1/\p.1<=2147483648/\l.Perm (p.2.1.flatten++p.2.2)) (λp=>4294967296-p.1) (20,Ls,R') ?_ ?_ ?_
   .exact Qa (by simp [okS,okV,okC,okL,okH,okB,okE,ja,Va,qa,va,wsA,ws]) (Jk (by simp))
   .exact⟨hL,hR',by simp only;omega,by simp only;omega,hp.trans (List.Perm.append_left _ hpR)⟩
   .rintro⟨bs,Ks,Q⟩ ⟨hKs,hQ,hQl,hbs,hpK⟩;simp only at hKs hQ hQl hbs hpK;have lK:=zG hKs;have hpl2:=hpK.length_eq;rw [List.length_append,lK]at hpl2;by_cases hdone:bs<l.length
    .have hd' : (bs:Int)<(l.length:Int):=by omega
     have n2:(2:Int)*(bs:Int)=((2*bs:Nat):Int):=by omega
     simp only [go_sem,hr,hi,hg,hd',n2];refine⟨by omega,?_⟩
     refine Ya (λp:Nat×List (List Mo)×List (List Mo)=>⟨mkV [(0,.one (.own 1048576 ver 5 0 l.length)),(1,.one (.lit (.int .i64 l.length))),(2,.one (.lit (.func (.func fc) ⟨[]⟩ ⟨[]⟩))),(6,.one (.lit (.int .i64 bs))),(7,.one (.lit (.int .i64 p.1))),(8,.one (.lit (.int .i64 (p.1+2*bs:Nat))))],mkH [(1048576,⟨ver,some ⟨(p.2.1.flatten++p.2.2.flatten++Q++post).map mC,5,true⟩⟩)]⟩)
      (λp=>(p.1=p.2.1.flatten.length/\PcsM (2*bs) p.2.1)/\PcsM bs p.2.2/\l.Perm (p.2.1.flatten++p.2.2.flatten++Q)) (λp=>p.2.2.length) (0,[],Ks) ?_ ?_ ?_
     .exact Qa (by simp [okS,okV,okC,okL,okH,okB,okE,ja,Va,qa,va,wsA,ws]) (Jk (by simp))
     .exact⟨⟨rfl,λc hc=>by simp at hc⟩,hKs,by simpa using hpK⟩
     .rintro⟨g,Ms,Js⟩ ⟨⟨hg0,hMs⟩,hJs,hpJ⟩;simp only at hg0 hMs hJs hpJ;have lM:=zG hMs;have lJ:=zG hJs;have hpl3:=hpJ.length_eq;rw [List.length_append,List.length_append,<-hg0]at hpl3;have hokJ:=JL hpJ hok;have n3:(g:Int)+(bs:Int)=((g+bs:Nat):Int):=by omega
      match Js,hJs,lJ,hpl3,hpJ,hokJ with
      | X::Y::Js,hJs,lJ,hpl3,hpJ,hokJ=>
       have hX:=hJs X (by simp)
       have hY:=hJs Y (by simp)
       have hJ' : PcsM bs Js:=λc hc=>hJs c (by simp [hc])
       simp only [List.flatten_cons,List.length_append,hX.1,hY.1]at hpl3;have hle:((g+2*bs:Nat):Int)<=(l.length:Int):=by omega
       simp only [List.flatten_cons,List.append_assoc,Zj]at hokJ;simp only [go_sem,hr,hi,hg,hle,n2,n3];refine⟨by omega,?_⟩
       simp only [ui];refine⟨Ms.flatten,X,Y,Js.flatten++Q++post,rfl,by rw [<-hg0],by rw [<-hg0,hX.1],by rw [<-hg0,hX.1,hY.1];omega,λh=>?_,λh=>?_,by omega,by omega,by simp only [List.length_append];omega,by omega,hokJ.2.1,hokJ.2.2.1,hX.2,hY.2,by simp [qa],λC hpC hsC=>?_⟩
       .rw [h]at hX;simp only [List.length_nil]at hX;omega
       .rw [h]at hY;simp only [List.length_nil]at hY;omega
       have lC:=hpC.length_eq;rw [List.length_append,hX.1,hY.1]at lC;simp only [go_sem,hr,hi,hg,n2,n3];have lMC:(Ms++[C]).flatten.length=g+2*bs:=by simp only [List.flatten_append,List.flatten_cons,List.flatten_nil,List.append_nil,List.length_append];omega
       refine⟨by omega,by omega,(g+2*bs,Ms++[C],Js),Qa (by simp [okS,okV,okC,okL,okH,okB,okE,ja,Va,qa,va,wsA,ws]) (Jk (by simp)),⟨⟨lMC.symm,Q9 hMs (by omega) hsC⟩,hJ',?_⟩,by simp only;omega⟩
       refine hpJ.trans ?_;simp only [List.flatten_append,List.flatten_cons,List.flatten_nil,List.append_nil,List.append_assoc];refine List.Perm.append_left _ ?_;rw [<-List.append_assoc];exact List.Perm.append_right _ hpC
      | [X],hJs,lJ,hpl3,hpJ,hokJ=>
       have hX:=hJs X (by simp)
       simp only [List.flatten_cons,List.flatten_nil,List.append_nil,hX.1]at hpl3;have hle:¬((g+2*bs:Nat):Int)<=(l.length:Int):=by omega
       simp only [List.flatten_cons,List.flatten_nil,List.append_nil,List.append_assoc,Zj]at hokJ hpJ;by_cases hQ0:Q=[]
       .have hlt:¬((g+bs:Nat):Int)<(l.length:Int):=by rw [hQ0,List.length_nil]at hpl3;omega
        simp only [go_sem,hr,hi,hg,hle,n2,n3,hlt];have n4:(bs:Int)*2=((2*bs:Nat):Int):=by omega
        simp only [n4];refine⟨by omega,by omega,(2*bs,Ms,X),Qa (by simp [okS,okV,okC,okL,okH,okB,okE,ja,Va,qa,va,wsA,ws]) (Jk (by simp [hQ0])),⟨hMs,hX.2,by simp only [hX.1];omega,by simp only;omega,by simp only;rw [hQ0,List.append_nil]at hpJ;exact hpJ⟩,by simp only;omega⟩
       .have hQp:=List.length_pos_iff.2 hQ0;have hlt:((g+bs:Nat):Int)<(l.length:Int):=by omega
        simp only [go_sem,hr,hi,hg,hle,n2,n3,hlt];refine⟨by omega,?_⟩
        simp only [ui];refine⟨Ms.flatten,X,Q,post,rfl,by rw [<-hg0],by rw [<-hg0,hX.1],by rw [<-hg0,hX.1];omega,λh=>?_,hQ0,by omega,by omega,by omega,by omega,hokJ.2.1,hokJ.2.2,hX.2,hQ,by simp [qa],λC hpC hsC=>?_⟩
        .rw [h]at hX;simp only [List.length_nil]at hX;omega
        have lC:=hpC.length_eq;rw [List.length_append,hX.1]at lC;simp only [go_sem,hr,hi,hg,n2,n3];have n4:(bs:Int)*2=((2*bs:Nat):Int):=by omega
        simp only [n4];refine⟨by omega,(2*bs,Ms,C),Qa (by simp [okS,okV,okC,okL,okH,okB,okE,ja,Va,qa,va,wsA,ws]) (Jk (by simp)),⟨hMs,hsC,by simp only;omega,by simp only;omega,hpJ.trans (List.Perm.append_left _ hpC)⟩,by simp only;omega⟩
      | [],hJs,lJ,hpl3,hpJ,hokJ=>
       simp only [List.flatten_nil,List.length_nil]at hpl3;have hle:¬((g+2*bs:Nat):Int)<=(l.length:Int):=by omega
       have hlt:¬((g+bs:Nat):Int)<(l.length:Int):=by omega
       simp only [go_sem,hr,hi,hg,hle,n2,n3,hlt];have n4:(bs:Int)*2=((2*bs:Nat):Int):=by omega
       simp only [n4];refine⟨by omega,by omega,(2*bs,Ms,Q),Qa (by simp [okS,okV,okC,okL,okH,okB,okE,ja,Va,qa,va,wsA,ws]) (Jk (by simp)),⟨hMs,hQ,by simp only;omega,by simp only;omega,by simpa using hpJ⟩,by simp only;omega⟩
    .have hd' : ¬(bs:Int)<(l.length:Int):=by omega
     simp only [go_sem,hr,hi,hg,hd'];refine hK _ hpK ?_;match Ks,hKs,lK,hpl2 with
     | [],_,_,_=>exact hQ
     | [X],hKs,lK,hpl2=>
      have:Q=[]:=List.length_eq_zero_iff.1 (by simp only [List.length_singleton,Nat.mul_one]at hpl2;omega)
      rw [this];simp only [List.flatten_cons,List.flatten_nil,List.append_nil];exact(hKs X (by simp)).2
     | X::Y::Ks,hKs,lK,hpl2=>
      exfalso;simp only [List.length_cons]at hpl2;have h2:bs*2<=bs*(Ks.length+1+1):=Nat.mul_le_mul_left _ (by omega)
      omega
end Go.Abs
end
section
namespace Go.Abs
open Go.Num
variable {P:Program} {Γ:Nat->Spec}
set_option maxHeartbeats 4000000 in
theorem zaH(hΓ:Holds P Γ){f fr fs fc N:Nat}(hro:Γ fr=.own (vH fc))(hs:Γ fs=.own (ui fc N))(hcm:Γ fc=.dat true Jy)(hc:check P f=some (220,(vb fr fs).strip,[])):Sound P f (.own (ui fc (N+1))):=by
 refine Ug hc hΓ (λd args h K hG=>?_);unfold ui at hG;split at hG
 case h_2=>exact hG.elim
 rename_i r ver len x1 x2 x3 c;obtain⟨U,A,B,V,rfl,hx1,hx2,hx3,hA0,hB0,hN,hlen,hlen2,hroom,hoA,hoB,hsA,hsB,hr,hK⟩:=hG;obtain⟨D,hD⟩:∃D,D=U++A++B++V:=⟨_,rfl⟩;rw [<-hD]at hr;have hDl:D.length=U.length+A.length+B.length+V.length:=by rw [hD];simp [Nat.add_assoc]
 have hAp:=List.length_pos_iff.2 hA0;have hBp:=List.length_pos_iff.2 hB0;have gA:∀k i,k=U.length+i->i<A.length->D.getD k mo0=A.getD i mo0:=by
  intro k i h1 h2;rw [hD,List.append_assoc (U++A)];exact getLM U A (B++V) h1 h2
 have gB:∀k i,k=U.length+A.length+i->i<B.length->D.getD k mo0=B.getD i mo0:=by
  intro k i h1 h2;rw [hD];exact getLM (U++A) B V (by rw [List.length_append];exact h1) h2
 have okD:∀k,U.length<=k->k<U.length+A.length+B.length->okM (D.getD k mo0):=by
  intro k h1 h2;by_cases h3:k<U.length+A.length
  .rw [gA k (k-U.length) (by omega) (by omega)]
   exact uap hoA (by omega)
  .rw [gB k (k-U.length-A.length) (by omega) (by omega)]
   exact uap hoB (by omega)
 refine⟨[r],[⟨D.map mC,5,true⟩],[.one (.own 1048576 ver 5 0 len),.one (.lit (.int .i64 x1)),.one (.lit (.int .i64 x2)),.one (.lit (.int .i64 x3)),fnV fc],by simp,rfl,?_,?_,?_,λhfi=>⟨by simp,?_⟩⟩
 .intro i r' b h1 h2;cases i with
  | zero=>simp only [List.getElem?_cons_zero,Option.some.injEq]at h1 h2;subst h1 h2;exact⟨by rw [hr],rfl,of_eq_true (Uf _)⟩
  | succ i=>simp at h1
 .simp [exA,exC,exB,nameOf,pinA,fnV]
 .intro a ha;simp only [List.mem_cons,List.not_mem_nil,or_false]at ha;rcases ha with rfl | rfl | rfl | rfl | rfl
  .simp [pasA,pasC,pasB,nameOf,pinA]
  .exact .lit _
  .exact .lit _
  .exact .lit _
  .exact .lit _
 by_cases c1:A.length=1
 .have n1:x2-x1=1:=by omega
  simp only [go_sem,vb,hr,fnV,hro,hs,hcm,n1];obtain⟨x,hx⟩:∃x,D.getD U.length mo0=x:=⟨_,rfl⟩;refine⟨by omega,?_⟩
  refine Ya (λp:Nat×Nat=>⟨mkV [(0,.one (.own 1048576 ver 5 0 len)),(1,.one (.lit (.int .i64 x1))),(4,.one (.lit (.func (.func fc) ⟨[]⟩ ⟨[]⟩))),(10,.one (.lit (.int .i64 p.1))),(11,.one (.lit (.int .i64 p.2)))],mkH [(1048576,⟨ver,some ⟨D.map mC,5,true⟩⟩)]⟩)
   (λp=>x2<=p.1/\p.1<=p.2/\p.2<=x3/\(x2<p.1->kM (D.getD (p.1-1) mo0)<=kM x)/\(p.2<x3->kM x<=kM (D.getD p.2 mo0))) (λp=>p.2-p.1) (x2.toNat,x3.toNat) ?_ ?_ ?_
  .exact Qa (by simp [okS,okV,okC,okL,okH,okB,okE,ja,Va,qa,va,wsA,ws];omega) (Jk rfl)
  .exact⟨by simp only;omega,by simp only;omega,by simp only;omega,λh=>by simp only at h;omega,λh=>by simp only at h;omega⟩
  .rintro⟨i,j⟩ ⟨h1,h2,h3,h4,h5⟩;simp only at h1 h2 h3 h4 h5;by_cases hij:i<j
   .have hij' : (i:Int)<(j:Int):=by omega
    obtain⟨k,hk⟩:∃k,k=(i+j) / 2:=⟨_,rfl⟩;have hk' : (i:Int)+(j:Int)=((i+j:Nat):Int):=by omega
    have ok1:=okD k (by omega) (by omega)
    have ok2:=okD U.length (by omega) (by omega)
    rw [hx]at ok2;obtain⟨y,hy⟩:∃y,D.getD k mo0=y:=⟨_,rfl⟩;rw [hy]at ok1;have hkk:(i+j) % 18446744073709551616 / 2=k:=by omega
    simp only [go_sem,hr,hro,hs,hcm,hij',hk',hkk,hx1,hx,hy,ok1.1,ok1.2,ok2.1,ok2.2,YL];refine⟨by omega,by omega,by omega,by omega,by omega,by omega,by omega,λhlt=>⟨by omega,(k+1,j),Qa (by simp [okS,okV,okC,okL,okH,okB,okE,ja,Va,qa,va,wsA,ws]) (Jk rfl),⟨by simp only;omega,by simp only;omega,by simp only;omega,λ_=>?_,h5⟩,by simp only;omega⟩,λhge=>⟨(i,k),Qa (by simp [okS,okV,okC,okL,okH,okB,okE,ja,Va,qa,va,wsA,ws]) (Jk rfl),⟨by simp only;omega,by simp only;omega,by simp only;omega,h4,λ_=>?_⟩,by simp only;omega⟩⟩
    .simp only [Nat.add_sub_cancel];rw [hy];exact Nat.le_of_lt hlt
    .simp only;rw [hy];exact Nat.not_lt.1 hge
   .obtain rfl:i=j:=by omega
    have hij' : ¬(i:Int)<(i:Int):=by omega
    simp only [go_sem,hr,hro,hs,hcm,hij'];obtain⟨t,ht⟩:∃t,t=i-(U.length+1):=⟨_,rfl⟩;obtain⟨B1,hB1⟩:∃B1,B1=B.take t:=⟨_,rfl⟩;obtain⟨B2,hB2⟩:∃B2,B2=B.drop t:=⟨_,rfl⟩;have hB12:B=B1++B2:=by rw [hB1,hB2,List.take_append_drop]
    have lB1:B1.length=t:=by rw [hB1,List.length_take];omega
    have hAx:A=[x]:=by
     match A,c1 with
     | [z],_=>
      have:=gA U.length 0 (by omega) (by simp)
      rw [hx]at this;simpa using this.symm
    refine Ya (λp:List Mo×List Mo=>⟨mkV [(0,.one (.own 1048576 ver 5 0 len)),(10,.one (.lit (.int .i64 i))),(13,.one (.lit (.int .i64 (U.length+p.1.length:Nat))))],mkH [(1048576,⟨ver,some ⟨(U++(p.1++x::p.2)++B2++V).map mC,5,true⟩⟩)]⟩)
     (λp=>B1=p.1++p.2) (λp=>p.2.length) ([],B1) ?_ ?_ ?_
    .exact Qa (by simp [okS,okV,okC,okL,okH,okB,okE,ja,Va,qa,va,wsA,ws];omega) (Jk (by rw [hD,hAx,hB12];simp))
    .rfl
    .rintro⟨V1,V2⟩ hV;simp only at hV;have lV:=congrArg List.length hV;rw [List.length_append]at lV;have n2:(i:Int)-1=((U.length+t:Nat):Int):=by omega
     rcases V2 with _ | ⟨y,V2⟩
     .have hlt:¬((U.length+V1.length:Nat):Int)<((U.length+t:Nat):Int):=by simp only [List.length_nil]at lV;omega
      simp only [go_sem,hr,n2,hlt];rw [List.append_nil]at hV;subst hV;have hKK:=hK (B1++x::B2) ?_ ?_
      .have e:U++(B1++[x])++B2++V=U++(B1++x::B2)++V:=by simp
       rw [e];exact⟨by omega,hKK⟩
      .rw [hAx,hB12];show(x::(B1++B2)).Perm _;exact List.perm_middle.symm
      .refine YA (by rw [hB1];exact zB (B:=B.drop t) (by rw [List.take_append_drop];exact hsB)) (List.pairwise_cons.2 ⟨?_,by rw [hB2];exact uv (A:=B.take t) (by rw [List.take_append_drop];exact hsB)⟩) ?_
       .intro z hz;rw [hB2]at hz;by_cases htl:t<B.length
        .refine kJ hsB htl ?_ z hz;rw [<-gB i t (by omega) htl]
         exact h5 (by omega)
        .rw [List.drop_of_length_le (by omega)]at hz;simp at hz
       .have hle:∀z∈B1,kM z<=kM x:=by
         intro z hz;by_cases ht0:0<t
         .rw [hB1]at hz;refine YJ hsB ht0 (by omega) ?_ z hz
          rw [<-gB (i-1) (t-1) (by omega) (by omega)]
          exact h4 (by omega)
         .have:B1=[]:=List.length_eq_zero_iff.1 (by omega)
          rw [this]at hz;simp at hz
        intro z hz w hw;rcases List.mem_cons.1 hw with rfl | hw
        .exact hle z hz
        .rw [hB12]at hsB;exact Ww hsB z hz w hw
     .rw [List.length_cons]at lV;have hlt:((U.length+V1.length:Nat):Int)<((U.length+t:Nat):Int):=by omega
      obtain⟨E,hE⟩:∃E,E=U++(V1++x::y::V2)++B2++V:=⟨_,rfl⟩;have lE:E.length=D.length:=by
       rw [hE,hDl,c1];have:=congrArg List.length hB12;simp only [List.length_append,List.length_cons]at this ⊢;omega
      obtain⟨k,hk⟩:∃k,k=U.length+V1.length:=⟨_,rfl⟩;have e1:E=(U++V1)++x::(y::V2++B2++V):=by rw [hE];simp
      have e2:E=(U++V1++[x])++y::(V2++B2++V):=by rw [hE];simp
      have g1:E.getD k mo0=x:=by rw [e1];exact getMM _ _ _ _ (by simp;omega)
      have g2:E.getD (k+1) mo0=y:=by rw [e2];exact getMM _ _ _ _ (by simp;omega)
      have b1:k<len:=by omega
      have b2:k+1<len:=by omega
      have q1:k<E.length:=by omega
      have q2:k+1<E.length:=by omega
      have s1:(E.set k y).set (k+1) x=U++((V1++[y])++x::V2)++B2++V:=by
       have:E.set k y=(U++V1)++y::(y::V2++B2++V):=by rw [e1];exact setMM _ _ _ _ (by simp;omega)
       rw [this];have:(U++V1)++y::(y::V2++B2++V)=(U++V1++[y])++y::(V2++B2++V):=by simp
       rw [this,setMM _ _ _ _ (by simp;omega)]
       simp
      simp only [<-hE,<-hk]at hlt ⊢;simp only [go_sem,hr,n2,hlt,g1,g2,b1,b2,q1,q2,s1,List.length_set];refine⟨by omega,by omega,by omega,by omega,(V1++[y],V2),Qa (by simp [okS,okV,okC,okL,okH,okB,okE,ja,Va,qa,va,wsA,ws];omega) (Jk rfl),by simp only;rw [hV];simp,by simp only;omega⟩
 by_cases c2:B.length=1
 .have n1:¬x2-x1=1:=by omega
  have n2:x3-x2=1:=by omega
  obtain⟨m0,hm0⟩:∃m0,m0=U.length+A.length:=⟨_,rfl⟩;have hx2' : x2=(m0:Int):=by omega
  simp only [go_sem,vb,hr,fnV,hro,hs,hcm,n1,n2];obtain⟨x,hx⟩:∃x,D.getD m0 mo0=x:=⟨_,rfl⟩;refine⟨by omega,by omega,?_⟩
  refine Ya (λp:Nat×Nat=>⟨mkV [(0,.one (.own 1048576 ver 5 0 len)),(2,.one (.lit (.int .i64 x2))),(4,.one (.lit (.func (.func fc) ⟨[]⟩ ⟨[]⟩))),(14,.one (.lit (.int .i64 p.1))),(15,.one (.lit (.int .i64 p.2)))],mkH [(1048576,⟨ver,some ⟨D.map mC,5,true⟩⟩)]⟩)
   (λp=>x1<=p.1/\p.1<=p.2/\p.2<=x2/\(x1<p.1->kM (D.getD (p.1-1) mo0)<=kM x)/\(p.2<x2->kM x<=kM (D.getD p.2 mo0))) (λp=>p.2-p.1) (x1.toNat,x2.toNat) ?_ ?_ ?_
  .exact Qa (by simp [okS,okV,okC,okL,okH,okB,okE,ja,Va,qa,va,wsA,ws];omega) (Jk rfl)
  .exact⟨by simp only;omega,by simp only;omega,by simp only;omega,λh=>by simp only at h;omega,λh=>by simp only at h;omega⟩
  .rintro⟨i,j⟩ ⟨h1,h2,h3,h4,h5⟩;simp only at h1 h2 h3 h4 h5;by_cases hij:i<j
   .have hij' : (i:Int)<(j:Int):=by omega
    obtain⟨k,hk⟩:∃k,k=(i+j) / 2:=⟨_,rfl⟩;have hk' : (i:Int)+(j:Int)=((i+j:Nat):Int):=by omega
    have ok1:=okD k (by omega) (by omega)
    have ok2:=okD m0 (by omega) (by omega)
    rw [hx]at ok2;obtain⟨y,hy⟩:∃y,D.getD k mo0=y:=⟨_,rfl⟩;rw [hy]at ok1;have hkk:(i+j) % 18446744073709551616 / 2=k:=by omega
    simp only [go_sem,hr,hro,hs,hcm,hij',hk',hkk,hx2',hx,hy,ok1.1,ok1.2,ok2.1,ok2.2,YL];refine⟨by omega,by omega,by omega,by omega,by omega,by omega,by omega,λhlt=>⟨(i,k),Qa (by simp [okS,okV,okC,okL,okH,okB,okE,ja,Va,qa,va,wsA,ws]) (Jk rfl),⟨by simp only;omega,by simp only;omega,by simp only;omega,h4,λ_=>?_⟩,by simp only;omega⟩,λhge=>⟨by omega,(k+1,j),Qa (by simp [okS,okV,okC,okL,okH,okB,okE,ja,Va,qa,va,wsA,ws]) (Jk rfl),⟨by simp only;omega,by simp only;omega,by simp only;omega,λ_=>?_,λh=>h5 (by simp only at h;omega)⟩,by simp only;omega⟩⟩
    .simp only;rw [hy];exact Nat.le_of_lt hlt
    .simp only [Nat.add_sub_cancel];rw [hy];exact Nat.not_lt.1 hge
   .obtain rfl:i=j:=by omega
    have hij' : ¬(i:Int)<(i:Int):=by omega
    simp only [go_sem,hr,hro,hs,hcm,hij'];obtain⟨t,ht⟩:∃t,t=i-U.length:=⟨_,rfl⟩;obtain⟨A1,hA1⟩:∃A1,A1=A.take t:=⟨_,rfl⟩;obtain⟨A2,hA2⟩:∃A2,A2=A.drop t:=⟨_,rfl⟩;have hA12:A=A1++A2:=by rw [hA1,hA2,List.take_append_drop]
    have lA1:A1.length=t:=by rw [hA1,List.length_take];omega
    have lA12:=congrArg List.length hA12;rw [List.length_append]at lA12;have hBx:B=[x]:=by
     match B,c2 with
     | [z],_=>
      have:=gB m0 0 (by omega) (by simp)
      rw [hx]at this;simpa using this.symm
    refine Ya (λp:List Mo×List Mo=>⟨mkV [(0,.one (.own 1048576 ver 5 0 len)),(14,.one (.lit (.int .i64 i))),(17,.one (.lit (.int .i64 (i+p.1.length:Nat))))],mkH [(1048576,⟨ver,some ⟨(U++A1++(p.1++x::p.2)++V).map mC,5,true⟩⟩)]⟩)
     (λp=>A2=p.1++p.2) (λp=>p.1.length) (A2,[]) ?_ ?_ ?_
    .exact Qa (by simp [okS,okV,okC,okL,okH,okB,okE,ja,Va,qa,va,wsA,ws];omega) (Jk (by rw [hD,hBx,hA12];simp))
    .simp
    .rintro⟨V1,V2⟩ hV;simp only at hV;have lV:=congrArg List.length hV;rw [List.length_append]at lV;rcases List.eq_nil_or_concat V1 with rfl | ⟨V1',y,rfl⟩
     .have hlt:¬(i:Int)<((i+([]:List Mo).length:Nat):Int):=by simp
      simp only [go_sem,hr,Nat.add_zero,Nat.lt_irrefl];rw [List.nil_append]at hV;subst hV;have hKK:=hK (A1++x::A2) ?_ ?_
      .have e:U++A1++x::A2++V=U++(A1++x::A2)++V:=by simp
       simp only [List.append_assoc,List.cons_append]at hKK ⊢;exact hKK
      .rw [hBx,hA12,List.append_assoc];refine List.Perm.append_left _ ?_;exact(List.perm_append_comm (l₁:=A2) (l₂:=[x]))
      .refine YA (by rw [hA1];exact zB (B:=A.drop t) (by rw [List.take_append_drop];exact hsA)) (List.pairwise_cons.2 ⟨?_,by rw [hA2];exact uv (A:=A.take t) (by rw [List.take_append_drop];exact hsA)⟩) ?_
       .intro z hz;rw [hA2]at hz;by_cases htl:t<A.length
        .refine kJ hsA htl ?_ z hz;rw [<-gA i t (by omega) htl]
         exact h5 (by omega)
        .rw [List.drop_of_length_le (by omega)]at hz;simp at hz
       .have hle:∀z∈A1,kM z<=kM x:=by
         intro z hz;by_cases ht0:0<t
         .rw [hA1]at hz;refine YJ hsA ht0 (by omega) ?_ z hz
          rw [<-gA (i-1) (t-1) (by omega) (by omega)]
          exact h4 (by omega)
         .have:A1=[]:=List.length_eq_zero_iff.1 (by omega)
          rw [this]at hz;simp at hz
        intro z hz w hw;rcases List.mem_cons.1 hw with rfl | hw
        .exact hle z hz
        .rw [hA12]at hsA;exact Ww hsA z hz w hw
     .rw [List.concat_eq_append]at *
      rw [List.length_append,List.length_singleton]at lV;obtain⟨k,hk⟩:∃k,k=i+V1'.length:=⟨_,rfl⟩;have hk1:i+(V1'++[y]).length=k+1:=by simp;omega
      have hlt:i<k+1:=by omega
      have n3:((k+1:Nat):Int)-1=(k:Int):=by omega
      obtain⟨E,hE⟩:∃E,E=U++A1++(V1'++[y]++x::V2)++V:=⟨_,rfl⟩;have lE:E.length=D.length:=by
       rw [hE,hDl,c2];simp only [List.length_append,List.length_cons,List.length_nil];omega
      have e1:E=(U++A1++V1')++y::(x::V2++V):=by rw [hE];simp
      have e2:E=(U++A1++V1'++[y])++x::(V2++V):=by rw [hE];simp
      have g1:E.getD k mo0=y:=by rw [e1];exact getMM _ _ _ _ (by simp;omega)
      have g2:E.getD (k+1) mo0=x:=by rw [e2];exact getMM _ _ _ _ (by simp;omega)
      have b1:k<len:=by omega
      have b2:k+1<len:=by omega
      have q1:k<E.length:=by omega
      have q2:k+1<E.length:=by omega
      have s1:(E.set (k+1) y).set k x=U++A1++(V1'++x::(y::V2))++V:=by
       have:E.set (k+1) y=(U++A1++V1'++[y])++y::(V2++V):=by rw [e2];exact setMM _ _ _ _ (by simp;omega)
       rw [this];have:(U++A1++V1'++[y])++y::(V2++V)=(U++A1++V1')++y::(y::V2++V):=by simp
       rw [this,setMM _ _ _ _ (by simp;omega)]
       simp
      simp only [<-hE,hk1];simp only [go_sem,hr,n3,hlt,g1,g2,b1,b2,q1,q2,s1,List.length_set];refine⟨by omega,by omega,by omega,(V1',y::V2),Qa (by simp [okS,okV,okC,okL,okH,okB,okE,ja,Va,qa,va,wsA,ws];omega) (Jk rfl),by simp only;rw [hV];simp,by simp⟩
 obtain⟨m0,hm0⟩:∃m0,m0=U.length+A.length:=⟨_,rfl⟩;obtain⟨b0,hb0⟩:∃b0,b0=U.length+A.length+B.length:=⟨_,rfl⟩;have hx2' : x2=(m0:Int):=by omega
 have hx3' : x3=(b0:Int):=by omega
 have n1:¬(m0:Int)-(U.length:Int)=1:=by omega
 have n2:¬(b0:Int)-(m0:Int)=1:=by omega
 obtain⟨md,hmd⟩:∃md,md=(U.length+b0) / 2:=⟨_,rfl⟩;have n3:(U.length:Int)+(b0:Int)=((U.length+b0:Nat):Int):=by omega
 have n4:(U.length+b0) % 18446744073709551616 / 2=md:=by omega
 have n5:(md:Int)+(m0:Int)=((md+m0:Nat):Int):=by omega
 rcases Nat.lt_or_ge md m0 with hgt | hgt
 case' inl=>
  have hgt' : (md:Int)<(m0:Int):=by omega
  simp only [go_sem,vb,hr,fnV,hro,hs,hcm,hx1,hx2',hx3',n1,n2,n3,n4,n5,hgt'];obtain⟨st0,hst⟩:∃st0,st0=md+m0-b0:=⟨_,rfl⟩;obtain⟨r0,hr0⟩:∃r0,r0=md:=⟨_,rfl⟩;refine⟨by omega,by omega,by omega,by omega,by omega,by omega,by omega,by omega,?_⟩
 case' inr=>
  have hgt' : ¬(md:Int)<(m0:Int):=by omega
  simp only [go_sem,vb,hr,fnV,hro,hs,hcm,hx1,hx2',hx3',n1,n2,n3,n4,n5,hgt'];obtain⟨st0,hst⟩:∃st0,st0=U.length:=⟨_,rfl⟩;obtain⟨r0,hr0⟩:∃r0,r0=m0:=⟨_,rfl⟩;refine⟨by omega,by omega,by omega,by omega,by omega,by omega,by omega,?_⟩
 all_goals
  have f1:U.length<=st0/\st0<=r0/\r0<=m0/\r0<=md/\md+m0<=b0+st0:=by omega
  have f2:st0=U.length∨md+m0=b0+st0:=by omega
  have f3:r0=m0∨r0=md:=by omega
  have n7:((md+m0:Nat):Int)-1=((md+m0-1:Nat):Int):=by omega
  refine Ya (λp:Nat×Nat=>⟨mkV [(0,.one (.own 1048576 ver 5 0 len)),(1,.one (.lit (.int .i64 U.length))),(2,.one (.lit (.int .i64 m0))),(3,.one (.lit (.int .i64 b0))),(4,.one (.lit (.func (.func fc) ⟨[]⟩ ⟨[]⟩))),(18,.one (.lit (.int .i64 md))),(19,.one (.lit (.int .i64 (md+m0:Nat)))),(20,.one (.lit (.int .i64 p.1))),(21,.one (.lit (.int .i64 p.2))),(22,.one (.lit (.int .i64 (md+m0-1:Nat))))],mkH [(1048576,⟨ver,some ⟨D.map mC,5,true⟩⟩)]⟩)
   (λp=>st0<=p.1/\p.1<=p.2/\p.2<=r0/\(st0<p.1->kM (D.getD (p.1-1) mo0)<=kM (D.getD (md+m0-p.1) mo0))/\(p.2<r0->kM (D.getD (md+m0-1-p.2) mo0)<=kM (D.getD p.2 mo0))) (λp=>p.2-p.1) (st0,r0) ?_ ?_ ?_
  .exact Qa (by simp [okS,okV,okC,okL,okH,okB,okE,ja,Va,qa,va,wsA,ws];omega) (Jk rfl)
  .exact⟨by simp only;omega,by simp only;omega,by simp only;omega,λh=>by simp only at h;omega,λh=>by simp only at h;omega⟩
  .rintro⟨i,j⟩ ⟨h1,h2,h3,h4,h5⟩;simp only at h1 h2 h3 h4 h5;by_cases hij:i<j
   .have hij' : (i:Int)<(j:Int):=by omega
    obtain⟨k,hk⟩:∃k,k=(i+j) / 2:=⟨_,rfl⟩;have hk' : (i:Int)+(j:Int)=((i+j:Nat):Int):=by omega
    have hkk:(i+j) % 18446744073709551616 / 2=k:=by omega
    obtain⟨q,hq⟩:∃q,q=md+m0-1-k:=⟨_,rfl⟩;have hq' : ((md+m0-1:Nat):Int)-(k:Int)=(q:Int):=by omega
    have ok1:=okD k (by omega) (by omega)
    have ok2:=okD q (by omega) (by omega)
    obtain⟨y,hy⟩:∃y,D.getD k mo0=y:=⟨_,rfl⟩;obtain⟨z,hz⟩:∃z,D.getD q mo0=z:=⟨_,rfl⟩;rw [hy]at ok1;rw [hz]at ok2;have q1:k<len:=by omega
    have q2:q<len:=by omega
    have q3:k<D.length:=by omega
    have q4:q<D.length:=by omega
    simp only [go_sem,hr,hro,hs,hcm,hij',hk',hkk,hq',hy,hz,ok1.1,ok1.2,ok2.1,ok2.2,YL,q1,q2,q3,q4];refine⟨by omega,by omega,by omega,by omega,λhlt=>⟨(i,k),Qa (by simp [okS,okV,okC,okL,okH,okB,okE,ja,Va,qa,va,wsA,ws]) (Jk rfl),⟨by simp only;omega,by simp only;omega,by simp only;omega,h4,λ_=>?_⟩,by simp only;omega⟩,λhge=>⟨by omega,(k+1,j),Qa (by simp [okS,okV,okC,okL,okH,okB,okE,ja,Va,qa,va,wsA,ws]) (Jk rfl),⟨by simp only;omega,by simp only;omega,by simp only;omega,λ_=>?_,h5⟩,by simp only;omega⟩⟩
    .simp only;rw [<-hq,hy,hz];exact Nat.le_of_lt hlt
    .simp only [Nat.add_sub_cancel];have e:md+m0-(k+1)=q:=by omega
     rw [e,hy,hz];exact Nat.not_lt.1 hge
   .obtain rfl:i=j:=by omega
    have hij' : ¬(i:Int)<(i:Int):=by omega
    obtain⟨e,he⟩:∃e,e=md+m0-i:=⟨_,rfl⟩;have he' : ((md+m0:Nat):Int)-(i:Int)=(e:Int):=by omega
    obtain⟨t,ht⟩:∃t,t=i-U.length:=⟨_,rfl⟩;obtain⟨u,hu⟩:∃u,u=e-m0:=⟨_,rfl⟩;obtain⟨A1,hA1⟩:∃A1,A1=A.take t:=⟨_,rfl⟩;obtain⟨A2,hA2⟩:∃A2,A2=A.drop t:=⟨_,rfl⟩;obtain⟨B1,hB1⟩:∃B1,B1=B.take u:=⟨_,rfl⟩;obtain⟨B2,hB2⟩:∃B2,B2=B.drop u:=⟨_,rfl⟩;have hA12:A=A1++A2:=by rw [hA1,hA2,List.take_append_drop]
    have hB12:B=B1++B2:=by rw [hB1,hB2,List.take_append_drop]
    have lA1:A1.length=t:=by rw [hA1,List.length_take];omega
    have lB1:B1.length=u:=by rw [hB1,List.length_take];omega
    have lA2:A2.length=A.length-t:=by rw [hA2,List.length_drop]
    have lB2:B2.length=B.length-u:=by rw [hB2,List.length_drop]
    have X1:∀x∈A1,∀y∈B2,kM x<=kM y:=by
     intro x hx y hy;have l1:=List.length_pos_of_mem hx;have l2:=List.length_pos_of_mem hy;have hle:=h4 (by omega)
     rw [gA (i-1) (t-1) (by omega) (by omega),gB (md+m0-i) u (by omega) (by omega)]at hle
     rw [hA1]at hx;rw [hB2]at hy;exact Nat.le_trans (YJ hsA (by omega) (by omega) hle x hx) (kJ hsB (by omega) (Nat.le_refl _) y hy)
    have X2:∀x∈B1,∀y∈A2,kM x<=kM y:=by
     intro x hx y hy;have l1:=List.length_pos_of_mem hx;have l2:=List.length_pos_of_mem hy;have hle:=h5 (by omega)
     rw [gA i t (by omega) (by omega),gB (md+m0-1-i) (u-1) (by omega) (by omega)]at hle
     rw [hB1]at hx;rw [hA2]at hy;exact Nat.le_trans (YJ hsB (by omega) (by omega) hle x hx) (kJ hsA (by omega) (Nat.le_refl _) y hy)
    have sA1:SortM A1:=by rw [hA12]at hsA;exact zB hsA
    have sA2:SortM A2:=by rw [hA12]at hsA;exact uv hsA
    have sB1:SortM B1:=by rw [hB12]at hsB;exact zB hsB
    have sB2:SortM B2:=by rw [hB12]at hsB;exact uv hsB
    have oA1:okMs A1:=by rw [hA12]at hoA;exact(Zj.1 hoA).1
    have oA2:okMs A2:=by rw [hA12]at hoA;exact(Zj.1 hoA).2
    have oB1:okMs B1:=by rw [hB12]at hoB;exact(Zj.1 hoB).1
    have oB2:okMs B2:=by rw [hB12]at hoB;exact(Zj.1 hoB).2
    have XA:=λx hx y hy=>Ww (A:=A1) (B:=A2) (hA12▸hsA) x hx y hy;have XB:=λx hx y hy=>Ww (A:=B1) (B:=B2) (hB12▸hsB) x hx y hy;have hp0:(A++B).Perm ((A1++B1)++(A2++B2)):=by
     rw [hA12,hB12];simp only [List.append_assoc];refine List.Perm.append_left _ ?_;rw [<-List.append_assoc,<-List.append_assoc];exact List.Perm.append_right _ List.perm_append_comm
    have fin:∀C1 C2:List Mo,(A1++B1).Perm C1->SortM C1->(A2++B2).Perm C2->SortM C2->K (.tup []) (upd h r ⟨ver,some ⟨(U++C1++C2++V).map mC,5,true⟩⟩):=by
     intro C1 C2 p1 s1 p2 s2;have:=hK (C1++C2) (hp0.trans (p1.append p2)) (YA s1 s2 λx hx y hy=>by
      have hx':=p1.mem_iff.2 hx;have hy':=p2.mem_iff.2 hy;rcases List.mem_append.1 hx' with hx' | hx' <;> rcases List.mem_append.1 hy' with hy' | hy'
      .exact XA x hx' y hy'
      .exact X1 x hx' y hy'
      .exact X2 x hx' y hy'
      .exact XB x hx' y hy')
     rw [<-List.append_assoc]at this;exact this
    by_cases hrot:i<m0/\m0<e
    .have w1:(i:Int)<(m0:Int):=by omega
     have w2:(m0:Int)<(e:Int):=by omega
     simp only [go_sem,hr,hro,hs,hcm,hij',he',w1,w2];refine⟨by omega,?_⟩
     simp only [vH];refine⟨U++A1,A2,B1,B2++V,rfl,by simp;omega,by simp;omega,by simp;omega,λh=>?_,λh=>?_,by simp;omega,by simp;omega,by omega,by simp [qa,hD,hA12,hB12],?_⟩
     .have:=List.length_eq_zero_iff.2 h;omega
     .have:=List.length_eq_zero_iff.2 h;omega
     have eS:U++A1++B1++A2++(B2++V)=U++(A1++B1)++(A2++B2)++V:=by simp
     rw [eS];simp only [go_sem,hr,hro,hs,hcm];refine⟨λq1=>⟨λq2=>?_,λq2=>?_⟩,λq1=>?_⟩
     .simp only [ui];refine⟨U,A1,B1,(A2++B2)++V,rfl,rfl,by omega,by omega,λh=>?_,λh=>?_,by omega,by omega,by simp;omega,by omega,oA1,oB1,sA1,sB1,by simp [qa],λC1 p1 s1=>?_⟩
      .have:=List.length_eq_zero_iff.2 h;omega
      .have:=List.length_eq_zero_iff.2 h;omega
      have lC1:=p1.length_eq;rw [List.length_append]at lC1;try simp only [go_sem,hr]
      refine⟨λq3=>⟨λq4=>?_,λq4=>?_⟩,λq3=>?_⟩
      .try simp only [ui]
       refine⟨U++C1,A2,B2,V,rfl,by simp;omega,by simp;omega,by simp;omega,λh=>?_,λh=>?_,by omega,by simp;omega,by simp;omega,by omega,oA2,oB2,sA2,sB2,by simp [qa],λC2 p2 s2=>?_⟩
       .have:=List.length_eq_zero_iff.2 h;omega
       .have:=List.length_eq_zero_iff.2 h;omega
       try simp only [go_sem,hr]
       exact fin C1 C2 p1 s1 p2 s2
      .have s2:SortM (A2++B2):=by
        have:B2=[]:=List.length_eq_zero_iff.1 (by omega)
        rw [this,List.append_nil];exact sA2
       have:=fin C1 (A2++B2) p1 s1 (List.Perm.refl _) s2;simpa only [List.append_assoc] using this
      .have s2:SortM (A2++B2):=by
        have:A2=[]:=List.length_eq_zero_iff.1 (by omega)
        rw [this,List.nil_append];exact sB2
       have:=fin C1 (A2++B2) p1 s1 (List.Perm.refl _) s2;simpa only [List.append_assoc] using this
     .obtain⟨C1,hC1⟩:∃C1,C1=A1++B1:=⟨_,rfl⟩;have p1:(A1++B1).Perm C1:=by rw [hC1]
      have s1:SortM C1:=by
       have:B1=[]:=List.length_eq_zero_iff.1 (by omega)
       rw [hC1,this,List.append_nil];exact sA1
      have lC1:=p1.length_eq;rw [List.length_append]at lC1;rw [<-hC1];refine⟨λq3=>⟨λq4=>?_,λq4=>?_⟩,λq3=>?_⟩
      .try simp only [ui]
       refine⟨U++C1,A2,B2,V,rfl,by simp;omega,by simp;omega,by simp;omega,λh=>?_,λh=>?_,by omega,by simp;omega,by simp;omega,by omega,oA2,oB2,sA2,sB2,by simp [qa],λC2 p2 s2=>?_⟩
       .have:=List.length_eq_zero_iff.2 h;omega
       .have:=List.length_eq_zero_iff.2 h;omega
       try simp only [go_sem,hr]
       exact fin C1 C2 p1 s1 p2 s2
      .have s2:SortM (A2++B2):=by
        have:B2=[]:=List.length_eq_zero_iff.1 (by omega)
        rw [this,List.append_nil];exact sA2
       have:=fin C1 (A2++B2) p1 s1 (List.Perm.refl _) s2;simpa only [List.append_assoc] using this
      .have s2:SortM (A2++B2):=by
        have:A2=[]:=List.length_eq_zero_iff.1 (by omega)
        rw [this,List.nil_append];exact sB2
       have:=fin C1 (A2++B2) p1 s1 (List.Perm.refl _) s2;simpa only [List.append_assoc] using this
     .obtain⟨C1,hC1⟩:∃C1,C1=A1++B1:=⟨_,rfl⟩;have p1:(A1++B1).Perm C1:=by rw [hC1]
      have s1:SortM C1:=by
       have:A1=[]:=List.length_eq_zero_iff.1 (by omega)
       rw [hC1,this,List.nil_append];exact sB1
      have lC1:=p1.length_eq;rw [List.length_append]at lC1;rw [<-hC1];refine⟨λq3=>⟨λq4=>?_,λq4=>?_⟩,λq3=>?_⟩
      .try simp only [ui]
       refine⟨U++C1,A2,B2,V,rfl,by simp;omega,by simp;omega,by simp;omega,λh=>?_,λh=>?_,by omega,by simp;omega,by simp;omega,by omega,oA2,oB2,sA2,sB2,by simp [qa],λC2 p2 s2=>?_⟩
       .have:=List.length_eq_zero_iff.2 h;omega
       .have:=List.length_eq_zero_iff.2 h;omega
       try simp only [go_sem,hr]
       exact fin C1 C2 p1 s1 p2 s2
      .have s2:SortM (A2++B2):=by
        have:B2=[]:=List.length_eq_zero_iff.1 (by omega)
        rw [this,List.append_nil];exact sA2
       have:=fin C1 (A2++B2) p1 s1 (List.Perm.refl _) s2;simpa only [List.append_assoc] using this
      .have s2:SortM (A2++B2):=by
        have:A2=[]:=List.length_eq_zero_iff.1 (by omega)
        rw [this,List.nil_append];exact sB2
       have:=fin C1 (A2++B2) p1 s1 (List.Perm.refl _) s2;simpa only [List.append_assoc] using this
    .have eS:D=U++(A1++B1)++(A2++B2)++V:=by
      rw [hD,hA12,hB12];rcases Nat.lt_or_ge i m0 with hh | hh
      .have:B1=[]:=List.length_eq_zero_iff.1 (by omega)
       rw [this];simp
      .have:A2=[]:=List.length_eq_zero_iff.1 (by omega)
       rw [this];simp
     rw [eS];rcases Nat.lt_or_ge i m0 with hh | hh
     case' inl=>
      have w1:(i:Int)<(m0:Int):=by omega
      have w2:¬(m0:Int)<(e:Int):=by omega
      simp only [go_sem,hr,hro,hs,hcm,hij',he',w1,w2];refine⟨by omega,?_⟩
     case' inr=>
      have w1:¬(i:Int)<(m0:Int):=by omega
      simp only [go_sem,hr,hro,hs,hcm,hij',he',w1];refine⟨by omega,?_⟩
     all_goals
      refine⟨λq1=>⟨λq2=>?_,λq2=>?_⟩,λq1=>?_⟩
      .simp only [ui];refine⟨U,A1,B1,(A2++B2)++V,rfl,rfl,by omega,by omega,λh=>?_,λh=>?_,by omega,by omega,by simp;omega,by omega,oA1,oB1,sA1,sB1,by simp [qa],λC1 p1 s1=>?_⟩
       .have:=List.length_eq_zero_iff.2 h;omega
       .have:=List.length_eq_zero_iff.2 h;omega
       have lC1:=p1.length_eq;rw [List.length_append]at lC1;try simp only [go_sem,hr]
       refine⟨λq3=>⟨λq4=>?_,λq4=>?_⟩,λq3=>?_⟩
       .try simp only [ui]
        refine⟨U++C1,A2,B2,V,rfl,by simp;omega,by simp;omega,by simp;omega,λh=>?_,λh=>?_,by omega,by simp;omega,by simp;omega,by omega,oA2,oB2,sA2,sB2,by simp [qa],λC2 p2 s2=>?_⟩
        .have:=List.length_eq_zero_iff.2 h;omega
        .have:=List.length_eq_zero_iff.2 h;omega
        try simp only [go_sem,hr]
        exact fin C1 C2 p1 s1 p2 s2
       .have s2:SortM (A2++B2):=by
         have:B2=[]:=List.length_eq_zero_iff.1 (by omega)
         rw [this,List.append_nil];exact sA2
        have:=fin C1 (A2++B2) p1 s1 (List.Perm.refl _) s2;simpa only [List.append_assoc] using this
       .have s2:SortM (A2++B2):=by
         have:A2=[]:=List.length_eq_zero_iff.1 (by omega)
         rw [this,List.nil_append];exact sB2
        have:=fin C1 (A2++B2) p1 s1 (List.Perm.refl _) s2;simpa only [List.append_assoc] using this
      .obtain⟨C1,hC1⟩:∃C1,C1=A1++B1:=⟨_,rfl⟩;have p1:(A1++B1).Perm C1:=by rw [hC1]
       have s1:SortM C1:=by
        have:B1=[]:=List.length_eq_zero_iff.1 (by omega)
        rw [hC1,this,List.append_nil];exact sA1
       have lC1:=p1.length_eq;rw [List.length_append]at lC1;rw [<-hC1];refine⟨λq3=>⟨λq4=>?_,λq4=>?_⟩,λq3=>?_⟩
       .try simp only [ui]
        refine⟨U++C1,A2,B2,V,rfl,by simp;omega,by simp;omega,by simp;omega,λh=>?_,λh=>?_,by omega,by simp;omega,by simp;omega,by omega,oA2,oB2,sA2,sB2,by simp [qa],λC2 p2 s2=>?_⟩
        .have:=List.length_eq_zero_iff.2 h;omega
        .have:=List.length_eq_zero_iff.2 h;omega
        try simp only [go_sem,hr]
        exact fin C1 C2 p1 s1 p2 s2
       .have s2:SortM (A2++B2):=by
         have:B2=[]:=List.length_eq_zero_iff.1 (by omega)
         rw [this,List.append_nil];exact sA2
        have:=fin C1 (A2++B2) p1 s1 (List.Perm.refl _) s2;simpa only [List.append_assoc] using this
       .have s2:SortM (A2++B2):=by
         have:A2=[]:=List.length_eq_zero_iff.1 (by omega)
         rw [this,List.nil_append];exact sB2
        have:=fin C1 (A2++B2) p1 s1 (List.Perm.refl _) s2;simpa only [List.append_assoc] using this
      .obtain⟨C1,hC1⟩:∃C1,C1=A1++B1:=⟨_,rfl⟩;have p1:(A1++B1).Perm C1:=by rw [hC1]
       have s1:SortM C1:=by
        have:A1=[]:=List.length_eq_zero_iff.1 (by omega)
        rw [hC1,this,List.nil_append];exact sB1
       have lC1:=p1.length_eq;rw [List.length_append]at lC1;rw [<-hC1];refine⟨λq3=>⟨λq4=>?_,λq4=>?_⟩,λq3=>?_⟩
       .try simp only [ui]
        refine⟨U++C1,A2,B2,V,rfl,by simp;omega,by simp;omega,by simp;omega,λh=>?_,λh=>?_,by omega,by simp;omega,by simp;omega,by omega,oA2,oB2,sA2,sB2,by simp [qa],λC2 p2 s2=>?_⟩
        .have:=List.length_eq_zero_iff.2 h;omega
        .have:=List.length_eq_zero_iff.2 h;omega
        try simp only [go_sem,hr]
        exact fin C1 C2 p1 s1 p2 s2
       .have s2:SortM (A2++B2):=by
         have:B2=[]:=List.length_eq_zero_iff.1 (by omega)
         rw [this,List.append_nil];exact sA2
        have:=fin C1 (A2++B2) p1 s1 (List.Perm.refl _) s2;simpa only [List.append_assoc] using this
       .have s2:SortM (A2++B2):=by
         have:A2=[]:=List.length_eq_zero_iff.1 (by omega)
         rw [this,List.nil_append];exact sB2
        have:=fin C1 (A2++B2) p1 s1 (List.Perm.refl _) s2;simpa only [List.append_assoc] using this
end Go.Abs
end
section
namespace Go.Abs
open Go.Num
variable {P:Program} {L:List (Nat×Spec)}
theorem xa1{f fc:Nat}(hE:Enters P f):Sound P f (.own (ui fc 0)):=by
 refine⟨hE,λE args vals w I m h d K _ _ hG=>?_⟩;unfold ui at hG;split at hG
 .obtain⟨U,A,B,V,_,_,_,_,hA,_,hN,_⟩:=hG;have:=List.length_pos_iff.2 hA;omega
 .exact hG.elim
theorem WY(hΓ:Holds P (Gl L)){f fr fc N:Nat}(hn1:fr≠f)(hn2:fc≠f)(hro:Gl L fr=.own (vH fc))(hcm:Gl L fc=.dat true Jy)(hc:check P f=some (220,(vb fr f).strip,[])):Sound P f (.own (ui fc N)):=by
 induction N with
 | zero=>
  obtain⟨fn,c,h1,h2,h3,_⟩:=yy hc;exact xa1 (ky h1 h2 (by rw [h3];rfl))
 | succ N ih=>
  have hh:Holds P (Gl ((f,.own (ui fc N))::L)):=Za hΓ ih;refine zaH (Γ:=Gl ((f,.own (ui fc N))::L)) hh (fs:=f) ?_ ?_ ?_ hc
  .unfold Gl;rw [if_neg hn1];exact hro
  .unfold Gl;rw [if_pos rfl]
  .unfold Gl;rw [if_neg hn2];exact hcm
end Go.Abs
end
section
namespace Go.Abs
open Go.Num
variable {P:Program} {Γ:Nat->Spec}
def kd:AC:=(.seq (.ops false [.m 2 (.c (.one .emp))])
 (.fg [0] (.seq (.ops false [.m 4 (.c (.one .emp)),.m 5 (.t 0),.u 6 (.app0 1 (.t 4) (.t 5)),.m 3 (.t 6)])
 (.fg [3] (.seq (.block 0 (.loop (.seq (.seq (.ops false [.m 7 (.t 3),.u 8 (.len (.t 7)),.u 9 (.bin .gtr (.t 8) (.i 0)),.m 10 (.t 9),.w 11 10 true (.mv (.t 3)),.w 12 10 true (.mv (.t 3)),.w 13 10 true (.len (.t 12)),.w 14 10 true (.bin .sub (.t 13) (.i 1)),.w 15 10 true (.idx 1 (.t 11) (.t 14)),.w 16 10 true (.ld none 1 false (.t 15)),.w 17 10 true (.bin .eql (.t 16) (.c (.one (.lit (.int .u32 0))))),.u 18 (.pick (.t 10) (.t 17) .fa)])
 (.fg [3,18] (.cond (.t 18) .skip (.exit 0))))
 (.fg [3] (.block 1 (.ops false [.m 19 (.t 3),.m 20 (.t 3),.u 21 (.len (.t 20)),.u 22 (.bin .sub (.t 21) (.i 1)),.u 23 (.sl 1 (.t 19) none (some (.t 22))),.m 3 (.t 23)]))))))
 (.fg [3] (.seq (.ops false [.m 24 (.t 3),.m 2 (.t 24)])
 .ret)))))))
def Ui(f0 f1:Nat):AC:=(.seq (.ops false [.m 4 (.c (.one .emp))])
 (.fg [0,1] (.seq (.ops false [.m 5 (.c (.one .emp))])
 (.fg [0,1,5] (.seq (.ops false [.m 6 (.c (.one (.lit (.int .u64 0))))])
 (.fg [0,1,5,6] (.seq (.seq (.ops false [.m 9 (.t 0),.u 10 (.len (.t 9)),.m 11 (.t 1),.u 12 (.len (.t 11)),.u 13 (.max [(.t 10),(.t 12)]),.u 14 (.bin .add (.t 13) (.i 1)),.m 15 (.i 0)])
 (.fg [0,1,5,6,14,15] (.block 0 (.loop (.seq (.ops false [.u 16 (.bin .lss (.t 15) (.t 14))])
 (.fg [0,1,5,6,14,15,16] (.seq (.cond (.t 16) .skip (.exit 0))
 (.fg [0,1,5,6,14,15] (.seq (.block 1 (.seq (.ops false [.m 17 (.t 15),.m 7 (.t 17)])
 (.fg [0,1,5,6,7,14,15] (.seq (.ops false [.m 18 (.t 0),.m 19 (.t 7),.u 20 (.call f0 [(.t 18),(.t 19)]),.m 21 (.t 1),.m 22 (.t 7),.u 23 (.call f0 [(.t 21),(.t 22)]),.u 24 (.bin .add (.t 20) (.t 23)),.m 25 (.t 6),.u 26 (.bin .add (.t 24) (.t 25)),.m 8 (.t 26)])
 (.fg [0,1,5,8,14,15] (.ops false [.m 27 (.t 5),.m 28 (.t 8),.u 29 (.conv .u32 (.t 28)),.u 30 (.row 1 [[.x 1 (.t 29)]]),.u 31 (.app 1 (.t 27) (.t 30)),.m 32 (.t 8),.u 33 (.bin .shr (.t 32) (.c (.one (.lit (.int .u64 32))))),.m 5 (.t 31),.m 6 (.t 33)]))))))
 (.fg [0,1,5,6,14,15] (.ops false [.u 34 (.bin .add (.t 15) (.i 1)),.m 15 (.t 34)])))))))))))
 (.fg [5] (.seq (.ops false [.m 35 (.t 5),.u 36 (.callf f1 [(.t 35)]),.m 4 (.t 36)])
 .ret)))))))))
def Zh(f0 f1:Nat):AC:=(.seq (.ops false [.m 4 (.c (.one .emp))])
 (.fg [0,1] (.seq (.ops false [.m 5 (.c (.one .emp))])
 (.fg [0,1,5] (.seq (.ops false [.m 6 (.c (.one (.lit (.int .u64 0))))])
 (.fg [0,1,5,6] (.seq (.seq (.ops false [.m 9 (.t 0),.u 10 (.len (.t 9)),.m 11 (.i 0)])
 (.fg [0,1,5,6,10,11] (.block 0 (.loop (.seq (.ops false [.u 12 (.bin .lss (.t 11) (.t 10))])
 (.fg [0,1,5,6,10,11,12] (.seq (.cond (.t 12) .skip (.exit 0))
 (.fg [0,1,5,6,10,11] (.seq (.block 1 (.seq (.ops false [.m 13 (.t 11),.m 7 (.t 13)])
 (.fg [0,1,5,6,7,10,11] (.seq (.ops false [.m 14 (.t 0),.m 15 (.t 7),.u 16 (.call f0 [(.t 14),(.t 15)]),.u 17 (.bin .add (.c (.one (.lit (.int .u64 4294967296)))) (.t 16)),.m 18 (.t 1),.m 19 (.t 7),.u 20 (.call f0 [(.t 18),(.t 19)]),.u 21 (.bin .sub (.t 17) (.t 20)),.m 22 (.t 6),.u 23 (.bin .sub (.t 21) (.t 22)),.m 8 (.t 23)])
 (.fg [0,1,5,8,10,11] (.ops false [.m 24 (.t 5),.m 25 (.t 8),.u 26 (.conv .u32 (.t 25)),.u 27 (.row 1 [[.x 1 (.t 26)]]),.u 28 (.app 1 (.t 24) (.t 27)),.m 29 (.t 8),.u 30 (.bin .shr (.t 29) (.c (.one (.lit (.int .u64 32))))),.u 31 (.bin .sub (.c (.one (.lit (.int .u64 1)))) (.t 30)),.m 5 (.t 28),.m 6 (.t 31)]))))))
 (.fg [0,1,5,6,10,11] (.ops false [.u 32 (.bin .add (.t 11) (.i 1)),.m 11 (.t 32)])))))))))))
 (.fg [5] (.seq (.ops false [.m 33 (.t 5),.u 34 (.callf f1 [(.t 33)]),.m 4 (.t 34)])
 .ret)))))))))
def Vf(f0:Nat):AC:=(.seq (.ops false [.m 4 (.i 0)])
 (.fg [0,1] (.seq (.seq (.ops false [.m 6 (.t 0),.u 7 (.len (.t 6)),.m 8 (.t 1),.u 9 (.len (.t 8)),.u 10 (.max [(.t 7),(.t 9)]),.u 11 (.bin .sub (.t 10) (.i 1)),.m 5 (.t 11)])
 (.fg [0,1,5] (.block 0 (.loop (.seq (.seq (.ops false [.m 12 (.t 5),.u 13 (.bin .geq (.t 12) (.i 0))])
 (.fg [0,1,5,13] (.cond (.t 13) .skip (.exit 0))))
 (.fg [0,1,5] (.seq (.block 1 (.seq (.ops false [.m 16 (.t 0),.m 17 (.t 5),.u 18 (.call f0 [(.t 16),(.t 17)]),.m 19 (.t 1),.m 20 (.t 5),.u 21 (.call f0 [(.t 19),(.t 20)]),.u 22 (.bin .neq (.t 18) (.t 21))])
 (.fg [0,1,5,22] (.cond (.t 22) (.seq (.seq (.ops false [.m 23 (.t 0),.m 24 (.t 5),.u 25 (.call f0 [(.t 23),(.t 24)]),.m 26 (.t 1),.m 27 (.t 5),.u 28 (.call f0 [(.t 26),(.t 27)]),.u 29 (.bin .lss (.t 25) (.t 28))])
 (.fg [29] (.cond (.t 29) (.seq (.ops false [.m 4 (.i (-1))])
 .ret) .skip)))
 (.fg [] (.seq (.ops false [.m 4 (.i 1)])
 .ret))) .skip))))
 (.fg [0,1,5] (.ops false [.m 14 (.t 5),.u 15 (.bin .sub (.t 14) (.i 1)),.m 5 (.t 15)])))))))))
 (.fg [] (.seq (.ops false [.m 4 (.i 0)])
 .ret)))))
def Ji:AC:=(.seq (.ops false [.m 2 (.i 0)])
 (.fg [0] (.seq (.seq (.ops false [.m 5 (.t 0),.u 6 (.len (.t 5)),.u 7 (.bin .eql (.t 6) (.i 0))])
 (.fg [0,7] (.cond (.t 7) (.seq (.ops false [.m 2 (.i 0)])
 .ret) .skip)))
 (.fg [0] (.seq (.ops false [.m 8 (.t 0),.u 9 (.len (.t 8)),.u 10 (.bin .sub (.t 9) (.i 1)),.u 11 (.bin .mul (.i 32) (.t 10)),.m 3 (.t 11)])
 (.fg [0,3] (.seq (.seq (.ops false [.m 12 (.t 0),.m 13 (.t 0),.u 14 (.len (.t 13)),.u 15 (.bin .sub (.t 14) (.i 1)),.u 16 (.idx 1 (.t 12) (.t 15)),.u 17 (.ld none 1 false (.t 16)),.m 4 (.t 17)])
 (.fg [3,4] (.block 0 (.loop (.seq (.seq (.ops false [.m 18 (.t 4),.u 19 (.bin .gtr (.t 18) (.c (.one (.lit (.int .u32 0)))))])
 (.fg [3,4,19] (.cond (.t 19) .skip (.exit 0))))
 (.fg [3,4] (.seq (.block 1 (.ops false [.m 22 (.t 3),.u 23 (.bin .add (.t 22) (.i 1)),.m 3 (.t 23)]))
 (.fg [3,4] (.ops false [.m 20 (.t 4),.u 21 (.bin .shr (.t 20) (.c (.one (.lit (.int .u64 1))))),.m 4 (.t 21)])))))))))
 (.fg [3] (.seq (.ops false [.m 24 (.t 3),.m 2 (.t 24)])
 .ret)))))))))
def kh(f0:Nat):AC:=(.seq (.ops false [.m 4 (.c (.one .emp))])
 (.fg [0,1] (.seq (.ops false [.m 10 (.t 0),.u 11 (.len (.t 10)),.m 12 (.t 1),.u 13 (.len (.t 12)),.u 14 (.bin .add (.t 11) (.t 13)),.u 15 (.mk 1 [(.lit (.int .u32 0))] (.t 14) (.t 14)),.m 5 (.t 15)])
 (.fg [0,1,5] (.seq (.seq (.ops false [.m 16 (.t 0),.u 17 (.len (.t 16)),.m 18 (.i 0)])
 (.fg [0,1,5,17,18] (.block 0 (.loop (.seq (.ops false [.u 19 (.bin .lss (.t 18) (.t 17))])
 (.fg [0,1,5,17,18,19] (.seq (.cond (.t 19) .skip (.exit 0))
 (.fg [0,1,5,17,18] (.seq (.block 1 (.seq (.ops false [.m 20 (.t 18),.m 6 (.t 20)])
 (.fg [0,1,5,6,17,18] (.seq (.ops false [.m 7 (.c (.one (.lit (.int .u64 0))))])
 (.fg [0,1,5,6,7,17,18] (.seq (.seq (.ops false [.m 21 (.t 1),.u 22 (.len (.t 21)),.m 23 (.i 0)])
 (.fg [0,1,5,6,7,17,18,22,23] (.block 2 (.loop (.seq (.ops false [.u 24 (.bin .lss (.t 23) (.t 22))])
 (.fg [0,1,5,6,7,17,18,22,23,24] (.seq (.cond (.t 24) .skip (.exit 2))
 (.fg [0,1,5,6,7,17,18,22,23] (.seq (.block 3 (.seq (.ops false [.m 25 (.t 23),.m 8 (.t 25)])
 (.fg [0,1,5,6,7,8,17,18,22,23] (.seq (.ops true [.m 26 (.t 0),.m 27 (.t 6),.u 28 (.idx 1 (.t 26) (.t 27)),.u 29 (.ld none 1 false (.t 28)),.u 30 (.conv .u64 (.t 29)),.m 31 (.t 1),.m 32 (.t 8),.u 33 (.idx 1 (.t 31) (.t 32)),.u 34 (.ld none 1 false (.t 33)),.u 35 (.conv .u64 (.t 34)),.u 36 (.bin .mul (.t 30) (.t 35)),.m 37 (.t 5),.m 38 (.t 6),.m 39 (.t 8),.u 40 (.bin .add (.t 38) (.t 39)),.u 41 (.idx 1 (.t 37) (.t 40)),.u 42 (.ld none 1 false (.t 41)),.u 43 (.conv .u64 (.t 42)),.u 44 (.bin .add (.t 36) (.t 43)),.m 45 (.t 7),.u 46 (.bin .add (.t 44) (.t 45)),.m 9 (.t 46)])
 (.fg [0,1,5,6,8,9,17,18,22,23] (.ops false [.m 47 (.t 5),.m 48 (.t 6),.m 49 (.t 8),.u 50 (.bin .add (.t 48) (.t 49)),.m 51 (.t 9),.u 52 (.conv .u32 (.t 51)),.m 53 (.t 9),.u 54 (.bin .shr (.t 53) (.c (.one (.lit (.int .u64 32))))),.u 55 (.idx 1 (.t 47) (.t 50)),.n (.st none 1 (.t 55) (.t 52)),.m 7 (.t 54)]))))))
 (.fg [0,1,5,6,7,17,18,22,23] (.ops false [.u 56 (.bin .add (.t 23) (.i 1)),.m 23 (.t 56)])))))))))))
 (.fg [0,1,5,6,7,17,18] (.ops false [.m 57 (.t 5),.m 58 (.t 6),.m 59 (.t 1),.u 60 (.len (.t 59)),.u 61 (.bin .add (.t 58) (.t 60)),.m 62 (.t 7),.u 63 (.conv .u32 (.t 62)),.u 64 (.idx 1 (.t 57) (.t 61)),.n (.st none 1 (.t 64) (.t 63))]))))))))
 (.fg [0,1,5,17,18] (.ops false [.u 65 (.bin .add (.t 18) (.i 1)),.m 18 (.t 65)])))))))))))
 (.fg [5] (.seq (.ops false [.m 66 (.t 5),.u 67 (.callf f0 [(.t 66)]),.m 4 (.t 67)])
 .ret)))))))
theorem VaG(hΓ:Holds P Γ){f:Nat}(hc:check P f=some (25,kd.strip,[.tmp 2])):Sound P f (.fresh 1 vw):=by
 refine vv hc xa3 hΓ (λargs K hcl hfi hG=>?_);match args,hG with
 | [a],hG=>
  obtain⟨l,ha,hl,hlen,hK⟩:=hG;refine⟨by simp,?_⟩
  rcases ha with rfl | rfl | ⟨rfl,h0⟩
  .simp only [go_sem,kd,ws];refine⟨hlen,?_⟩;refine Ya (λn:Nat=>⟨mkV [(3,.one (.own 6 1 1 0 n))],mkH [(6,⟨1,some ⟨l.map wc,1,true⟩⟩)]⟩) (λn=>n<=l.length/\val (l.take n)=val l) id l.length ?_ ?_ ?_
   .first | exact Qa (by simp [okS,okV,okC,okL,okH,okB,okE,ja,Va,qa,va,wsA,ws]) (Xg rfl) | (subst h0;exact Qa (by simp [okS,okV,okC,okL,okH,okB,okE,ja,Va,qa,va,wsA,ws]) (Xg (l:=[]) rfl))
   .simp
   .rintro n ⟨hn,ht⟩;simp only [go_sem];refine λhm=>⟨λh=>?_,λh=>?_⟩
    .rw [show((n:Int)-1).toNat=n-1 by omega]
     refine λ_=>⟨by omega,by omega,by omega,λh0=>λ_=>⟨by omega,by omega,by omega,n-1,Qa (by simp [okS,okV,okC,okL,okH,okB,okE,ja,Va,qa,va,wsA,ws]) (Xg rfl),⟨by omega,?_⟩,?_⟩,λh0=>?_⟩
     .have:=Ub l (n-1);rw [show n-1+1=n by omega,h0,Nat.mul_zero,Nat.add_zero]at this
      rw [<-this];exact ht
     .simp only [id];omega
     .have:=je (Jz hl n) (YK h hn h0);rw [ht]at this;rw [this]at hK;exact⟨hn,hK⟩
    .have h1:n=0:=by omega
     subst h1;have:val l=0:=by rw [<-ht];simp [val]
     rw [this,Wb]at hK;exact⟨by omega,hK⟩
  .simp only [go_sem,kd,ws];refine⟨hlen,?_⟩;refine Ya (λn:Nat=>⟨mkV [(3,.one (.own 6 1 1 0 n))],mkH [(6,⟨1,some ⟨l.map wc,1,true⟩⟩)]⟩) (λn=>n<=l.length/\val (l.take n)=val l) id l.length ?_ ?_ ?_
   .first | exact Qa (by simp [okS,okV,okC,okL,okH,okB,okE,ja,Va,qa,va,wsA,ws]) (Xg rfl) | (subst h0;exact Qa (by simp [okS,okV,okC,okL,okH,okB,okE,ja,Va,qa,va,wsA,ws]) (Xg (l:=[]) rfl))
   .simp
   .rintro n ⟨hn,ht⟩;simp only [go_sem];refine λhm=>⟨λh=>?_,λh=>?_⟩
    .rw [show((n:Int)-1).toNat=n-1 by omega]
     refine λ_=>⟨by omega,by omega,by omega,λh0=>λ_=>⟨by omega,by omega,by omega,n-1,Qa (by simp [okS,okV,okC,okL,okH,okB,okE,ja,Va,qa,va,wsA,ws]) (Xg rfl),⟨by omega,?_⟩,?_⟩,λh0=>?_⟩
     .have:=Ub l (n-1);rw [show n-1+1=n by omega,h0,Nat.mul_zero,Nat.add_zero]at this
      rw [<-this];exact ht
     .simp only [id];omega
     .have:=je (Jz hl n) (YK h hn h0);rw [ht]at this;rw [this]at hK;exact⟨hn,hK⟩
    .have h1:n=0:=by omega
     subst h1;have:val l=0:=by rw [<-ht];simp [val]
     rw [this,Wb]at hK;exact⟨by omega,hK⟩
  .simp only [go_sem,kd,ws];refine⟨by simp,?_⟩
   refine Ya (λn:Nat=>⟨mkV [(3,.one (.own 6 1 1 0 n))],mkH [(6,⟨1,some ⟨l.map wc,1,true⟩⟩)]⟩) (λn=>n<=l.length/\val (l.take n)=val l) id l.length ?_ ?_ ?_
   .first | exact Qa (by simp [okS,okV,okC,okL,okH,okB,okE,ja,Va,qa,va,wsA,ws]) (Xg rfl) | (subst h0;exact Qa (by simp [okS,okV,okC,okL,okH,okB,okE,ja,Va,qa,va,wsA,ws]) (Xg (l:=[]) rfl))
   .simp
   .rintro n ⟨hn,ht⟩;simp only [go_sem];refine λhm=>⟨λh=>?_,λh=>?_⟩
    .rw [show((n:Int)-1).toNat=n-1 by omega]
     refine λ_=>⟨by omega,by omega,by omega,λh0=>λ_=>⟨by omega,by omega,by omega,n-1,Qa (by simp [okS,okV,okC,okL,okH,okB,okE,ja,Va,qa,va,wsA,ws]) (Xg rfl),⟨by omega,?_⟩,?_⟩,λh0=>?_⟩
     .have:=Ub l (n-1);rw [show n-1+1=n by omega,h0,Nat.mul_zero,Nat.add_zero]at this
      rw [<-this];exact ht
     .simp only [id];omega
     .have:=je (Jz hl n) (YK h hn h0);rw [ht]at this;rw [this]at hK;exact⟨hn,hK⟩
    .have h1:n=0:=by omega
     subst h1;have:val l=0:=by rw [<-ht];simp [val]
     rw [this,Wb]at hK;exact⟨by omega,hK⟩
theorem yad(hΓ:Holds P Γ){f fw ft:Nat}(hw:Γ fw=.dat true jm)(ht:Γ ft=.fresh 1 vw)(hc:check P f=some (37,(Ui fw ft).strip,[.tmp 4])):Sound P f (.dat false xr):=by
 refine ka hc U5 hΓ (λargs K hcl hfi hG=>?_);match args,hG with
 | [a,b],hG=>
  obtain⟨x,rfl,hx,y,rfl,hy,hxl,hyl,hK⟩:=hG;refine⟨by simp,?_⟩
  simp only [go_sem,Ui,hw,ht];intro h1 h2;refine⟨by omega,?_⟩
  generalize hN:max x.length y.length+1=N;refine Ya (λp:List Nat×Nat=>match p.1 with
    | []=>⟨mkV [(0,wsA x),(1,wsA y),(5,.one .emp),(6,.one (.lit (.int .u64 p.2))),(14,.one (.lit (.int .i64 N))),(15,.one (.lit (.int .i64 0)))],mkH []⟩
    | a::r=>⟨mkV [(0,wsA x),(1,wsA y),(5,.one (.own 31 1 1 0 (r.length+1))),(6,.one (.lit (.int .u64 p.2))),(14,.one (.lit (.int .i64 N))),(15,.one (.lit (.int .i64 (r.length+1:Nat))))],mkH [(31,⟨1,some ⟨(a::r).map wc,1,true⟩⟩)]⟩)
   (λp=>p.1.length<=N/\WL p.1/\p.2<=1/\val p.1+4294967296 ^ p.1.length*p.2=val (x.take p.1.length)+val (y.take p.1.length)) (λp=>N-p.1.length) ([],0) ?_ ?_ ?_
  .exact Qa (by simp [okS,okV,okC,okL,okH,okB,okE,ja,Va,qa,va,wsA,ws]) trivial
  .simp [Xc,val]
  .rintro⟨o,c⟩ ⟨hoN,ho,hc1,hval⟩;simp only at hoN ho hc1 hval;cases o with
   | nil=>
    simp only [go_sem,hw,ht];refine⟨λhlt=>?_,λhge=>by omega⟩
    have g1:=yb hx 0;have g2:=yb hy 0;rw [Nat.mod_eq_of_lt (show x.getD 0 0+y.getD 0 0<18446744073709551616 by omega),Nat.mod_eq_of_lt (show x.getD 0 0+y.getD 0 0+c<18446744073709551616 by omega)]
    generalize hs:x.getD 0 0+y.getD 0 0+c=s;refine⟨hx,by omega,hy,by omega,by simp,by decide,by decide,([s % 4294967296],s / 4294967296),Qa (by simp [okS,okV,okC,okL,okH,okB,okE,ja,Va,qa,va,wsA,ws]) (Xg (l:=[s % 4294967296]) rfl),⟨by simp;omega,Yc.2 ⟨Nat.mod_lt _ (by omega),Xc⟩,by simp only;omega,?_⟩,by simp;omega⟩
    have t1:=Ub x 0;have t2:=Ub y 0;simp only [List.length_cons,List.length_nil,Nat.zero_add,List.take_zero,Jo,uj,Nat.pow_zero,Nat.pow_one,Nat.mul_zero]at t1 t2 hval ⊢;omega
   | cons a r=>
    simp only [go_sem,hw,ht];refine⟨λhlt=>?_,λhge=>?_⟩
    .have g1:=yb hx (r.length+1);have g2:=yb hy (r.length+1);rw [Nat.mod_eq_of_lt (show x.getD (r.length+1) 0+y.getD (r.length+1) 0<18446744073709551616 by omega),Nat.mod_eq_of_lt (show x.getD (r.length+1) 0+y.getD (r.length+1) 0+c<18446744073709551616 by omega)]
     generalize hs:x.getD (r.length+1) 0+y.getD (r.length+1) 0+c=s;refine⟨hx,hy,by simp,by omega,by decide,by omega,(a::(r++[s % 4294967296]),s / 4294967296),Qa (by simp [okS,okV,okC,okL,okH,okB,okE,ja,Va,qa,va,wsA,ws]) (Zab (l':=a::(r++[s % 4294967296])) (by simp [wc])),⟨by simp;omega,?_,by simp only;omega,?_⟩,by simp;omega⟩
     .exact ue (a:=a::r) |>.2 ⟨ho,Yc.2 ⟨Nat.mod_lt _ (by omega),Xc⟩⟩
     .have t1:=Ub x (r.length+1);have t2:=Ub y (r.length+1);have e:a::(r++[s % 4294967296])=(a::r)++[s % 4294967296]:=rfl;simp only [e,List.length_append,List.length_cons,List.length_nil,Nat.zero_add,vc,t1,t2];simp only [List.length_cons]at hval;rw [show val [s % 4294967296]=s % 4294967296 from by simp [val],Nat.pow_succ 4294967296 (r.length+1)]
      exact Wba hval (by rw [Nat.mod_add_div,hs])
    .have e:r.length+1=N:=by simp only [List.length_cons]at hoN;omega
     have hv:val (a::r)=val x+val y:=by
      rw [List.length_cons,e,zk (by omega),zk (by omega)]at hval
      exact yaA hx hy (by omega) (by omega) (by omega) hval
     refine(X7 _ (a::r)).mpr ⟨ho,by simp only [List.length_cons];omega,?_⟩
     rw [hv];exact hK
theorem XZ(hΓ:Holds P Γ){f fw ft:Nat}(hw:Γ fw=.dat true jm)(ht:Γ ft=.fresh 1 vw)(hc:check P f=some (35,(Zh fw ft).strip,[.tmp 4])):Sound P f (.dat false Yv):=by
 refine ka hc Y6 hΓ (λargs K hcl hfi hG=>?_);match args,hG with
 | [a,b],hG=>
  obtain⟨x,rfl,hx,y,rfl,hy,hxl,hle,hK⟩:=hG;refine⟨by simp,?_⟩
  simp only [go_sem,Zh,hw,ht];intro h1;generalize hN:x.length=N at *
  refine Ya (λp:List Nat×Nat=>match p.1 with
    | []=>⟨mkV [(0,wsA x),(1,wsA y),(5,.one .emp),(6,.one (.lit (.int .u64 p.2))),(10,.one (.lit (.int .i64 N))),(11,.one (.lit (.int .i64 0)))],mkH []⟩
    | a::r=>⟨mkV [(0,wsA x),(1,wsA y),(5,.one (.own 28 1 1 0 (r.length+1))),(6,.one (.lit (.int .u64 p.2))),(10,.one (.lit (.int .i64 N))),(11,.one (.lit (.int .i64 (r.length+1:Nat))))],mkH [(28,⟨1,some ⟨(a::r).map wc,1,true⟩⟩)]⟩)
   (λp=>p.1.length<=N/\WL p.1/\p.2<=1/\val p.1+val (y.take p.1.length)=val (x.take p.1.length)+4294967296 ^ p.1.length*p.2) (λp=>N-p.1.length) ([],0) ?_ ?_ ?_
  .exact Qa (by simp [okS,okV,okC,okL,okH,okB,okE,ja,Va,qa,va,wsA,ws]) trivial
  .simp [Xc,val]
  .rintro⟨o,c⟩ ⟨hoN,ho,hc1,hval⟩;simp only at hoN ho hc1 hval;cases o with
   | nil=>
    have g1:=yb hx 0;have g2:=yb hy 0;obtain⟨s,e1,e2,e3,e4⟩:=VX g1 g2 hc1;simp only [go_sem,hw,ht,e1,e2];refine⟨λhlt=>?_,λhge=>?_⟩
    .refine⟨hx,by omega,hy,by omega,by simp,⟨by omega,by decide⟩,by decide,([s % 4294967296],1-s / 4294967296),Qa (by simp [okS,okV,okC,okL,okH,okB,okE,ja,Va,qa,va,wsA,ws,e2]) (Zab (l':=[s % 4294967296]) (by simp [wc])),⟨by simp;omega,Yc.2 ⟨Nat.mod_lt _ (by omega),Xc⟩,e4,?_⟩,by simp;omega⟩
     have t1:=Ub x 0;have t2:=Ub y 0;simp only [List.length_cons,List.length_nil,Nat.zero_add,List.take_zero,Jo,uj,Nat.pow_zero,Nat.pow_one,Nat.mul_zero]at t1 t2 hval ⊢;omega
    .have hx0:x=[]:=List.eq_nil_of_length_eq_zero (by omega)
     have:val x-val y=val []:=by rw [hx0];simp [val]
     rw [<-this];exact hK
   | cons a r=>
    have g1:=yb hx (r.length+1);have g2:=yb hy (r.length+1);obtain⟨s,e1,e2,e3,e4⟩:=VX g1 g2 hc1;simp only [go_sem,hw,ht,e1,e2];refine⟨λhlt=>?_,λhge=>?_⟩
    .refine⟨hx,hy,by simp,by omega,⟨by omega,by decide⟩,by omega,(a::(r++[s % 4294967296]),1-s / 4294967296),Qa (by simp [okS,okV,okC,okL,okH,okB,okE,ja,Va,qa,va,wsA,ws,e2]) (Zab (l':=a::(r++[s % 4294967296])) (by simp [wc])),⟨by simp;omega,?_,e4,?_⟩,by simp;omega⟩
     .exact ue (a:=a::r) |>.2 ⟨ho,Yc.2 ⟨Nat.mod_lt _ (by omega),Xc⟩⟩
     .have e:a::(r++[s % 4294967296])=(a::r)++[s % 4294967296]:=rfl;simp only [List.length_cons]at hval;simp only [e,List.length_append,List.length_cons,List.length_nil,Nat.zero_add,Ub x (r.length+1),Ub y (r.length+1),vc,uj (s % 4294967296),Jo,Nat.mul_zero,Nat.add_zero,Nat.pow_succ 4294967296 (r.length+1)];exact yJ hval e3
    .have e:(a::r).length=N:=by simp only [List.length_cons]at hoN ⊢;omega
     have hv:=zK ho hx (by omega) hle hval
     refine(X7 _ (a::r)).mpr ⟨ho,by omega,?_⟩
     rw [hv];exact hK
theorem Qaj(hΓ:Holds P Γ){f fw:Nat}(hw:Γ fw=.dat true jm)(hc:check P f=some (30,(Vf fw).strip,[.tmp 4])):Sound P f (.dat true jv):=by
 refine ka hc zaI hΓ (λargs K hcl hfi hG=>?_);match args,hG with
 | [a,b],hG=>
  obtain⟨x,rfl,hx,y,rfl,hy,hK⟩:=hG;refine⟨by simp,?_⟩
  simp only [go_sem,Vf,hw];intro h1 h2;refine⟨⟨by omega,by omega⟩,?_⟩
  refine Ya (λn:Nat=>⟨mkV [(0,wsA x),(1,wsA y),(5,.one (.lit (.int .i64 ((n:Int)-1))))],mkH []⟩) (λn=>n<=max x.length y.length/\val (x.drop n)=val (y.drop n)) id (max x.length y.length) ?_ ?_ ?_
  .exact Qa (by simp [okS,okV,okC,okL,okH,okB,okE,ja,Va,qa,va,wsA,ws]) trivial
  .refine⟨Nat.le_refl _,?_⟩;rw [List.drop_of_length_le (by omega),List.drop_of_length_le (by omega)]
  .rintro n ⟨hn,hd⟩;simp only [go_sem,hw];refine⟨λh=>?_,λh=>?_⟩
   .have e:((n:Int)-1).toNat=n-1:=by omega
    have e1:=UC x (n-1);have e2:=UC y (n-1);have e3:n-1+1=n:=by omega
    rw [e3]at e1 e2;rw [e];refine⟨hx,h,hy,h,λhe=>⟨by omega,n-1,Qa (by simp [okS,okV,okC,okL,okH,okB,okE,ja,Va,qa,va,wsA,ws];omega) trivial,⟨by omega,by rw [e1,e2,hd,he]⟩,by simp only [id];omega⟩,λhe=>⟨hx,h,hy,h,λhlt=>?_,λhge=>?_⟩⟩
    .rw [YZ (ubi hx (by rw [e3];exact hd) hlt)]at hK;exact hK
    .rw [Zam (ubi (m:=n-1) hy (by rw [e3];exact hd.symm) (by omega))]at hK;exact hK
   .have:n=0:=by omega
    subst this;have:val x=val y:=hd;rw [this,jaN]at hK;exact hK
theorem Jaa(hΓ:Holds P Γ){f:Nat}(hc:check P f=some (25,Ji.strip,[.tmp 2])):Sound P f (.dat true ut):=by
 refine ka hc Zal hΓ (λargs K hcl hfi hG=>?_);match args,hG with
 | [a],hG=>
  obtain⟨x,rfl,hx,hxl,hK⟩:=hG;refine⟨by simp,?_⟩
  simp only [go_sem,Ji];intro h1;refine⟨λh=>?_,λh _=>⟨by omega,by omega,λ_=>⟨by omega,by omega,by omega,?_⟩⟩⟩
  .rw [if_pos h]at hK;exact hK
  rw [if_neg h]at hK;have e:((x.length:Int)-1).toNat=x.length-1:=by omega
  rw [e];have hb:=yb hx (x.length-1);generalize x.getD (x.length-1) 0=w at *
  have hb32:bln w<=32:=Ybh (by omega)
  refine Ya (λp:Nat×Nat=>⟨mkV [(3,.one (.lit (.int .i64 (32*((x.length:Int)-1)+p.1)))),(4,.one (.lit (.int .u32 p.2)))],mkH []⟩) (λp=>p.2<4294967296/\p.1+bln p.2=bln w) (λp=>p.2) (0,w) ?_ ?_ ?_
  .exact Qa (by simp [okS,okV,okC,okL,okH,okB,okE,ja,Va,qa,va,wsA,ws]) trivial
  .exact⟨hb,by simp⟩
  .rintro⟨i,m⟩ ⟨hm,hi⟩;simp only at hm hi;simp only [go_sem];refine⟨λh=>?_,λh=>?_⟩
   .have e:=Ual (n:=m) (by omega)
    refine⟨by omega,by decide,(i+1,m / 2),Qa (by simp [okS,okV,okC,okL,okH,okB,okE,ja,Va,qa,va,wsA,ws];omega) trivial,⟨by simp only;omega,by simp only;omega⟩,by simp only;omega⟩
   .have:m=0:=by omega
    subst this;rw [jJ]at hi;have e:(32*((x.length:Int)-1)+(i:Int))=((32*(x.length-1)+bln w:Nat):Int):=by omega
    rw [e];exact hK
theorem U2(hΓ:Holds P Γ){f ft:Nat}(ht:Γ ft=.fresh 1 vw)(hc:check P f=some (68,(kh ft).strip,[.tmp 4])):Sound P f (.dat false zr):=by
 refine ka hc VR hΓ (λargs K hcl hfi hG=>?_);match args,hG with
 | [a,b],hG=>
  obtain⟨x,rfl,hx,y,rfl,hy,hxl,hyl,hK⟩:=hG;refine⟨by simp,?_⟩
  simp only [go_sem,kh,ht];intro h1 h2;refine⟨by omega,by omega,λ_=>?_⟩
  generalize hN:x.length+y.length=N;refine Ya (λp:Nat×List Nat=>⟨mkV [(0,wsA x),(1,wsA y),(5,.one (.own 15 1 1 0 N)),(17,.one (.lit (.int .i64 x.length))),(18,.one (.lit (.int .i64 p.1)))],mkH [(15,⟨1,some ⟨p.2.map wc,1,true⟩⟩)]⟩)
   (λp=>p.1<=x.length/\WL p.2/\p.2.length=N/\val p.2=val (x.take p.1)*val y/\∀j,p.1+y.length<=j->p.2.getD j 0=0) (λp=>x.length-p.1) (0,List.replicate N 0) ?_ ?_ ?_
  .exact Qa (by simp [okS,okV,okC,okL,okH,okB,okE,ja,Va,qa,va,wsA,ws]) (Xg (by simp))
  .simp [Za4,val,UX];intro j _;rw [List.getElem?_replicate];split <;> rfl
  .rintro⟨i,o⟩ ⟨hi,ho,hoN,hval,hz⟩;simp only at hi ho hoN hval hz;simp only [go_sem,ht,hoN];refine⟨λhlt=>?_,λhge=>?_⟩
   .have g1:=yb hx i;intro _;refine Ya (λp:Nat×Nat×List Nat=>⟨mkV [(0,wsA x),(1,wsA y),(5,.one (.own 15 1 1 0 N)),(6,.one (.lit (.int .i64 i))),(7,.one (.lit (.int .u64 p.2.1))),(17,.one (.lit (.int .i64 x.length))),(18,.one (.lit (.int .i64 i))),(22,.one (.lit (.int .i64 y.length))),(23,.one (.lit (.int .i64 p.1)))],mkH [(15,⟨1,some ⟨p.2.2.map wc,1,true⟩⟩)]⟩)
     (λp=>p.1<=y.length/\p.2.1<4294967296/\WL p.2.2/\p.2.2.length=N/\val p.2.2+4294967296 ^ i*4294967296 ^ p.1*p.2.1=val (x.take i)*val y+4294967296 ^ i*x.getD i 0*val (y.take p.1)/\∀j,i+y.length<=j->p.2.2.getD j 0=0) (λp=>y.length-p.1) (0,0,o) ?_ ?_ ?_
    .exact Qa (by simp [okS,okV,okC,okL,okH,okB,okE,ja,Va,qa,va,wsA,ws]) (Xg rfl)
    .exact⟨Nat.zero_le _,by simp,ho,hoN,by simp [val,hval],hz⟩
    .rintro⟨k,c,o⟩ ⟨hk,hc,ho,hoN,hval,hz⟩;simp only at hk hc ho hoN hval hz;simp only [go_sem,ht,hoN];refine⟨λhlt2=>?_,λhge2=>?_⟩
     .have g2:=yb hy k;have g3:=yb ho (i+k);have s1:=xZ g1 g2 hc g3;have e1:x.getD i 0 % 18446744073709551616=x.getD i 0:=by omega
      have e2:y.getD k 0 % 18446744073709551616=y.getD k 0:=by omega
      have e3:o.getD (i+k) 0 % 18446744073709551616=o.getD (i+k) 0:=by omega
      have hstep:=vT hval (by omega) rfl
      rw [e1,e2,e3,Nat.mod_eq_of_lt (show x.getD i 0*y.getD k 0<18446744073709551616 by omega),Nat.mod_eq_of_lt (show x.getD i 0*y.getD k 0+o.getD (i+k) 0<18446744073709551616 by omega),Nat.mod_eq_of_lt (show x.getD i 0*y.getD k 0+o.getD (i+k) 0+c<18446744073709551616 by omega),Nat.add_comm _ c]
      generalize hs:c+(x.getD i 0*y.getD k 0+o.getD (i+k) 0)=s at s1 hstep;refine⟨hlt,hlt2,by omega,by omega,by omega,by omega,by decide,by omega,by omega,by omega,(k+1,s / 4294967296,o.set (i+k) (s % 4294967296)),Qa (by simp [okS,okV,okC,okL,okH,okB,okE,ja,Va,qa,va,wsA,ws]) (Xg rfl),⟨by simp only;omega,by simp only;omega,jah ho _ (Nat.mod_lt _ (by omega)),by simp [hoN],hstep,?_⟩,by simp only;omega⟩
      intro j hj;simp only;rw [Num.getD_set_ne (by omega)];exact hz j hj
     .have e:k=y.length:=by omega
      subst e;have hend:=Z7 hval (by omega) (hz _ (Nat.le_refl _))
      rw [Nat.mod_eq_of_lt hc];refine λ_=>⟨by omega,by omega,by omega,by omega,(i+1,o.set (i+y.length) c),Qa (by simp [okS,okV,okC,okL,okH,okB,okE,ja,Va,qa,va,wsA,ws]) (Xg rfl),⟨by simp only;omega,jah ho _ hc,by simp [hoN],hend,?_⟩,by simp only;omega⟩
      intro j hj;simp only at hj ⊢;rw [Num.getD_set_ne (by omega)];exact hz j (by omega)
   .have e:i=x.length:=by omega
    subst e;rw [zk (Nat.le_refl _)]at hval;refine⟨ho,by omega,?_⟩
    rw [hval];exact hK
end Go.Abs
end
section
namespace Go.Abs
open Go.Num
variable {P:Program} {Γ:Nat->Spec}
def xk:AC:=(.seq (.ops false [.m 2 (.c (.one .emp))])
 (.fg [0] (.seq (.block 0 (.loop (.seq (.seq (.ops false [.m 3 (.t 0),.u 4 (.len (.t 3)),.u 5 (.bin .gtr (.t 4) (.i 0)),.m 6 (.t 5),.w 7 6 true (.mv (.t 0)),.w 8 6 true (.mv (.t 0)),.w 9 6 true (.len (.t 8)),.w 10 6 true (.bin .sub (.t 9) (.i 1)),.w 11 6 true (.idx 1 (.t 7) (.t 10)),.w 12 6 true (.ld none 1 false (.t 11)),.w 13 6 true (.bin .eql (.t 12) (.c (.one (.lit (.int .u32 0))))),.u 14 (.pick (.t 6) (.t 13) .fa)])
 (.fg [0,14] (.cond (.t 14) .skip (.exit 0))))
 (.fg [0] (.block 1 (.ops false [.m 15 (.t 0),.m 16 (.t 0),.u 17 (.len (.t 16)),.u 18 (.bin .sub (.t 17) (.i 1)),.u 19 (.sl 1 (.t 15) none (some (.t 18))),.m 0 (.t 19)]))))))
 (.fg [0] (.seq (.ops false [.m 20 (.t 0),.m 2 (.t 20)])
 .ret)))))
def Vh(f0 f1:Nat):AC:=(.seq (.ops false [.m 2 (.c (.one .emp))])
 (.fg [0] (.seq (.seq (.ops false [.m 4 (.t 0),.u 5 (.len (.t 4)),.m 6 (.i 0)])
 (.fg [0,5,6] (.block 0 (.loop (.seq (.ops false [.u 7 (.bin .lss (.t 6) (.t 5))])
 (.fg [0,5,6,7] (.seq (.cond (.t 7) .skip (.exit 0))
 (.fg [0,5,6] (.seq (.block 1 (.seq (.ops false [.m 8 (.t 6),.m 3 (.t 8)])
 (.fg [0,3,5,6] (.ops false [.m 9 (.t 0),.m 10 (.t 3),.m 11 (.t 0),.m 12 (.t 3),.u 13 (.call f0 [(.t 11),(.t 12)]),.u 14 (.bin .shr (.t 13) (.c (.one (.lit (.int .u64 1))))),.m 15 (.t 0),.m 16 (.t 3),.u 17 (.bin .add (.t 16) (.i 1)),.u 18 (.call f0 [(.t 15),(.t 17)]),.u 19 (.bin .shl (.t 18) (.c (.one (.lit (.int .u64 31))))),.u 20 (.bin .or (.t 14) (.t 19)),.u 21 (.conv .u32 (.t 20)),.u 22 (.idx 1 (.t 9) (.t 10)),.n (.st none 1 (.t 22) (.t 21))]))))
 (.fg [0,5,6] (.ops false [.u 23 (.bin .add (.t 6) (.i 1)),.m 6 (.t 23)])))))))))))
 (.fg [0] (.seq (.ops false [.m 24 (.t 0),.u 25 (.call f1 [(.t 24)]),.m 2 (.t 25)])
 .ret)))))
def xe(f0:Nat):AC:=(.seq (.ops false [.m 4 (.c (.one (.lit (.int .u64 0))))])
 (.fg [0,1,4] (.seq (.ops false [.m 7 (.t 0),.u 8 (.len (.t 7)),.m 9 (.i 0)])
 (.fg [0,1,4,8,9] (.block 0 (.loop (.seq (.ops false [.u 10 (.bin .lss (.t 9) (.t 8))])
 (.fg [0,1,4,8,9,10] (.seq (.cond (.t 10) .skip (.exit 0))
 (.fg [0,1,4,8,9] (.seq (.block 1 (.seq (.ops false [.m 11 (.t 9),.m 5 (.t 11)])
 (.fg [0,1,4,5,8,9] (.seq (.ops false [.m 12 (.t 0),.m 13 (.t 5),.u 14 (.call f0 [(.t 12),(.t 13)]),.u 15 (.bin .add (.c (.one (.lit (.int .u64 4294967296)))) (.t 14)),.m 16 (.t 1),.m 17 (.t 5),.u 18 (.call f0 [(.t 16),(.t 17)]),.u 19 (.bin .sub (.t 15) (.t 18)),.m 20 (.t 4),.u 21 (.bin .sub (.t 19) (.t 20)),.m 6 (.t 21)])
 (.fg [0,1,5,6,8,9] (.ops false [.m 22 (.t 0),.m 23 (.t 5),.m 24 (.t 6),.u 25 (.conv .u32 (.t 24)),.m 26 (.t 6),.u 27 (.bin .shr (.t 26) (.c (.one (.lit (.int .u64 32))))),.u 28 (.bin .sub (.c (.one (.lit (.int .u64 1)))) (.t 27)),.u 29 (.idx 1 (.t 22) (.t 23)),.n (.st none 1 (.t 29) (.t 25)),.m 4 (.t 28)]))))))
 (.fg [0,1,4,8,9] (.ops false [.u 30 (.bin .add (.t 9) (.i 1)),.m 9 (.t 30)])))))))))))))
theorem ka3(hΓ:Holds P Γ){f:Nat}(hc:check P f=some (21,xk.strip,[.tmp 2])):Sound P f (.own W4):=by
 refine Ug hc hΓ (λd args h K hG=>?_);unfold W4 at hG;split at hG
 case h_2=>exact hG.elim
 rename_i r ver len;obtain⟨l,post,rfl,hr,hl,hll,hK⟩:=hG;refine⟨[r],[⟨(l++post).map wc,1,true⟩],[.one (.own 1048576 ver 1 0 l.length)],by simp,rfl,?_,?_,?_,λhfi=>⟨by simp,?_⟩⟩
 .intro i r' b h1 h2;cases i with
  | zero=>simp only [List.getElem?_cons_zero,Option.some.injEq]at h1 h2;subst h1 h2;exact⟨by rw [hr],rfl,of_eq_true (Je _)⟩
  | succ i=>simp at h1
 .simp [exA,exC,exB,nameOf,pinA,wsA,ws]
 .intro a ha;simp only [List.mem_cons,List.not_mem_nil,or_false]at ha;subst ha;simp [pasA,pasC,pasB,nameOf,pinA]
 simp only [go_sem,xk,hr];refine Ya (λn:Nat=>⟨mkV [(0,.one (.own 1048576 ver 1 0 n))],mkH [(1048576,⟨ver,some ⟨(l++post).map wc,1,true⟩⟩)]⟩)
  (λn=>n<=l.length/\val (l.take n)=val l) id l.length ?_ ?_ ?_
 .exact Qa (by simp [okS,okV,okC,okL,okH,okB,okE,ja,Va,qa,va,wsA,ws]) (Xg (by simp))
 .simp
 .rintro n ⟨hn,ht⟩;simp only [go_sem,hr];rw [show((n:Int)-1).toNat=n-1 by omega]
  refine λ_=>⟨λh=>λ_=>⟨by omega,by omega,by simp;omega,?_,?_⟩,λh=>?_⟩
  .rw [xaV (by omega)]
   refine λh0 _=>⟨by omega,by omega,by omega,n-1,Qa (by simp [okS,okV,okC,okL,okH,okB,okE,ja,Va,qa,va,wsA,ws]) (Xg rfl),⟨by omega,?_⟩,by simp only [id];omega⟩
   have:=Ub l (n-1);rw [show n-1+1=n by omega,h0,Nat.mul_zero,Nat.add_zero]at this
   rw [<-this];exact ht
  .rw [xaV (by omega)]
   intro h0;have:=je (Jz hl n) (YK h hn h0);rw [ht]at this;have h2:=hK (l.drop n++post);rw [this,List.length_take,Nat.min_eq_left hn,<-List.append_assoc,List.take_append_drop]at h2;exact h2
  .have h1:n=0:=by omega
   subst h1;have:val l=0:=by rw [<-ht];simp [val]
   have h2:=hK (l++post);rw [this,Wb]at h2;exact h2
theorem Qai(hΓ:Holds P Γ){f fw fc:Nat}(hw:Γ fw=.dat true jm)(hc' : Γ fc=.own W4)(hc:check P f=some (26,(Vh fw fc).strip,[.tmp 2])):Sound P f (.own Xq):=by
 refine Ug hc hΓ (λd args h K hG=>?_);unfold Xq at hG;split at hG
 case h_2=>exact hG.elim
 rename_i r ver len;obtain⟨l,post,rfl,hr,hl,hll,hK⟩:=hG;refine⟨[r],[⟨(l++post).map wc,1,true⟩],[.one (.own 1048576 ver 1 0 l.length)],by simp,rfl,?_,?_,?_,λhfi=>⟨by simp,?_⟩⟩
 .intro i r' b h1 h2;cases i with
  | zero=>simp only [List.getElem?_cons_zero,Option.some.injEq]at h1 h2;subst h1 h2;exact⟨by rw [hr],rfl,of_eq_true (Je _)⟩
  | succ i=>simp at h1
 .simp [exA,exC,exB,nameOf,pinA,wsA,ws]
 .intro a ha;simp only [List.mem_cons,List.not_mem_nil,or_false]at ha;subst ha;simp [pasA,pasC,pasB,nameOf,pinA]
 simp only [go_sem,Vh,hr];intro h1;refine Ya (λo:List Nat=>⟨mkV [(0,.one (.own 1048576 ver 1 0 l.length)),(5,.one (.lit (.int .i64 l.length))),(6,.one (.lit (.int .i64 o.length)))],mkH [(1048576,⟨ver,some ⟨(o++(l.drop o.length++post)).map wc,1,true⟩⟩)]⟩)
  (λo=>o.length<=l.length/\WL o/\val o=val l / 2 % 4294967296 ^ o.length) (λo=>l.length-o.length) [] ?_ ?_ ?_
 .exact Qa (by simp [okS,okV,okC,okL,okH,okB,okE,ja,Va,qa,va,wsA,ws]) (Xg (by simp))
 .simp [Xc,val];omega
 .rintro o ⟨hoN,ho,hval⟩;have hw2:=Jbs ho hl;simp only [go_sem,hr,hw,hc',waR hoN,Vai hoN,Nat.le_add_right,yar,zZ];refine⟨λhlt=>⟨hw2,by decide,by omega,hw2,by decide,⟨rfl,by have:=yb hl o.length;omega,by omega⟩,hlt,by omega,by omega,?_⟩,λhge=>?_⟩
  .have hd:=Vbe (yb hl o.length) (yb hl (o.length+1));rw [Yag hl (by omega),Nat.pow_one]at hd
   rw [hd,Xau _ hlt];generalize hv:val l / 2 / 4294967296 ^ o.length % 4294967296=v;have hvB:v<4294967296:=by rw [<-hv];exact Nat.mod_lt _ (by omega)
   refine⟨o++[v],Qa (by simp [okS,okV,okC,okL,okH,okB,okE,ja,Va,qa,va,wsA,ws]) (Xg rfl),⟨by simp;omega,ue.2 ⟨ho,Yc.2 ⟨hvB,Xc⟩⟩,?_⟩,by simp;omega⟩
   rw [vc,List.length_append,List.length_singleton,zJ,hv,<-hval];simp [val]
  .have e:o.length=l.length:=by omega
   have hlt:val l / 2<4294967296 ^ l.length:=Nat.lt_of_le_of_lt (Nat.div_le_self _ _) (Wm hl);rw [e,Nat.mod_eq_of_lt hlt]at hval;rw [List.drop_of_length_le (by omega),List.nil_append,<-e]
   refine⟨o,post,rfl,by simp [qa],ho,by omega,λpost'=>?_⟩
   simp only [go_sem];rw [hval];exact hK post'
theorem jaF(hΓ:Holds P Γ){f fw:Nat}(hw:Γ fw=.dat true jm)(hc:check P f=some (31,(xe fw).strip,[])):Sound P f (.own Vy):=by
 refine Ug hc hΓ (λd args h K hG=>?_);unfold Vy at hG;split at hG
 case h_3=>exact hG.elim
 case h_2=>
  rename_i r ver len b _;obtain⟨y,rfl,hy,l,post,rfl,hr,hl,hll,hle,hK⟩:=hG;refine⟨[r],[⟨(l++post).map wc,1,true⟩],[.one (.own 1048576 ver 1 0 l.length),wsA y],by simp,rfl,?_,?_,?_,λhfi=>⟨by simp,?_⟩⟩
  .intro i r' b h1 h2;cases i with
   | zero=>simp only [List.getElem?_cons_zero,Option.some.injEq]at h1 h2;subst h1 h2;exact⟨by rw [hr],rfl,of_eq_true (Je _)⟩
   | succ i=>simp at h1
  .simp [exA,exC,exB,nameOf,pinA,wsA,ws]
  .intro a ha;simp only [List.mem_cons,List.not_mem_nil,or_false]at ha;rcases ha with rfl | rfl
   .simp [pasA,pasC,pasB,nameOf,pinA]
   .exact .slice _ (of_eq_true (Je _))
  simp only [go_sem,xe,hr];intro h1;refine Ya (λp:List Nat×Nat=>⟨mkV [(0,.one (.own 1048576 ver 1 0 l.length)),(1,wsA y),(4,.one (.lit (.int .u64 p.2))),(8,.one (.lit (.int .i64 l.length))),(9,.one (.lit (.int .i64 p.1.length)))],
    mkH [(1048576,⟨ver,some ⟨(p.1++(l.drop p.1.length++post)).map wc,1,true⟩⟩)]⟩)
   (λp=>p.1.length<=l.length/\WL p.1/\p.2<=1/\val p.1+val (y.take p.1.length)=val (l.take p.1.length)+4294967296 ^ p.1.length*p.2) (λp=>l.length-p.1.length) ([],0) ?_ ?_ ?_
  .exact Qa (by simp [okS,okV,okC,okL,okH,okB,okE,ja,Va,qa,va,wsA,ws]) (Xg (by simp))
  .simp [Xc,val]
  .rintro⟨o,c⟩ ⟨hoN,ho,hc1,hval⟩;simp only at hoN ho hc1 hval;have hw2:=Jbs ho hl;simp only [go_sem,hr,hw,waR hoN,Vai hoN,Nat.le_add_right,yar,zZ];refine⟨λhlt=>?_,λhge=>?_⟩
   .obtain⟨s,e1,e2,e3,e4⟩:=VX (yb hl o.length) (yb hy o.length) hc1;simp only [e1,e2,jaT,Xau _ hlt];refine⟨hw2,hy,⟨by omega,by decide,by decide⟩,hlt,by omega,by omega,(o++[s % 4294967296],1-s / 4294967296),Qa (by simp [okS,okV,okC,okL,okH,okB,okE,ja,Va,qa,va,wsA,ws,e2]) (by first | exact Zab rfl | exact⟨zaQ rfl,Vb rfl,trivial⟩),⟨by simp;omega,ue.2 ⟨ho,Yc.2 ⟨Nat.mod_lt _ (by omega),Xc⟩⟩,e4,?_⟩,by simp;omega⟩
    simp only [List.length_append,List.length_cons,List.length_nil,Nat.zero_add,Ub,vc,uj,Jo,Nat.mul_zero,Nat.add_zero,Nat.pow_succ];exact yJ hval e3
   .have e:o.length=l.length:=by omega
    have hv:=zK ho hl e hle hval;have hd:=qE ho;rw [hv,e]at hd;rw [hd]at hK;rw [List.drop_of_length_le (by omega),List.nil_append]
    exact hK
 case h_1=>
  rename_i r ver len r2 ver2 len2;obtain⟨l,post,y,posty,hne,rfl,hr,hl,hll,rfl,hr2,hy,hle,hK⟩:=hG;refine⟨[r,r2],[⟨(l++post).map wc,1,true⟩,⟨(y++posty).map wc,1,true⟩],[.one (.own 1048576 ver 1 0 l.length),.one (.own 1048577 ver2 1 0 y.length)],by simp [hne],rfl,?_,?_,?_,λhfi=>⟨by simp,?_⟩⟩
  .intro i r' b h1 h2;cases i with
   | zero=>simp only [List.getElem?_cons_zero,Option.some.injEq]at h1 h2;subst h1 h2;exact⟨by rw [hr],rfl,of_eq_true (Je _)⟩
   | succ i=>
    cases i with
    | zero=>simp only [List.getElem?_cons_zero,List.getElem?_cons_succ,Option.some.injEq]at h1 h2;subst h1 h2;exact⟨by rw [hr2],rfl,of_eq_true (Je _)⟩
    | succ i=>simp at h1
  .simp [exA,exC,exB,nameOf,pinA,wsA,ws]
  .intro a ha;simp only [List.mem_cons,List.not_mem_nil,or_false]at ha;rcases ha with rfl | rfl
   .simp [pasA,pasC,pasB,nameOf,pinA]
   .simp [pasA,pasC,pasB,nameOf,pinA]
  simp only [go_sem,xe,hr,hr2];intro h1;refine Ya (λp:List Nat×Nat=>⟨mkV [(0,.one (.own 1048576 ver 1 0 l.length)),(1,.one (.own 1048577 ver2 1 0 y.length)),(4,.one (.lit (.int .u64 p.2))),(8,.one (.lit (.int .i64 l.length))),(9,.one (.lit (.int .i64 p.1.length)))],
    mkH [(1048576,⟨ver,some ⟨(p.1++(l.drop p.1.length++post)).map wc,1,true⟩⟩),(1048577,⟨ver2,some ⟨(y++posty).map wc,1,true⟩⟩)]⟩)
   (λp=>p.1.length<=l.length/\WL p.1/\p.2<=1/\val p.1+val (y.take p.1.length)=val (l.take p.1.length)+4294967296 ^ p.1.length*p.2) (λp=>l.length-p.1.length) ([],0) ?_ ?_ ?_
  .exact Qa (by simp [okS,okV,okC,okL,okH,okB,okE,ja,Va,qa,va,wsA,ws]) ⟨Vb (by simp),Vb rfl,trivial⟩
  .simp [Xc,val]
  .rintro⟨o,c⟩ ⟨hoN,ho,hc1,hval⟩;simp only at hoN ho hc1 hval;have hw2:=Jbs ho hl;simp only [go_sem,hr,hr2,hw,waR hoN,Vai hoN,Nat.le_add_right,yar,zZ,List.length_append,List.take_left];refine⟨λhlt=>?_,λhge=>?_⟩
   .obtain⟨s,e1,e2,e3,e4⟩:=VX (yb hl o.length) (yb hy o.length) hc1;simp only [e1,e2,jaT,Xau _ hlt];refine⟨hw2,hy,⟨by omega,by decide,by decide⟩,hlt,by omega,by omega,(o++[s % 4294967296],1-s / 4294967296),Qa (by simp [okS,okV,okC,okL,okH,okB,okE,ja,Va,qa,va,wsA,ws,e2]) (by first | exact Zab rfl | exact⟨zaQ rfl,Vb rfl,trivial⟩),⟨by simp;omega,ue.2 ⟨ho,Yc.2 ⟨Nat.mod_lt _ (by omega),Xc⟩⟩,e4,?_⟩,by simp;omega⟩
    simp only [List.length_append,List.length_cons,List.length_nil,Nat.zero_add,Ub,vc,uj,Jo,Nat.mul_zero,Nat.add_zero,Nat.pow_succ];exact yJ hval e3
   .have e:o.length=l.length:=by omega
    have hv:=zK ho hl e hle hval;have hd:=qE ho;rw [hv,e]at hd;rw [hd]at hK;rw [List.drop_of_length_le (by omega),List.nil_append]
    exact hK
end Go.Abs
end
section
namespace Go.Abs
open Go.Num
variable {P:Program} {Γ:Nat->Spec}
def Wk(f0 f1 f2 f3 f4 f5:Nat):AC:=(.seq (.ops false [.m 4 (.c (.one .emp))])
 (.fg [0,1] (.seq (.ops false [.m 6 (.t 0),.u 7 (.callf f0 [(.t 6)]),.m 8 (.t 1),.u 9 (.callf f0 [(.t 8)]),.m 0 (.t 7),.m 1 (.t 9)])
 (.fg [0,1] (.seq (.seq (.ops false [.m 10 (.t 0),.u 11 (.len (.t 10)),.u 12 (.bin .eql (.t 11) (.i 0))])
 (.fg [0,1,12] (.cond (.t 12) (.seq (.ops false [.m 13 (.t 1),.m 4 (.t 13)])
 .ret) .skip)))
 (.fg [0,1] (.seq (.seq (.ops false [.m 14 (.t 1),.u 15 (.len (.t 14)),.u 16 (.bin .eql (.t 15) (.i 0))])
 (.fg [0,1,16] (.cond (.t 16) (.seq (.ops false [.m 17 (.t 0),.m 4 (.t 17)])
 .ret) .skip)))
 (.fg [0,1] (.seq (.ops false [.m 5 (.i 0)])
 (.fg [0,1,5] (.seq (.block 0 (.loop (.seq (.seq (.ops false [.m 18 (.t 0),.u 19 (.idx 1 (.t 18) (.i 0)),.u 20 (.ld none 1 false (.t 19)),.u 21 (.bin .and (.t 20) (.c (.one (.lit (.int .u32 1))))),.u 22 (.bin .eql (.t 21) (.c (.one (.lit (.int .u32 0))))),.m 23 (.t 22),.w 24 23 true (.mv (.t 1)),.w 25 23 true (.idx 1 (.t 24) (.i 0)),.w 26 23 true (.ld none 1 false (.t 25)),.w 27 23 true (.bin .and (.t 26) (.c (.one (.lit (.int .u32 1))))),.w 28 23 true (.bin .eql (.t 27) (.c (.one (.lit (.int .u32 0))))),.u 29 (.pick (.t 23) (.t 28) .fa)])
 (.fg [0,1,5,29] (.cond (.t 29) .skip (.exit 0))))
 (.fg [0,1,5] (.block 1 (.seq (.ops false [.m 30 (.t 0),.u 31 (.call f1 [(.t 30)]),.m 32 (.t 1),.u 33 (.call f1 [(.t 32)]),.m 0 (.t 31),.m 1 (.t 33)])
 (.fg [0,1,5] (.ops false [.m 34 (.t 5),.u 35 (.bin .add (.t 34) (.i 1)),.m 5 (.t 35)]))))))))
 (.fg [0,1,5] (.seq (.block 2 (.loop (.seq (.seq (.ops false [.m 36 (.t 0),.u 37 (.len (.t 36)),.u 38 (.bin .gtr (.t 37) (.i 0))])
 (.fg [0,1,5,38] (.cond (.t 38) .skip (.exit 2))))
 (.fg [0,1,5] (.block 3 (.seq (.block 4 (.loop (.seq (.seq (.ops false [.m 39 (.t 0),.u 40 (.idx 1 (.t 39) (.i 0)),.u 41 (.ld none 1 false (.t 40)),.u 42 (.bin .and (.t 41) (.c (.one (.lit (.int .u32 1))))),.u 43 (.bin .eql (.t 42) (.c (.one (.lit (.int .u32 0)))))])
 (.fg [0,1,5,43] (.cond (.t 43) .skip (.exit 4))))
 (.fg [0,1,5] (.block 5 (.ops false [.m 44 (.t 0),.u 45 (.call f1 [(.t 44)]),.m 0 (.t 45)]))))))
 (.fg [0,1,5] (.seq (.block 6 (.loop (.seq (.seq (.ops false [.m 46 (.t 1),.u 47 (.idx 1 (.t 46) (.i 0)),.u 48 (.ld none 1 false (.t 47)),.u 49 (.bin .and (.t 48) (.c (.one (.lit (.int .u32 1))))),.u 50 (.bin .eql (.t 49) (.c (.one (.lit (.int .u32 0)))))])
 (.fg [0,1,5,50] (.cond (.t 50) .skip (.exit 6))))
 (.fg [0,1,5] (.block 7 (.ops false [.m 51 (.t 1),.u 52 (.call f1 [(.t 51)]),.m 1 (.t 52)]))))))
 (.fg [0,1,5] (.seq (.seq (.ops false [.m 53 (.t 0),.m 54 (.t 1),.u 55 (.call f2 [(.t 53),(.t 54)]),.u 56 (.bin .lss (.t 55) (.i 0))])
 (.fg [0,1,5,56] (.cond (.t 56) (.ops false [.m 57 (.t 1),.m 58 (.t 0),.m 0 (.t 57),.m 1 (.t 58)]) .skip)))
 (.fg [0,1,5] (.seq (.ops false [.m 59 (.t 0),.m 60 (.t 1),.u 61 (.call f3 [(.t 59),(.t 60)])])
 (.fg [0,1,5] (.ops false [.m 62 (.t 0),.u 63 (.call f4 [(.t 62)]),.m 0 (.t 63)]))))))))))))))
 (.fg [1,5] (.seq (.seq (.ops false [.m 64 (.t 5),.m 65 (.i 0)])
 (.fg [1,64,65] (.fz [1] (.block 8 (.loop (.seq (.ops false [.u 66 (.bin .lss (.t 65) (.t 64))])
 (.fg [1,64,65,66] (.seq (.cond (.t 66) .skip (.exit 8))
 (.fg [1,64,65] (.seq (.block 9 (.ops false [.m 67 (.t 1),.m 68 (.t 1),.u 69 (.call f5 [(.t 67),(.t 68)]),.m 1 (.t 69)]))
 (.fg [1,64,65] (.ops false [.u 70 (.bin .add (.t 65) (.i 1)),.m 65 (.t 70)]))))))))))))
 (.fg [1] (.seq (.ops false [.m 71 (.t 1),.m 4 (.t 71)])
 .ret)))))))))))))))))
theorem wal(hΓ:Holds P Γ){f ft fh fc fk fu fp:Nat}(ht:Γ ft=.fresh 1 vw)(hh:Γ fh=.own Xq)(hcm:Γ fc=.dat true jv)(hk:Γ fk=.own Vy)(hu:Γ fu=.own W4)(hp:Γ fp=.dat false xr)
    (hc:check P f=some (72,(Wk ft fh fc fk fu fp).strip,[.tmp 4])):Sound P f (.dat false Uz):=by
  refine ka hc JaK hΓ (λargs K hcl hfi hG=>?_);match args,hG with
  | [a,b],hG=>
    obtain⟨x,rfl,hx,y,rfl,hy,hxl,hyl,hK⟩:=hG;refine⟨by simp,?_⟩
    simp only [go_sem,Wk,ht,hh,hcm,hk,hu,hp];have hxv:=jB (Wm hx);have hyv:=jB (Wm hy);refine⟨hx,by omega,hy,by omega,λ_=>⟨λh0=>?_,λh0 _=>⟨λh1=>?_,λh1=>?_⟩⟩⟩
    . rw [Uy.1 h0,Nat.gcd_zero_left]at hK;exact hK
    . rw [Uy.1 h1,Nat.gcd_zero_right]at hK;exact hK
    rw [Uy]at h0 h1;refine Ya (λp:(Nat×List Nat)×(Nat×List Nat)×Nat=>⟨mkV [(0,.one (.own 7 1 1 0 (digs p.1.1).length)),(1,.one (.own 9 1 1 0 (digs p.2.1.1).length)),(5,.one (.lit (.int .i64 p.2.2)))],mkH [(7,⟨1,some ⟨(digs p.1.1++p.1.2).map wc,1,true⟩⟩),(9,⟨1,some ⟨(digs p.2.1.1++p.2.1.2).map wc,1,true⟩⟩)]⟩)
      (λp=>p.1.1≠0/\p.2.1.1≠0/\p.1.1<=val x/\p.2.1.1<=val y/\p.1.1*2 ^ p.2.2<=val x/\Nat.gcd p.1.1 p.2.1.1*2 ^ p.2.2=Nat.gcd (val x) (val y)) (λp=>p.1.1) ((val x,[]),(val y,[]),0) ?_ ?_ ?_
    . exact Qa (by simp [okS,okV,okC,okL,okH,okB,okE,ja,Va,qa,va,wsA,ws]) ⟨Vb (by simp),Vb (by simp),trivial⟩
    . exact⟨h0,h1,Nat.le_refl _,Nat.le_refl _,by simp,by simp⟩
    . rintro⟨⟨a,pa⟩,⟨b,pb⟩,k⟩ ⟨ha,hb,hax,hby,hak,hg⟩
      simp only at ha hb hax hby hak hg;have hkb:k<32*x.length:=Jbq (n:=val x) (Nat.le_trans (Nat.le_mul_of_pos_left _ (by omega)) hak) (Wm hx)
      have hal:=Nat.le_trans (ua hax) hxv;have hbl:=Nat.le_trans (ua hby) hyv;have hap:=Jm ha;have hbp:=Jm hb;simp only [go_sem,hh,hcm,hk,hu,hp,wn,qy ha,qy hb,hap,hbp,List.length_append];refine share4 (by omega) (by omega) (Nat.mod_lt _ (by omega)) (by omega) (by omega) (Nat.mod_lt _ (by omega)) (λhae hbe=>?_) (λhodd=>?_)
      . simp only [Xq]
        refine⟨digs a,pa,rfl,by simp [qa],Ua _,by omega,λpa'=>?_⟩
        refine⟨digs b,pb,rfl,by simp [upd,qa],Ua _,by omega,λpb'=>?_⟩
        simp only [go_sem,jb];refine⟨by omega,((a / 2,pa'),(b / 2,pb'),k+1),Qa (by simp [okS,okV,okC,okL,okH,okB,okE,ja,Va,qa,va,wsA,ws]) ⟨Vb rfl,Vb rfl,trivial⟩,⟨by simp only;omega,by simp only;omega,by simp only;omega,by simp only;omega,?_,ZbL (by omega) (by omega) hg⟩,by simp only;omega⟩
        simp only;refine Nat.le_trans ?_ hak;rw [Nat.pow_succ,Nat.mul_comm (2 ^ k) 2,<-Nat.mul_assoc];exact Nat.mul_le_mul_right _ (by omega)
      . refine Ya (λp : Bool × (Nat × List Nat) × (Nat × List Nat) => match p.1 with
            | false=>⟨mkV [(0,.one (.own 7 1 1 0 (digs p.2.1.1).length)),(1,.one (.own 9 1 1 0 (digs p.2.2.1).length)),(5,.one (.lit (.int .i64 k)))],mkH [(7,⟨1,some ⟨(digs p.2.1.1++p.2.1.2).map wc,1,true⟩⟩),(9,⟨1,some ⟨(digs p.2.2.1++p.2.2.2).map wc,1,true⟩⟩)]⟩
            | true=>⟨mkV [(0,.one (.own 9 1 1 0 (digs p.2.1.1).length)),(1,.one (.own 7 1 1 0 (digs p.2.2.1).length)),(5,.one (.lit (.int .i64 k)))],mkH [(9,⟨1,some ⟨(digs p.2.1.1++p.2.1.2).map wc,1,true⟩⟩),(7,⟨1,some ⟨(digs p.2.2.1++p.2.2.2).map wc,1,true⟩⟩)]⟩)
          (λp=>p.2.2.1≠0/\(p.2.1.1 % 2≠0∨p.2.2.1 % 2≠0)/\(digs p.2.1.1).length<=17179869184/\(digs p.2.2.1).length<=17179869184/\Nat.gcd p.2.1.1 p.2.2.1*2 ^ k=Nat.gcd (val x) (val y)) (λp=>p.2.1.1+p.2.2.1) (false,(a,pa),(b,pb)) ?_ ?_ ?_
        . exact Qa (by simp [okS,okV,okC,okL,okH,okB,okE,ja,Va,qa,va,wsA,ws]) ⟨Vb rfl,Vb rfl,trivial⟩
        . exact⟨hb,by simp only;omega,by simp only;omega,by simp only;omega,hg⟩
        clear hax hby hak hal hbl hap hbp hg ha hb hodd;rintro⟨sw,⟨a,pa⟩,⟨b,pb⟩⟩ ⟨hb,hodd,hal,hbl,hg⟩;simp only at hb hodd hal hbl hg;cases sw with
        | false=>
          simp only [go_sem,hh,hcm,hk,hu,hp,wn,jb,List.length_append,Nat.le_add_right,List.take_left];refine λ_=>⟨λhap=>?_,λhap=>?_⟩
          . have ha:a≠0:=λe=>by rw [e,Wb]at hap;simp at hap
            refine Ya (λp:Nat×List Nat=>⟨mkV [(0,.one (.own 7 1 1 0 (digs p.1).length)),(1,.one (.own 9 1 1 0 (digs b).length)),(5,.one (.lit (.int .i64 k)))],mkH [(7,⟨1,some ⟨(digs p.1++p.2).map wc,1,true⟩⟩),(9,⟨1,some ⟨(digs b++pb).map wc,1,true⟩⟩)]⟩)
              (λp=>p.1≠0/\p.1<=a/\(p.1 % 2≠0∨b % 2≠0)/\Nat.gcd p.1 b*2 ^ k=Nat.gcd (val x) (val y)) (λp=>p.1) (a,pa) ?_ ?_ ?_
            . exact Qa (by simp [okS,okV,okC,okL,okH,okB,okE,ja,Va,qa,va,wsA,ws]) ⟨Vb rfl,Vb rfl,trivial⟩
            . exact⟨ha,Nat.le_refl _,hodd,hg⟩
            . rintro⟨a',pa⟩ ⟨ha',haa,hodd,hg⟩
              simp only at ha' haa hodd hg;have hap:=Jm ha';simp only [go_sem,hh,hcm,hk,hu,hp,wn,jb,List.length_append,Nat.le_add_right,List.take_left,qy ha',hap];refine⟨by omega,by omega,Nat.mod_lt _ (by omega),λhe=>?_,λhao=>?_⟩
              . simp only [Xq]
                refine⟨digs a',pa,rfl,by simp [qa],Ua _,by have:=ua haa;omega,λpa'=>?_⟩
                simp only [go_sem,hh,hcm,hk,hu,hp,wn,jb,List.length_append,Nat.le_add_right,List.take_left];refine⟨(a' / 2,pa'),Qa (by simp [okS,okV,okC,okL,okH,okB,okE,ja,Va,qa,va,wsA,ws]) ⟨Vb rfl,Vb rfl,trivial⟩,⟨by simp only;omega,by simp only;omega,.inr (by omega),?_⟩,by simp only;omega⟩
                rw [<-hg];simp only;rw [Qa9 (by omega) (by omega)]
              . refine Ya (λp:Nat×List Nat=>⟨mkV [(0,.one (.own 7 1 1 0 (digs a').length)),(1,.one (.own 9 1 1 0 (digs p.1).length)),(5,.one (.lit (.int .i64 k)))],mkH [(7,⟨1,some ⟨(digs a'++pa).map wc,1,true⟩⟩),(9,⟨1,some ⟨(digs p.1++p.2).map wc,1,true⟩⟩)]⟩)
                  (λp=>p.1≠0/\p.1<=b/\Nat.gcd a' p.1*2 ^ k=Nat.gcd (val x) (val y)) (λp=>p.1) (b,pb) ?_ ?_ ?_
                . exact Qa (by simp [okS,okV,okC,okL,okH,okB,okE,ja,Va,qa,va,wsA,ws]) ⟨Vb rfl,Vb rfl,trivial⟩
                . exact⟨hb,Nat.le_refl _,hg⟩
                . rintro⟨b',pb⟩ ⟨hb',hbb,hg⟩
                  simp only at hb' hbb hg;have hbp:=Jm hb';simp only [go_sem,hh,hcm,hk,hu,hp,wn,jb,List.length_append,Nat.le_add_right,List.take_left,qy hb',hbp];refine⟨by omega,by omega,Nat.mod_lt _ (by omega),λhe=>?_,λhbo=>?_⟩
                  . simp only [Xq]
                    refine⟨digs b',pb,rfl,by simp [qa],Ua _,by have:=ua hbb;omega,λpb'=>?_⟩
                    simp only [go_sem,hh,hcm,hk,hu,hp,wn,jb,List.length_append,Nat.le_add_right,List.take_left];refine⟨(b' / 2,pb'),Qa (by simp [okS,okV,okC,okL,okH,okB,okE,ja,Va,qa,va,wsA,ws]) ⟨Vb rfl,Vb rfl,trivial⟩,⟨by simp only;omega,by simp only;omega,?_⟩,by simp only;omega⟩
                    rw [<-hg];simp only;rw [xbm (by omega) (by omega)]
                  . have hlb:=ua hbb
                    have hla:=ua haa;refine⟨Ua _,Ua _,λhlt=>?_,λhge=>?_⟩
                    . have hlt:=xJ.1 hlt
                      simp only [Vy];have e:val (dig (digs b').length (val (digs b')-val (digs a')))=b' - a':=by
                        rw [xl,jb,jb,Nat.mod_eq_of_lt];exact Nat.lt_of_le_of_lt (Nat.sub_le _ _) (Xl b')
                      refine⟨digs b',pb,digs a',pa,by decide,rfl,by simp [qa],Ua _,by omega,rfl,by simp [qa],Ua _,by rw [jb,jb];omega,?_⟩
                      refine⟨dig (digs b').length (val (digs b')-val (digs a')),pb,(qb _ _).symm,by simp [upd,qa],zn _ _,by omega,λpost'=>?_⟩
                      simp only [go_sem,e];have hle:=Nat.le_trans (ua (Nat.sub_le b' a')) (ua hbb);refine⟨(true,(b' - a',post'),(a',pa)),Qa (by simp [okS,okV,okC,okL,okH,okB,okE,ja,Va,qa,va,wsA,ws]) ⟨Vb rfl,Vb rfl,trivial⟩,⟨ha',.inr (by simp only;omega),by simp only;omega,by simp only;omega,?_⟩,by simp only;omega⟩
                      simp only;rw [uY (by omega),Nat.gcd_comm];exact hg
                    . have hge:=mt xJ.2 hge
                      simp only [Vy];have e:val (dig (digs a').length (val (digs a')-val (digs b')))=a' - b':=by
                        rw [xl,jb,jb,Nat.mod_eq_of_lt];exact Nat.lt_of_le_of_lt (Nat.sub_le _ _) (Xl a')
                      refine⟨digs a',pa,digs b',pb,by decide,rfl,by simp [qa],Ua _,by omega,rfl,by simp [qa],Ua _,by rw [jb,jb];omega,?_⟩
                      refine⟨dig (digs a').length (val (digs a')-val (digs b')),pa,(qb _ _).symm,by simp [upd,qa],zn _ _,by omega,λpost'=>?_⟩
                      simp only [go_sem,e];have hle:=Nat.le_trans (ua (Nat.sub_le a' b')) (ua haa);refine⟨(false,(a' - b',post'),(b',pb)),Qa (by simp [okS,okV,okC,okL,okH,okB,okE,ja,Va,qa,va,wsA,ws]) ⟨Vb rfl,Vb rfl,trivial⟩,⟨hb',.inr (by simp only;omega),by simp only;omega,by simp only;omega,?_⟩,by simp only;omega⟩
                      simp only;rw [uY (by omega)];exact hg
          . have ha:a=0:=Uy.1 (by omega)
            rw [ha,Nat.gcd_zero_left]at hg;refine Ya (λj:Nat=>⟨mkV [(1,.one (ws (digs (b*2 ^ j)))),(64,.one (.lit (.int .i64 k))),(65,.one (.lit (.int .i64 j)))],mkH []⟩) (λj=>j<=k) (λj=>k-j) 0 ?_ ?_ ?_
            . exact Qa (by simp [okS,okV,okC,okL,okH,okB,okE,ja,Va,qa,va,wsA,ws]) trivial
            . exact Nat.zero_le _
            . rintro j hj
              simp only [go_sem,hh,hcm,hk,hu,hp,wn,jb,List.length_append,Nat.le_add_right,List.take_left];refine⟨λhlt=>?_,λhge=>?_⟩
              . have hj1:b*2 ^ (j+1)<=val x:=by
                  refine Nat.le_trans (Nat.mul_le_mul_left b (Nat.pow_le_pow_right (by omega) hlt)) ?_
                  rw [hg];exact Nat.le_of_dvd (by omega) (Nat.gcd_dvd_left _ _)
                have e:b*2 ^ j+b*2 ^ j=b*2 ^ (j+1):=by rw [Nat.pow_succ,<-Nat.mul_assoc];omega
                have hl1:=Nat.le_trans (ua (show b*2 ^ j<=val x by omega)) hxv
                rw [e];refine⟨Ua _,Ua _,by omega,by omega,by omega,j+1,Qa (by simp [okS,okV,okC,okL,okH,okB,okE,ja,Va,qa,va,wsA,ws]) trivial,by omega,by omega⟩
              . have e:j=k:=by omega
                rw [e,hg];exact hK
        | true=>
          simp only [go_sem,hh,hcm,hk,hu,hp,wn,jb,List.length_append,Nat.le_add_right,List.take_left];refine λ_=>⟨λhap=>?_,λhap=>?_⟩
          . have ha:a≠0:=λe=>by rw [e,Wb]at hap;simp at hap
            refine Ya (λp:Nat×List Nat=>⟨mkV [(0,.one (.own 9 1 1 0 (digs p.1).length)),(1,.one (.own 7 1 1 0 (digs b).length)),(5,.one (.lit (.int .i64 k)))],mkH [(9,⟨1,some ⟨(digs p.1++p.2).map wc,1,true⟩⟩),(7,⟨1,some ⟨(digs b++pb).map wc,1,true⟩⟩)]⟩)
              (λp=>p.1≠0/\p.1<=a/\(p.1 % 2≠0∨b % 2≠0)/\Nat.gcd p.1 b*2 ^ k=Nat.gcd (val x) (val y)) (λp=>p.1) (a,pa) ?_ ?_ ?_
            . exact Qa (by simp [okS,okV,okC,okL,okH,okB,okE,ja,Va,qa,va,wsA,ws]) ⟨Vb rfl,Vb rfl,trivial⟩
            . exact⟨ha,Nat.le_refl _,hodd,hg⟩
            . rintro⟨a',pa⟩ ⟨ha',haa,hodd,hg⟩
              simp only at ha' haa hodd hg;have hap:=Jm ha';simp only [go_sem,hh,hcm,hk,hu,hp,wn,jb,List.length_append,Nat.le_add_right,List.take_left,qy ha',hap];refine⟨by omega,by omega,Nat.mod_lt _ (by omega),λhe=>?_,λhao=>?_⟩
              . simp only [Xq]
                refine⟨digs a',pa,rfl,by simp [qa],Ua _,by have:=ua haa;omega,λpa'=>?_⟩
                simp only [go_sem,hh,hcm,hk,hu,hp,wn,jb,List.length_append,Nat.le_add_right,List.take_left];refine⟨(a' / 2,pa'),Qa (by simp [okS,okV,okC,okL,okH,okB,okE,ja,Va,qa,va,wsA,ws]) ⟨Vb rfl,Vb rfl,trivial⟩,⟨by simp only;omega,by simp only;omega,.inr (by omega),?_⟩,by simp only;omega⟩
                rw [<-hg];simp only;rw [Qa9 (by omega) (by omega)]
              . refine Ya (λp:Nat×List Nat=>⟨mkV [(0,.one (.own 9 1 1 0 (digs a').length)),(1,.one (.own 7 1 1 0 (digs p.1).length)),(5,.one (.lit (.int .i64 k)))],mkH [(9,⟨1,some ⟨(digs a'++pa).map wc,1,true⟩⟩),(7,⟨1,some ⟨(digs p.1++p.2).map wc,1,true⟩⟩)]⟩)
                  (λp=>p.1≠0/\p.1<=b/\Nat.gcd a' p.1*2 ^ k=Nat.gcd (val x) (val y)) (λp=>p.1) (b,pb) ?_ ?_ ?_
                . exact Qa (by simp [okS,okV,okC,okL,okH,okB,okE,ja,Va,qa,va,wsA,ws]) ⟨Vb rfl,Vb rfl,trivial⟩
                . exact⟨hb,Nat.le_refl _,hg⟩
                . rintro⟨b',pb⟩ ⟨hb',hbb,hg⟩
                  simp only at hb' hbb hg;have hbp:=Jm hb';simp only [go_sem,hh,hcm,hk,hu,hp,wn,jb,List.length_append,Nat.le_add_right,List.take_left,qy hb',hbp];refine⟨by omega,by omega,Nat.mod_lt _ (by omega),λhe=>?_,λhbo=>?_⟩
                  . simp only [Xq]
                    refine⟨digs b',pb,rfl,by simp [qa],Ua _,by have:=ua hbb;omega,λpb'=>?_⟩
                    simp only [go_sem,hh,hcm,hk,hu,hp,wn,jb,List.length_append,Nat.le_add_right,List.take_left];refine⟨(b' / 2,pb'),Qa (by simp [okS,okV,okC,okL,okH,okB,okE,ja,Va,qa,va,wsA,ws]) ⟨Vb rfl,Vb rfl,trivial⟩,⟨by simp only;omega,by simp only;omega,?_⟩,by simp only;omega⟩
                    rw [<-hg];simp only;rw [xbm (by omega) (by omega)]
                  . have hlb:=ua hbb
                    have hla:=ua haa;refine⟨Ua _,Ua _,λhlt=>?_,λhge=>?_⟩
                    . have hlt:=xJ.1 hlt
                      simp only [Vy];have e:val (dig (digs b').length (val (digs b')-val (digs a')))=b' - a':=by
                        rw [xl,jb,jb,Nat.mod_eq_of_lt];exact Nat.lt_of_le_of_lt (Nat.sub_le _ _) (Xl b')
                      refine⟨digs b',pb,digs a',pa,by decide,rfl,by simp [qa],Ua _,by omega,rfl,by simp [qa],Ua _,by rw [jb,jb];omega,?_⟩
                      refine⟨dig (digs b').length (val (digs b')-val (digs a')),pb,(qb _ _).symm,by simp [upd,qa],zn _ _,by omega,λpost'=>?_⟩
                      simp only [go_sem,e];have hle:=Nat.le_trans (ua (Nat.sub_le b' a')) (ua hbb);refine⟨(false,(b' - a',post'),(a',pa)),Qa (by simp [okS,okV,okC,okL,okH,okB,okE,ja,Va,qa,va,wsA,ws]) ⟨Vb rfl,Vb rfl,trivial⟩,⟨ha',.inr (by simp only;omega),by simp only;omega,by simp only;omega,?_⟩,by simp only;omega⟩
                      simp only;rw [uY (by omega),Nat.gcd_comm];exact hg
                    . have hge:=mt xJ.2 hge
                      simp only [Vy];have e:val (dig (digs a').length (val (digs a')-val (digs b')))=a' - b':=by
                        rw [xl,jb,jb,Nat.mod_eq_of_lt];exact Nat.lt_of_le_of_lt (Nat.sub_le _ _) (Xl a')
                      refine⟨digs a',pa,digs b',pb,by decide,rfl,by simp [qa],Ua _,by omega,rfl,by simp [qa],Ua _,by rw [jb,jb];omega,?_⟩
                      refine⟨dig (digs a').length (val (digs a')-val (digs b')),pa,(qb _ _).symm,by simp [upd,qa],zn _ _,by omega,λpost'=>?_⟩
                      simp only [go_sem,e];have hle:=Nat.le_trans (ua (Nat.sub_le a' b')) (ua haa);refine⟨(true,(a' - b',post'),(b',pb)),Qa (by simp [okS,okV,okC,okL,okH,okB,okE,ja,Va,qa,va,wsA,ws]) ⟨Vb rfl,Vb rfl,trivial⟩,⟨hb',.inr (by simp only;omega),by simp only;omega,by simp only;omega,?_⟩,by simp only;omega⟩
                      simp only;rw [uY (by omega)];exact hg
          . have ha:a=0:=Uy.1 (by omega)
            rw [ha,Nat.gcd_zero_left]at hg;refine Ya (λj:Nat=>⟨mkV [(1,.one (ws (digs (b*2 ^ j)))),(64,.one (.lit (.int .i64 k))),(65,.one (.lit (.int .i64 j)))],mkH []⟩) (λj=>j<=k) (λj=>k-j) 0 ?_ ?_ ?_
            . exact Qa (by simp [okS,okV,okC,okL,okH,okB,okE,ja,Va,qa,va,wsA,ws]) trivial
            . exact Nat.zero_le _
            . rintro j hj
              simp only [go_sem,hh,hcm,hk,hu,hp,wn,jb,List.length_append,Nat.le_add_right,List.take_left];refine⟨λhlt=>?_,λhge=>?_⟩
              . have hj1:b*2 ^ (j+1)<=val x:=by
                  refine Nat.le_trans (Nat.mul_le_mul_left b (Nat.pow_le_pow_right (by omega) hlt)) ?_
                  rw [hg];exact Nat.le_of_dvd (by omega) (Nat.gcd_dvd_left _ _)
                have e:b*2 ^ j+b*2 ^ j=b*2 ^ (j+1):=by rw [Nat.pow_succ,<-Nat.mul_assoc];omega
                have hl1:=Nat.le_trans (ua (show b*2 ^ j<=val x by omega)) hxv
                rw [e];refine⟨Ua _,Ua _,by omega,by omega,by omega,j+1,Qa (by simp [okS,okV,okC,okL,okH,okB,okE,ja,Va,qa,va,wsA,ws]) trivial,by omega,by omega⟩
              . have e:j=k:=by omega
                rw [e,hg];exact hK
end Go.Abs
end
section
namespace Go.Abs
open Go.Num
variable {P:Program} {Γ:Nat->Spec}
def jg(f0 f1 f2 f3:Nat):AC:=(.seq (.ops false [.m 4 (.c (.one .emp)),.m 5 (.c (.one .emp))])
 (.fg [0,1] (.seq (.ops false [.m 11 (.t 0),.u 12 (.len (.t 11)),.u 13 (.mk 1 [(.lit (.int .u32 0))] (.t 12) (.t 12)),.m 6 (.t 13)])
 (.fg [0,1,6] (.seq (.ops false [.m 14 (.t 1),.u 15 (.len (.t 14)),.u 16 (.bin .add (.t 15) (.i 1)),.u 17 (.mk 1 [(.lit (.int .u32 0))] (.t 16) (.t 16)),.m 7 (.t 17)])
 (.fg [0,1,6,7] (.seq (.seq (.ops false [.m 18 (.t 0),.u 19 (.call f0 [(.t 18)]),.u 20 (.bin .sub (.t 19) (.i 1)),.m 8 (.t 20)])
 (.fg [0,1,6,7,8] (.block 0 (.loop (.seq (.seq (.ops false [.m 21 (.t 8),.u 22 (.bin .geq (.t 21) (.i 0))])
 (.fg [0,1,6,7,8,22] (.cond (.t 22) .skip (.exit 0))))
 (.fg [0,1,6,7,8] (.seq (.block 1 (.seq (.ops false [.m 25 (.t 0),.m 26 (.t 8),.u 27 (.bin .quo (.t 26) (.i 32)),.u 28 (.idx 1 (.t 25) (.t 27)),.u 29 (.ld none 1 false (.t 28)),.m 30 (.t 8),.u 31 (.bin .rem (.t 30) (.i 32)),.u 32 (.bin .shr (.t 29) (.t 31)),.u 33 (.bin .and (.t 32) (.c (.one (.lit (.int .u32 1))))),.m 9 (.t 33)])
 (.fg [0,1,6,7,8,9] (.seq (.seq (.ops false [.m 34 (.t 7),.u 35 (.len (.t 34)),.m 36 (.i 0)])
 (.fg [0,1,6,7,8,9,35,36] (.block 2 (.loop (.seq (.ops false [.u 37 (.bin .lss (.t 36) (.t 35))])
 (.fg [0,1,6,7,8,9,35,36,37] (.seq (.cond (.t 37) .skip (.exit 2))
 (.fg [0,1,6,7,8,9,35,36] (.seq (.block 3 (.seq (.ops false [.m 38 (.t 36),.m 10 (.t 38)])
 (.fg [0,1,6,7,8,9,10,35,36] (.ops true [.m 39 (.t 7),.m 40 (.t 10),.m 41 (.t 7),.m 42 (.t 10),.u 43 (.idx 1 (.t 41) (.t 42)),.u 44 (.ld none 1 false (.t 43)),.u 45 (.bin .shl (.t 44) (.c (.one (.lit (.int .u64 1))))),.m 46 (.t 9),.u 47 (.bin .or (.t 45) (.t 46)),.m 48 (.t 7),.m 49 (.t 10),.u 50 (.idx 1 (.t 48) (.t 49)),.u 51 (.ld none 1 false (.t 50)),.u 52 (.bin .shr (.t 51) (.c (.one (.lit (.int .u64 31))))),.u 53 (.idx 1 (.t 39) (.t 40)),.n (.st none 1 (.t 53) (.t 47)),.m 9 (.t 52)]))))
 (.fg [0,1,6,7,8,9,35,36] (.ops false [.u 54 (.bin .add (.t 36) (.i 1)),.m 36 (.t 54)])))))))))))
 (.fg [0,1,6,7,8] (.seq (.ops false [.m 55 (.t 7),.m 56 (.t 1),.u 57 (.call f1 [(.t 55),(.t 56)]),.u 58 (.bin .geq (.t 57) (.i 0))])
 (.fg [0,1,6,7,8,58] (.cond (.t 58) (.seq (.ops false [.m 59 (.t 7),.m 60 (.t 1),.u 61 (.call f2 [(.t 59),(.t 60)])])
 (.fg [0,1,6,7,8] (.ops true [.m 62 (.t 6),.m 63 (.t 8),.u 64 (.bin .quo (.t 63) (.i 32)),.u 65 (.idx 1 (.t 62) (.t 64)),.u 66 (.ld none 1 false (.t 65)),.m 67 (.t 8),.u 68 (.bin .rem (.t 67) (.i 32)),.u 69 (.bin .shl (.c (.one (.lit (.int .u32 1)))) (.t 68)),.u 70 (.bin .or (.t 66) (.t 69)),.u 71 (.idx 1 (.t 62) (.t 64)),.n (.st none 1 (.t 71) (.t 70))]))) .skip))))))))
 (.fg [0,1,6,7,8] (.ops false [.m 23 (.t 8),.u 24 (.bin .sub (.t 23) (.i 1)),.m 8 (.t 24)])))))))))
 (.fg [6,7] (.seq (.ops false [.m 72 (.t 6),.u 73 (.callf f3 [(.t 72)]),.m 74 (.t 7),.u 75 (.callf f3 [(.t 74)]),.m 4 (.t 73),.m 5 (.t 75)])
 .ret)))))))))
theorem jP(hΓ:Holds P Γ){f fb fc fk ft:Nat}(hb:Γ fb=.dat true ut)(hcm:Γ fc=.dat true jv)(hk:Γ fk=.own Vy)(ht:Γ ft=.fresh 1 vw)
  (hc:check P f=some (76,(jg fb fc fk ft).strip,[.tmp 4,.tmp 5])):Sound P f (.dat false Zi):=by
 refine ka hc VO hΓ (λargs K hcl hfi hG=>?_);match args,hG with
 | [a,b],hG=>
  obtain⟨x,rfl,hx,y,rfl,hy,hnx,hny,hy0,hxl,hyl,hK⟩:=hG;refine⟨by simp,?_⟩
  simp only [go_sem,jg,hb,hcm,hk,ht];intro h1;refine⟨by omega,λ_=>⟨by omega,by omega,hx,by omega,?_⟩⟩
  obtain⟨n,hn⟩:∃n,(if x.length=0 then 0 else 32*(x.length-1)+bln (x.getD (x.length-1) 0))=n:=⟨_,rfl⟩
  have hnlt:val x<2 ^ n:=by
   rw [<-hn];split
   .rename_i h0;rw [List.eq_nil_of_length_eq_zero h0];simp [val]
   .exact ybn hx ‹_›
  have hnb:n<=32*x.length:=by
   rw [<-hn];split
   .omega
   .have:=Ybh (k:=32) (n:=x.getD (x.length-1) 0) (yb hx _);omega
  have hy1:0<val y:=by
   have:=jd hny hy0;omega
  rw [hn];refine⟨by omega,?_⟩
  refine Ya (λp:Nat×List Nat×List Nat=>⟨mkV [(0,wsA x),(1,wsA y),(6,.one (.own 13 1 1 0 x.length)),(7,.one (.own 17 1 1 0 (y.length+1))),(8,.one (.lit (.int .i64 ((p.1:Int)-1))))],mkH [(13,⟨1,some ⟨p.2.1.map wc,1,true⟩⟩),(17,⟨1,some ⟨p.2.2.map wc,1,true⟩⟩)]⟩)
   (λp=>p.1<=n/\WL p.2.1/\p.2.1.length=x.length/\val p.2.1=val x / 2 ^ p.1 / val y*2 ^ p.1/\WL p.2.2/\p.2.2.length=y.length+1/\val p.2.2=val x / 2 ^ p.1 % val y) (λp=>p.1) (n,List.replicate x.length 0,List.replicate (y.length+1) 0) ?_ ?_ ?_
  .exact Qa (by simp [okS,okV,okC,okL,okH,okB,okE,ja,Va,qa,va,wsA,ws]) ⟨Vb (by simp),Vb (by simp),trivial⟩
  .simp [Za4,UX,Nat.div_eq_of_lt hnlt]
  .rintro⟨n',q,r⟩ ⟨hn',hq,hql,hqv,hr,hrl,hrv⟩;simp only at hn' hq hql hqv hr hrl hrv;cases n' with
   | zero=>
    have e:((0:Nat):Int)-1 = -1:=rfl;have e' : ((0:Int)<=-1)=False:=by simp
    simp only [go_sem,hb,hcm,hk,ht,e,e',hql,hrl];simp only [Nat.pow_zero,Nat.div_one,Nat.mul_one]at hqv hrv;rw [hqv,hrv];exact⟨hq,by omega,hr,by omega,hK⟩
   | succ i=>
    have e:((i+1:Nat):Int)-1=(i:Int):=by omega
    have e1:(i:Int) / 32=((i / 32:Nat):Int):=rfl;have e2:(i:Int) % 32=((i % 32:Nat):Int):=rfl;have e3:=VbE hx i;have hi32:i / 32<x.length:=by omega
    have hib:i % 32<32:=Nat.mod_lt _ (by omega)
    simp only [go_sem,hb,hcm,hk,ht,e,e1,e2,e3,wn,hql,hrl];have g1:=yb hx (i / 32);have g2:x.getD (i / 32) 0 / 2 ^ (i % 32)<2 ^ IntKind.u32.bits:=Nat.lt_of_le_of_lt (Nat.div_le_self _ _) g1;have g3:((i % 32:Nat):Int)<=IntKind.u32.bits:=by have:IntKind.u32.bits=32:=rfl;omega
    refine⟨by decide,by omega,hi32,by decide,by omega,g2,λhyl'=>?_⟩
    generalize hbit:val x / 2 ^ i % 2=bit;have hbit1:bit<=1:=by omega
    refine Ya (λp:List Nat×Nat=>⟨mkV [(0,wsA x),(1,wsA y),(6,.one (.own 13 1 1 0 x.length)),(7,.one (.own 17 1 1 0 (y.length+1))),(8,.one (.lit (.int .i64 i))),(9,.one (.lit (.int .u32 p.2))),(35,.one (.lit (.int .i64 (y.length+1:Nat)))),(36,.one (.lit (.int .i64 p.1.length)))],
      mkH [(13,⟨1,some ⟨q.map wc,1,true⟩⟩),(17,⟨1,some ⟨(p.1++r.drop p.1.length).map wc,1,true⟩⟩)]⟩)
     (λp=>p.1.length<=r.length/\WL p.1/\p.2<=1/\val p.1+4294967296 ^ p.1.length*p.2=2*val (r.take p.1.length)+bit) (λp=>r.length-p.1.length) ([],bit) ?_ ?_ ?_
    .exact Qa (by simp [okS,okV,okC,okL,okH,okB,okE,ja,Va,qa,va,wsA,ws]) ⟨Vb rfl,Vb (by simp),trivial⟩
    .simp [Xc,val,hbit1]
    .rintro⟨o,c⟩ ⟨hol,ho,hc1,hov⟩;simp only at hol ho hc1 hov;by_cases hlt:o.length<y.length+1
     .have g4:=yb hr o.length;simp only [go_sem,hb,hcm,hk,ht,kbw hol,hrl,hlt,zZ,not_true,wbG hc1,xbp _ (show o.length<r.length by omega)]
      refine⟨⟨rfl,by decide,by decide⟩,⟨rfl,Nat.mod_lt _ (by omega),by omega⟩,⟨by decide,by decide⟩,by omega,(o++[r.getD o.length 0*2 % 4294967296+c],r.getD o.length 0 / 2147483648),Qa (by simp [okS,okV,okC,okL,okH,okB,okE,ja,Va,qa,va,wsA,ws]) ⟨Vb rfl,Vb rfl,trivial⟩,⟨by simp;omega,ue.2 ⟨ho,Yc.2 ⟨by omega,Xc⟩⟩,by simp only;omega,?_⟩,by simp;omega⟩
      simp only [List.length_append,List.length_cons,List.length_nil,Nat.zero_add,Ub,vc,uj,Jo,Nat.mul_zero,Nat.add_zero,Nat.pow_succ];exact Ybc hov g4
     .have hoe:o.length=y.length+1:=by omega
      have hd:r.drop (y.length+1)=[]:=List.drop_of_length_le (by omega)
      simp only [go_sem,hb,hcm,hk,ht,hd,hoe,Nat.lt_irrefl,e1,e2];have hrlt:val r<val y:=by rw [hrv];exact Nat.mod_lt _ hy1
      have hylt:=Wm hy;rw [List.take_of_length_le (by omega),hoe,Nat.pow_succ]at hov
      have hc0:c=0:=by
       rcases Nat.eq_zero_or_pos c with h | h
       .exact h
       .exfalso;have:4294967296 ^ y.length*4294967296*1<=4294967296 ^ y.length*4294967296*c:=Nat.mul_le_mul_left _ h;omega
      subst hc0;rw [Nat.mul_zero,Nat.add_zero]at hov;refine⟨ho,hy,λh=>?_,λh=>?_⟩
      .have hge:=Zx.1 h;have hs:=ka4 hy1 hbit hqv hrv (by omega)
       simp only [Vy,yI];refine⟨hy,o,[],hoe.symm,by simp [qa],ho,by omega,hge,?_⟩
       have hp32:2 ^ (i % 32)<4294967296:=Nat.lt_of_lt_of_le (Nat.pow_lt_pow_right (by omega) hib) (by decide)
       have e4:(1*2 ^ (i % 32) % 4294967296:Int)=((2 ^ (i % 32):Nat):Int):=by
        rw [Int.one_mul,show((2:Int) ^ (i % 32))=((2 ^ (i % 32):Nat):Int) by rw [Int.natCast_pow];rfl]
        generalize 2 ^ (i % 32)=w at hp32 ⊢;omega
       have e5:=Zbu hib (Vbf hq hqv);have g5:=yb hq (i / 32);simp only [go_sem,e1,e2,hql,qb,hoe,e4,e5];have hsv:=uX q (i / 32) (q.getD (i / 32) 0+2 ^ (i % 32)) (by omega)
       have hpp:=QL i;rw [Nat.mul_add]at hsv;have hv2:val (q.set (i / 32) (q.getD (i / 32) 0+2 ^ (i % 32)))=val q+2 ^ i:=by omega
       have hsum:q.getD (i / 32) 0+2 ^ (i % 32)<4294967296:=by
        rw [<-e5];exact Nat.or_lt_two_pow (n:=32) g5 hp32
       refine⟨by decide,by omega,hi32,hi32,by decide,⟨rfl,by decide,by omega⟩,⟨rfl,g5,hp32⟩,hi32,hi32,⟨by omega,by omega⟩,(i,q.set (i / 32) (q.getD (i / 32) 0+2 ^ (i % 32)),dig (y.length+1) (val o-val y)),Qa (by simp [okS,okV,okC,okL,okH,okB,okE,ja,Va,qa,va,wsA,ws]) ⟨Vb rfl,Vb rfl,trivial⟩,⟨by simp only;omega,jah hq _ hsum,by simp [hql],?_,zn _ _,qb _ _,?_⟩,by simp only;omega⟩
       .simp only;rw [hv2];exact hs.1
       .simp only;rw [xl,hov,hs.2,Nat.mod_eq_of_lt];have:=Nat.mod_lt (val x / 2 ^ i) hy1;have h6:(4294967296:Nat) ^ y.length<=4294967296 ^ (y.length+1):=Nat.pow_le_pow_right (by omega) (by omega)
        omega
      .have hlt2:=mt Zx.2 h;have hs:=jaZ hy1 hbit hqv hrv (by omega)
       refine⟨by omega,(i,q,o),Qa (by simp [okS,okV,okC,okL,okH,okB,okE,ja,Va,qa,va,wsA,ws]) ⟨Vb rfl,Vb rfl,trivial⟩,⟨by simp only;omega,hq,hql,hs.1,ho,hoe,by simp only;rw [hov];exact hs.2⟩,by simp only;omega⟩
end Go.Abs
end
section
namespace Go.Abs
open Go.Num
variable {P:Program} {Γ:Nat->Spec}
def Wi(f0:Nat):AC:=(.seq (.ops false [.u 4 (.alloc [(.lit (.bool false)),.emp])])
 (.fg [0,1,4] (.seq (.ops false [.m 5 (.t 1),.u 6 (.callf f0 [(.t 5)]),.m 1 (.t 6)])
 (.fg [0,1,4] (.seq (.seq (.ops false [.m 7 (.t 1),.u 8 (.len (.t 7)),.u 9 (.bin .eql (.t 8) (.i 0))])
 (.fg [0,1,4,9] (.cond (.t 9) (.seq (.ops false [.u 10 (.build [.z [(.lit (.bool false)),.emp]]),.n (.st none 2 (.t 4) (.t 10))])
 .ret) .skip)))
 (.fg [0,1,4] (.seq (.ops false [.m 11 (.t 0),.m 12 (.t 1),.u 13 (.build [.x 1 (.t 11),.x 1 (.t 12)]),.n (.st none 2 (.t 4) (.t 13))])
 .ret)))))))
def xi(f0 f1:Nat):AC:=(.seq (.ops false [.u 1 (.box 2 (.t 0)),.m 2 (.i 0)])
 (.fg [1] (.seq (.seq (.ops false [.u 3 (.ld none 2 true (.t 1)),.u 4 (.call f0 [(.t 3)]),.u 5 (.len (.t 4)),.u 6 (.bin .eql (.t 5) (.i 0))])
 (.fg [1,6] (.cond (.t 6) (.seq (.ops false [.m 2 (.i 0)])
 .ret) .skip)))
 (.fg [1] (.seq (.seq (.ops false [.u 7 (.ld none 2 true (.t 1)),.u 8 (.call f1 [(.t 7)])])
 (.fg [8] (.cond (.t 8) (.seq (.ops false [.m 2 (.i (-1))])
 .ret) .skip)))
 (.fg [] (.seq (.ops false [.m 2 (.i 1)])
 .ret)))))))
def kk(f0 f1:Nat):AC:=(.seq (.ops false [.u 2 (.box 2 (.t 0)),.u 3 (.box 2 (.t 1)),.m 4 (.i 0)])
 (.fg [2,3] (.seq (.ops false [.u 5 (.ld none 2 true (.t 2)),.u 6 (.ld none 2 true (.t 3)),.u 7 (.call f0 [(.t 5),(.t 6)]),.u 8 (.call f1 [(.t 7)]),.m 4 (.t 8)])
 .ret)))
def Yk(f0 f1 f2 f3 f4 f5:Nat):AC:=(.seq (.ops false [.u 2 (.box 2 (.t 0)),.u 3 (.box 2 (.t 1)),.u 4 (.alloc [(.lit (.bool false)),.emp])])
 (.fg [2,3,4] (.seq (.ops true [.u 7 (.ld none 2 true (.t 2)),.u 8 (.call f0 [(.t 7)]),.u 9 (.ld none 2 true (.t 3)),.u 10 (.call f0 [(.t 9)]),.m 5 (.t 8),.m 6 (.t 10)])
 (.fg [2,3,4,5,6] (.seq (.seq (.ops true [.u 11 (.ld none 2 true (.t 2)),.u 12 (.call f1 [(.t 11)]),.u 13 (.ld none 2 true (.t 3)),.u 14 (.call f1 [(.t 13)]),.u 15 (.binb .eql (.t 12) (.t 14))])
 (.fg [2,3,4,5,6,15] (.cond (.t 15) (.seq (.ops false [.u 16 (.ld none 2 true (.t 2)),.u 17 (.call f1 [(.t 16)]),.m 18 (.t 5),.m 19 (.t 6),.u 20 (.call f2 [(.t 18),(.t 19)]),.u 21 (.call f3 [(.t 17),(.t 20)]),.n (.st none 2 (.t 4) (.t 21))])
 .ret) .skip)))
 (.fg [2,3,4,5,6] (.seq (.seq (.ops false [.m 22 (.t 5),.m 23 (.t 6),.u 24 (.call f4 [(.t 22),(.t 23)]),.u 25 (.bin .geq (.t 24) (.i 0))])
 (.fg [2,3,4,5,6,25] (.cond (.t 25) (.seq (.ops false [.u 26 (.ld none 2 true (.t 2)),.u 27 (.call f1 [(.t 26)]),.m 28 (.t 5),.m 29 (.t 6),.u 30 (.call f5 [(.t 28),(.t 29)]),.u 31 (.call f3 [(.t 27),(.t 30)]),.n (.st none 2 (.t 4) (.t 31))])
 .ret) .skip)))
 (.fg [3,4,5,6] (.seq (.ops false [.u 32 (.ld none 2 true (.t 3)),.u 33 (.call f1 [(.t 32)]),.m 34 (.t 6),.m 35 (.t 5),.u 36 (.call f5 [(.t 34),(.t 35)]),.u 37 (.call f3 [(.t 33),(.t 36)]),.n (.st none 2 (.t 4) (.t 37))])
 .ret)))))))))
def yk(f0 f1:Nat):AC:=(.seq (.ops false [.u 2 (.box 2 (.t 0)),.u 3 (.box 2 (.t 1)),.u 4 (.alloc [(.lit (.bool false)),.emp])])
 (.fg [2,3,4] (.seq (.ops true [.u 5 (.ld none 2 true (.t 2)),.u 6 (.ld none 2 true (.t 3)),.u 7 (.call f0 [(.t 6)]),.u 8 (.call f1 [(.t 5),(.t 7)]),.n (.st none 2 (.t 4) (.t 8))])
 .ret)))
def Vk(f0 f1 f2:Nat):AC:=(.seq (.ops false [.u 2 (.box 2 (.t 0)),.u 3 (.box 2 (.t 1)),.u 4 (.alloc [(.lit (.bool false)),.emp])])
 (.fg [2,3,4] (.seq (.ops true [.u 5 (.ld none 2 true (.t 2)),.u 6 (.call f0 [(.t 5)]),.u 7 (.ld none 2 true (.t 3)),.u 8 (.call f0 [(.t 7)]),.u 9 (.call f1 [(.t 6),(.t 8)]),.u 10 (.call f2 [.fa,(.t 9)]),.n (.st none 2 (.t 4) (.t 10))])
 .ret)))
def wk(f0 f1 f2 f3 f4 f5 f6:Nat):AC:=(.seq (.ops false [.u 2 (.box 2 (.t 0)),.u 3 (.box 2 (.t 1)),.u 4 (.alloc [(.lit (.bool false)),.emp]),.u 5 (.alloc [(.lit (.bool false)),.emp]),.m 6 (.i 0)])
 (.fg [2,3,4,5] (.seq (.seq (.ops false [.u 9 (.ld none 2 true (.t 3)),.u 10 (.call f0 [(.t 9)]),.u 11 (.bin .eql (.t 10) (.i 0))])
 (.fg [2,3,4,5,11] (.cond (.t 11) (.seq (.ops false [.u 12 (.build [.z [(.lit (.bool false)),.emp]]),.u 13 (.build [.z [(.lit (.bool false)),.emp]]),.n (.st none 2 (.t 4) (.t 12)),.n (.st none 2 (.t 5) (.t 13)),.m 6 (.i 8)])
 .ret) .skip)))
 (.fg [2,3,4,5] (.seq (.ops true [.u 15 (.ld none 2 true (.t 2)),.u 16 (.call f1 [(.t 15)]),.u 17 (.ld none 2 true (.t 3)),.u 18 (.call f1 [(.t 17)]),.u 19 (.call f2 [(.t 16),(.t 18)]),.m 14 (.t 19),.u 20 (.ext 0 (.t 14)),.u 21 (.ext 1 (.t 14)),.m 7 (.t 20),.m 8 (.t 21)])
 (.fg [2,3,4,5,7,8] (.seq (.seq (.ops false [.u 22 (.ld none 2 true (.t 2)),.u 23 (.call f3 [(.t 22)]),.m 24 (.t 23),.w 25 24 true (.mv (.t 8)),.w 26 24 true (.len (.t 25)),.w 27 24 true (.bin .gtr (.t 26) (.i 0)),.u 28 (.pick (.t 24) (.t 27) .fa)])
 (.fg [2,3,4,5,7,8,28] (.cond (.t 28) (.ops true [.m 29 (.t 7),.u 30 (.row 1 [[.x 1 (.c (.one (.lit (.int .u32 1))))]]),.u 31 (.call f4 [(.t 29),(.t 30)]),.u 32 (.ld none 2 true (.t 3)),.u 33 (.call f1 [(.t 32)]),.m 34 (.t 8),.u 35 (.call f5 [(.t 33),(.t 34)]),.m 7 (.t 31),.m 8 (.t 35)]) .skip)))
 (.fg [2,3,4,5,7,8] (.seq (.ops true [.u 36 (.ld none 2 true (.t 2)),.u 37 (.call f3 [(.t 36)]),.u 38 (.ld none 2 true (.t 3)),.u 39 (.call f3 [(.t 38)]),.u 40 (.binb .neq (.t 37) (.t 39)),.m 41 (.t 7),.u 42 (.call f6 [(.t 40),(.t 41)]),.m 43 (.t 8),.u 44 (.call f6 [.fa,(.t 43)]),.n (.st none 2 (.t 4) (.t 42)),.n (.st none 2 (.t 5) (.t 44)),.m 6 (.i 0)])
 .ret)))))))))
theorem wag(hΓ:Holds P Γ){f ft:Nat}(ht:Γ ft=.fresh 1 vw)(hc:check P f=some (14,(Wi ft).strip,[.cell 4 2 true])):Sound P f (.dat false kf):=by
 refine ka hc UQ hΓ (λargs K hcl hfi hG=>?_);match args,hG with
 | [a,m],hG=>
  obtain⟨b,rfl,hG⟩:=zD hG;obtain⟨l,rfl,hl,hlen,hK⟩:=hG;refine⟨by simp,?_⟩
  simp only [go_sem,Wi,ht];refine⟨hl,hlen,λ_=>⟨λh=>?_,λh=>?_⟩⟩
  .have h0:val l=0:=Uy.1 h;have e:zcan (sg b (val l))=zcan 0:=by rw [h0];unfold sg;split <;> rfl
   rw [e]at hK;have e2:(zcan 0)=(false,[]):=by simp [zcan,Wb]
   rw [e2]at hK;exact hK
  .rw [<-ZW]at hK;have e:decide (0<(digs (val l)).length)=true:=by simp only [decide_eq_true_eq];omega
   rw [e,Bool.and_true]at hK;exact hK
theorem uZ(hΓ:Holds P Γ){f fm fn:Nat}(hm:Γ fm=.dat false jk)(hn:Γ fn=.dat true zg)(hc:check P f=some (9,(xi fm fn).strip,[.tmp 2])):Sound P f (.dat true vg):=by
 refine ka hc QT hΓ (λargs K hcl hfi hG=>?_);match args,hG with
 | [a],hG=>
  obtain⟨w,rfl,hw,hK⟩:=hG;refine⟨by simp,?_⟩
  simp only [go_sem,xi,hm,hn,hw];intro _;refine⟨λh=>?_,λh=>⟨λhb=>?_,λhb=>?_⟩⟩
  .have h0:zv w=0:=Qy.1 h;rw [h0]at hK;exact hK
  .rw [Int.sign_eq_neg_one_of_neg hb]at hK;exact hK
  .have h0:zv w≠0:=λe=>h (Qy.2 e);rw [Int.sign_eq_one_of_pos (by omega)]at hK;exact hK
theorem Vag(hΓ:Holds P Γ){f fn fa:Nat}(hn:Γ fn=.dat false Zw)(ha:Γ fa=.dat false Wy)(hc:check P f=some (9,(yk fn fa).strip,[.cell 4 2 true])):Sound P f (.dat false QF):=by
 refine ka hc WaL hΓ (λargs K hcl hfi hG=>?_);match args,hG with
 | [a,b],hG=>
  obtain⟨v,rfl,hv,w,rfl,hw,hz,hz',hK⟩:=hG;refine⟨by simp,?_⟩
  simp only [go_sem,yk,hn,ha,hw,hv];refine⟨by omega,hz,by rw [zad];exact hz',?_⟩
  rw [<-Int.sub_eq_add_neg];exact hK
theorem vae(hΓ:Holds P Γ){f fs fg:Nat}(hs:Γ fs=.dat false QF)(hg:Γ fg=.dat true vg)(hc:check P f=some (9,(kk fs fg).strip,[.tmp 4])):Sound P f (.dat true Ys):=by
 refine ka hc yak hΓ (λargs K hcl hfi hG=>?_);match args,hG with
 | [a,b],hG=>
  obtain⟨v,rfl,hv,w,rfl,hw,hz,hz',hz2,hK⟩:=hG;refine⟨by simp,?_⟩
  simp only [go_sem,kk,hs,hg,hw,hv];refine⟨hz,hz',?_⟩;have e:Int.sign (zv v-zv w)=ordI (zv v) (zv w):=by
   unfold ordI;split
   .exact Int.sign_eq_neg_one_of_neg (by omega)
   .split
    .exact Int.sign_eq_one_of_pos (by omega)
    .rw [show zv v-zv w=0 by omega];rfl
  rw [e];exact hK
theorem V6(hΓ:Holds P Γ){f fm fg fw:Nat}(hm:Γ fm=.dat false jk)(hg:Γ fg=.dat false Uz)(hw' : Γ fw=.dat false kf)(hc:check P f=some (11,(Vk fm fg fw).strip,[.cell 4 2 true])):Sound P f (.dat false uu):=by
 refine ka hc zaa hΓ (λargs K hcl hfi hG=>?_);match args,hG with
 | [a,b],hG=>
  obtain⟨v,rfl,hv,w,rfl,hw,hz,hz',hK⟩:=hG;refine⟨by simp,?_⟩
  simp only [go_sem,Vk,hm,hg,hw',hw,hv,jb];have hle:(digs ((zv v).natAbs.gcd (zv w).natAbs)).length<=17179869184:=by
   rcases Nat.eq_zero_or_pos (zv v).natAbs with h | h
   .rw [h,Nat.gcd_zero_left];exact hz'
   .exact Nat.le_trans (ua (Nat.le_of_dvd h (Nat.gcd_dvd_left _ _))) hz
  exact⟨Ua _,Ua _,hz,hz',Ua _,by omega,hK⟩
theorem Zae(hΓ:Holds P Γ){f fn fm fp fw fc fl:Nat}(hn:Γ fn=.dat true zg)(hm:Γ fm=.dat false jk)(hp:Γ fp=.dat false xr)(hw' : Γ fw=.dat false kf)(hc' : Γ fc=.dat true jv)(hl:Γ fl=.dat false Yv)(hc:check P f=some (38,(Yk fm fn fp fw fc fl).strip,[.cell 4 2 true])):Sound P f (.dat false Wy):=by
 refine ka hc U4 hΓ (λargs K hcl hfi hG=>?_);match args,hG with
 | [a,b],hG=>
  obtain⟨v,rfl,hv,w,rfl,hw,hz,hz',hK⟩:=hG;refine⟨by simp,?_⟩
  simp only [go_sem,Yk,hn,hm,hp,hw',hc',hl,hw,hv];simp only [jb];have hsz:=jL (zv v) (zv w);refine⟨λh=>⟨Ua _,Ua _,hz,hz',Ua _,?_,?_⟩,λh=>⟨Ua _,Ua _,λho=>⟨Ua _,Ua _,by unfold zs at hz;omega,?_,Ua _,?_,?_⟩,λho=>⟨Ua _,Ua _,by unfold zs at hz';omega,?_,Ua _,?_,?_⟩⟩⟩
  .have e:=Wz (Yj h);rw [show(zv v).natAbs+(zv w).natAbs=(zv v+zv w).natAbs by have:=Yj h;omega]
   unfold zs at *;omega
  .rw [Wz (Yj h)];exact hK
  .exact(Zx.1 ho)
  .have:=ua (Nat.sub_le (zv v).natAbs (zv w).natAbs);unfold zs at *;omega
  .have h1:=Zx.1 ho;rw [Zav (xt h) h1];exact hK
  .have:=mt Zx.2 ho;omega
  .have:=ua (Nat.sub_le (zv w).natAbs (zv v).natAbs);unfold zs at *;omega
  .have h1:=mt Zx.2 ho;rw [Zav (λe=>xt h e.symm) (by omega),Int.add_comm];exact hK
theorem Uaa(hΓ:Holds P Γ){f fs fn fm fp fw fd fl:Nat}(hs:Γ fs=.dat true vg)(hn:Γ fn=.dat true zg)(hm:Γ fm=.dat false jk)(hp:Γ fp=.dat false xr)(hw' : Γ fw=.dat false kf)(hd:Γ fd=.dat false Zi)(hl:Γ fl=.dat false Yv)(hc:check P f=some (45,(wk fs fm fd fn fp fl fw).strip,[.cell 4 2 true,.cell 5 2 true,.tmp 6])):Sound P f (.dat false Zs):=by
 refine ka hc Xao hΓ (λargs K hcl hfi hG=>?_);match args,hG with
 | [a,b],hG=>
  obtain⟨v,rfl,hv,w,rfl,hw,hz,hz',h0,hK⟩:=hG;refine⟨by simp,?_⟩
  simp only [go_sem,wk,hs,hn,hm,hp,hw',hd,hl,hw,hv];simp only [jb];have hne:¬(digs (zv w).natAbs).length=0:=λe=>h0 (Qy.1 e);refine⟨λe=>absurd (Int.sign_eq_zero_iff_zero.1 e) h0,λ_=>⟨Ua _,Ua _,Yq _,Yq _,λe=>hne (by rw [e];rfl),hz,hz',?_⟩⟩
  have hq:(digs ((zv v).natAbs / (zv w).natAbs)).length<=17179869184:=Nat.le_trans (ua (Nat.div_le_self _ _)) hz;have hr:(digs ((zv v).natAbs % (zv w).natAbs)).length<=17179869184:=Nat.le_trans (ua (Nat.mod_le _ _)) hz;have hz'' : (digs (zv w).natAbs).length<=17179869184:=hz';have hlt:=Nat.mod_lt (zv v).natAbs (show 0<(zv w).natAbs by omega)
  have hfin:(0<=zv v∨(zv v).natAbs % (zv w).natAbs=0)->K (AV.tup
    [AV.agg [zb (zcan (sg (!(decide (zv v<0) == decide (zv w<0))) ((zv v).natAbs / (zv w).natAbs))),zm (zcan (sg (!(decide (zv v<0) == decide (zv w<0))) ((zv v).natAbs / (zv w).natAbs)))],
     AV.agg [zb (zcan (sg false ((zv v).natAbs % (zv w).natAbs))),zm (zcan (sg false ((zv v).natAbs % (zv w).natAbs)))],AV.one (C.lit (Value.int IntKind.i64 0))]):=by
   intro h;obtain⟨e1,e2⟩:=qaF h0 h;have e1' : sg (!(decide (zv v<0) == decide (zv w<0))) ((zv v).natAbs / (zv w).natAbs)=zv v / zv w:=e1;have e2' : sg false ((zv v).natAbs % (zv w).natAbs)=zv v % zv w:=e2;rw [e1',e2'];exact hK
  refine⟨λhneg _=>⟨λhp=>⟨Ua _,(Vay _ 1).mpr ⟨Yc.2 ⟨by decide,Xc⟩,hq,by decide,Ua _,Ua _,by omega,by omega,Ua _,?_,Ua _,?_,?_⟩⟩,λhp=>⟨Ua _,by omega,Ua _,by omega,hfin (.inr ?_)⟩⟩,λhneg=>⟨Ua _,by omega,Ua _,by omega,hfin (.inl (by omega))⟩⟩
  .have hv1:val [1]=1:=rfl;rw [hv1];have h1:zs 1<=2:=Jr (by decide)
   have:=jL (((zv v).natAbs / (zv w).natAbs:Nat):Int) 1;have e:(((zv v).natAbs / (zv w).natAbs:Nat):Int)+1=(((zv v).natAbs / (zv w).natAbs+1:Nat):Int):=by omega
   rw [e]at this;have h3:zs (((zv v).natAbs / (zv w).natAbs:Nat):Int)=(digs ((zv v).natAbs / (zv w).natAbs)).length:=rfl;have h4:zs (((zv v).natAbs / (zv w).natAbs+1:Nat):Int)=(digs ((zv v).natAbs / (zv w).natAbs+1)).length:=rfl;rw [h3,h4]at this;omega
  .have:=ua (Nat.sub_le (zv w).natAbs ((zv v).natAbs % (zv w).natAbs));omega
  .have hv1:val [1]=1:=rfl;rw [hv1];have hne' : (zv v).natAbs % (zv w).natAbs≠0:=by
    intro e;rw [e,Wb]at hp;simp at hp
   obtain⟨e1,e2⟩:=qaA h0 hneg hne';have e1' : sg (!(decide (zv v<0) == decide (zv w<0))) ((zv v).natAbs / (zv w).natAbs+1)=zv v / zv w:=e1;have e2' : sg false ((zv w).natAbs-(zv v).natAbs % (zv w).natAbs)=zv v % zv w:=e2;rw [e1',e2'];exact hK
  .have:digs ((zv v).natAbs % (zv w).natAbs)=[]:=List.eq_nil_of_length_eq_zero (by omega)
   exact kg.1 this
end Go.Abs
end
