/-
  Parts of the proof, merged: RefB, RefC, RefD, RefE, RefF.
-/
import Derived.Test.YtneiiodebbmcaaaGreatDoorM13
set_option linter.unusedVariables false
set_option linter.unusedSimpArgs false
set_option maxRecDepth 100000
section
namespace Go.Abs
open Go.Num
variable {P:Program} {Γ:Nat->Spec}
def Vd:AC:=(.seq (.ops false [.m 2 (.c (.one .emp))])
 (.fg [0] (.seq (.ops false [.m 4 (.c (.one .emp)),.m 5 (.t 0),.u 6 (.app0 1 (.t 4) (.t 5)),.m 3 (.t 6)])
 (.fg [3] (.seq (.block 0 (.loop (.seq (.seq (.ops false [.m 7 (.t 3),.u 8 (.len (.t 7)),.u 9 (.bin .gtr (.t 8) (.i 0)),.m 10 (.t 9),.w 11 10 true (.mv (.t 3)),.w 12 10 true (.mv (.t 3)),.w 13 10 true (.len (.t 12)),.w 14 10 true (.bin .sub (.t 13) (.i 1)),.w 15 10 true (.idx 1 (.t 11) (.t 14)),.w 16 10 true (.ld none 1 false (.t 15)),.w 17 10 true (.bin .eql (.t 16) (.c (.one (.lit (.int .u32 0))))),.u 18 (.pick (.t 10) (.t 17) .fa)])
 (.fg [3,18] (.cond (.t 18) .skip (.exit 0))))
 (.fg [3] (.block 1 (.ops false [.m 19 (.t 3),.m 20 (.t 3),.u 21 (.len (.t 20)),.u 22 (.bin .sub (.t 21) (.i 1)),.u 23 (.sl 1 (.t 19) none (some (.t 22))),.m 3 (.t 23)]))))))
 (.fg [3] (.seq (.ops false [.m 24 (.t 3),.m 2 (.t 24)])
 .ret)))))))
def Vh(f0 f1:Nat):AC:=(.seq (.ops false [.m 4 (.c (.one .emp))])
 (.fg [0,1] (.seq (.ops false [.m 5 (.c (.one .emp))])
 (.fg [0,1,5] (.seq (.ops false [.m 6 (.c (.one (.lit (.int .u64 0))))])
 (.fg [0,1,5,6] (.seq (.seq (.ops false [.m 9 (.t 0),.u 10 (.len (.t 9)),.m 11 (.t 1),.u 12 (.len (.t 11)),.u 13 (.max [(.t 10),(.t 12)]),.u 14 (.bin .add (.t 13) (.i 1)),.m 15 (.i 0)])
 (.fg [0,1,5,6,14,15] (.block 0 (.loop (.seq (.ops false [.u 16 (.bin .lss (.t 15) (.t 14))])
 (.fg [0,1,5,6,14,15,16] (.seq (.cond (.t 16) .skip (.exit 0))
 (.fg [0,1,5,6,14,15] (.seq (.block 1 (.seq (.ops false [.m 17 (.t 15),.m 7 (.t 17)])
 (.fg [0,1,5,6,7,14,15] (.seq (.ops false [.m 18 (.t 0),.m 19 (.t 7),.u 20 (.call f0 [(.t 18),(.t 19)]),.m 21 (.t 1),.m 22 (.t 7),.u 23 (.call f0 [(.t 21),(.t 22)]),.u 24 (.bin .add (.t 20) (.t 23)),.m 25 (.t 6),.u 26 (.bin .add (.t 24) (.t 25)),.m 8 (.t 26)])
 (.fg [0,1,5,8,14,15] (.ops false [.m 27 (.t 5),.m 28 (.t 8),.u 29 (.conv .u32 (.t 28)),.u 30 (.row 1 [[.x 1 (.t 29)]]),.u 31 (.app 1 (.t 27) (.t 30)),.m 32 (.t 8),.u 33 (.bin .shr (.t 32) (.c (.one (.lit (.int .u64 32))))),.m 5 (.t 31),.m 6 (.t 33)]))))))
 (.fg [0,1,5,6,14,15] (.ops false [.u 34 (.bin .add (.t 15) (.i 1)),.m 15 (.t 34)])))))))))))
 (.fg [5] (.seq (.ops false [.m 35 (.t 5),.u 36 (.callf f1 [(.t 35)]),.m 4 (.t 36)])
 .ret)))))))))
def qh(f0 f1:Nat):AC:=(.seq (.ops false [.m 4 (.c (.one .emp))])
 (.fg [0,1] (.seq (.ops false [.m 5 (.c (.one .emp))])
 (.fg [0,1,5] (.seq (.ops false [.m 6 (.c (.one (.lit (.int .u64 0))))])
 (.fg [0,1,5,6] (.seq (.seq (.ops false [.m 9 (.t 0),.u 10 (.len (.t 9)),.m 11 (.i 0)])
 (.fg [0,1,5,6,10,11] (.block 0 (.loop (.seq (.ops false [.u 12 (.bin .lss (.t 11) (.t 10))])
 (.fg [0,1,5,6,10,11,12] (.seq (.cond (.t 12) .skip (.exit 0))
 (.fg [0,1,5,6,10,11] (.seq (.block 1 (.seq (.ops false [.m 13 (.t 11),.m 7 (.t 13)])
 (.fg [0,1,5,6,7,10,11] (.seq (.ops false [.m 14 (.t 0),.m 15 (.t 7),.u 16 (.call f0 [(.t 14),(.t 15)]),.u 17 (.bin .add (.c (.one (.lit (.int .u64 4294967296)))) (.t 16)),.m 18 (.t 1),.m 19 (.t 7),.u 20 (.call f0 [(.t 18),(.t 19)]),.u 21 (.bin .sub (.t 17) (.t 20)),.m 22 (.t 6),.u 23 (.bin .sub (.t 21) (.t 22)),.m 8 (.t 23)])
 (.fg [0,1,5,8,10,11] (.ops false [.m 24 (.t 5),.m 25 (.t 8),.u 26 (.conv .u32 (.t 25)),.u 27 (.row 1 [[.x 1 (.t 26)]]),.u 28 (.app 1 (.t 24) (.t 27)),.m 29 (.t 8),.u 30 (.bin .shr (.t 29) (.c (.one (.lit (.int .u64 32))))),.u 31 (.bin .sub (.c (.one (.lit (.int .u64 1)))) (.t 30)),.m 5 (.t 28),.m 6 (.t 31)]))))))
 (.fg [0,1,5,6,10,11] (.ops false [.u 32 (.bin .add (.t 11) (.i 1)),.m 11 (.t 32)])))))))))))
 (.fg [5] (.seq (.ops false [.m 33 (.t 5),.u 34 (.callf f1 [(.t 33)]),.m 4 (.t 34)])
 .ret)))))))))
def jf(f0:Nat):AC:=(.seq (.ops false [.m 4 (.i 0)])
 (.fg [0,1] (.seq (.seq (.ops false [.m 6 (.t 0),.u 7 (.len (.t 6)),.m 8 (.t 1),.u 9 (.len (.t 8)),.u 10 (.max [(.t 7),(.t 9)]),.u 11 (.bin .sub (.t 10) (.i 1)),.m 5 (.t 11)])
 (.fg [0,1,5] (.block 0 (.loop (.seq (.seq (.ops false [.m 12 (.t 5),.u 13 (.bin .geq (.t 12) (.i 0))])
 (.fg [0,1,5,13] (.cond (.t 13) .skip (.exit 0))))
 (.fg [0,1,5] (.seq (.block 1 (.seq (.ops false [.m 16 (.t 0),.m 17 (.t 5),.u 18 (.call f0 [(.t 16),(.t 17)]),.m 19 (.t 1),.m 20 (.t 5),.u 21 (.call f0 [(.t 19),(.t 20)]),.u 22 (.bin .neq (.t 18) (.t 21))])
 (.fg [0,1,5,22] (.cond (.t 22) (.seq (.seq (.ops false [.m 23 (.t 0),.m 24 (.t 5),.u 25 (.call f0 [(.t 23),(.t 24)]),.m 26 (.t 1),.m 27 (.t 5),.u 28 (.call f0 [(.t 26),(.t 27)]),.u 29 (.bin .lss (.t 25) (.t 28))])
 (.fg [29] (.cond (.t 29) (.seq (.ops false [.m 4 (.i (-1))])
 .ret) .skip)))
 (.fg [] (.seq (.ops false [.m 4 (.i 1)])
 .ret))) .skip))))
 (.fg [0,1,5] (.ops false [.m 14 (.t 5),.u 15 (.bin .sub (.t 14) (.i 1)),.m 5 (.t 15)])))))))))
 (.fg [] (.seq (.ops false [.m 4 (.i 0)])
 .ret)))))
def xh:AC:=(.seq (.ops false [.m 2 (.i 0)])
 (.fg [0] (.seq (.seq (.ops false [.m 5 (.t 0),.u 6 (.len (.t 5)),.u 7 (.bin .eql (.t 6) (.i 0))])
 (.fg [0,7] (.cond (.t 7) (.seq (.ops false [.m 2 (.i 0)])
 .ret) .skip)))
 (.fg [0] (.seq (.ops false [.m 8 (.t 0),.u 9 (.len (.t 8)),.u 10 (.bin .sub (.t 9) (.i 1)),.u 11 (.bin .mul (.i 32) (.t 10)),.m 3 (.t 11)])
 (.fg [0,3] (.seq (.seq (.ops false [.m 12 (.t 0),.m 13 (.t 0),.u 14 (.len (.t 13)),.u 15 (.bin .sub (.t 14) (.i 1)),.u 16 (.idx 1 (.t 12) (.t 15)),.u 17 (.ld none 1 false (.t 16)),.m 4 (.t 17)])
 (.fg [3,4] (.block 0 (.loop (.seq (.seq (.ops false [.m 18 (.t 4),.u 19 (.bin .gtr (.t 18) (.c (.one (.lit (.int .u32 0)))))])
 (.fg [3,4,19] (.cond (.t 19) .skip (.exit 0))))
 (.fg [3,4] (.seq (.block 1 (.ops false [.m 22 (.t 3),.u 23 (.bin .add (.t 22) (.i 1)),.m 3 (.t 23)]))
 (.fg [3,4] (.ops false [.m 20 (.t 4),.u 21 (.bin .shr (.t 20) (.c (.one (.lit (.int .u64 1))))),.m 4 (.t 21)])))))))))
 (.fg [3] (.seq (.ops false [.m 24 (.t 3),.m 2 (.t 24)])
 .ret)))))))))
theorem XaC(hΓ:Holds P Γ){f:Nat}(hc:check P f=some (25,Vd.strip,[.tmp 2])):Sound P f (.fresh 1 Xw):=by
 refine Xs hc Qa2 hΓ (λargs K hcl hfi hG=>?_);match args,hG with
 | [a],hG=>
  obtain⟨l,ha,hl,hlen,hK⟩:=hG;refine⟨by simp,?_⟩
  rcases ha with rfl | rfl | ⟨rfl,h0⟩
  .simp only [go_sem,Vd,ws];refine⟨hlen,?_⟩;refine Ya (λn:Nat=>⟨mkV [(3,.one (.own 6 1 1 0 n))],mkH [(6,⟨1,some ⟨l.map wc,1,true⟩⟩)]⟩) (λn=>n<=l.length/\val (l.take n)=val l) id l.length ?_ ?_ ?_
   .first | exact ja (by simp [okS,okV,okC,okL,okH,okB,okE,Qa,va,qa,Va,wsA,ws]) (xi rfl) | (subst h0;exact ja (by simp [okS,okV,okC,okL,okH,okB,okE,Qa,va,qa,Va,wsA,ws]) (xi (l:=[]) rfl))
   .simp
   .rintro n ⟨hn,ht⟩;simp only [go_sem];refine λhm=>⟨λh=>?_,λh=>?_⟩
    .rw [show((n:Int)-1).toNat=n-1 by omega]
     refine λ_=>⟨by omega,by omega,by omega,λh0=>λ_=>⟨by omega,by omega,by omega,n-1,ja (by simp [okS,okV,okC,okL,okH,okB,okE,Qa,va,qa,Va,wsA,ws]) (xi rfl),⟨by omega,?_⟩,?_⟩,λh0=>?_⟩
     .have:=Ub l (n-1);rw [show n-1+1=n by omega,h0,Nat.mul_zero,Nat.add_zero]at this
      rw [<-this];exact ht
     .simp only [id];omega
     .have:=Qe (Zy hl n) (ZO h hn h0);rw [ht]at this;rw [this]at hK;exact⟨hn,hK⟩
    .have h1:n=0:=by omega
     subst h1;have:val l=0:=by rw [<-ht];simp [val]
     rw [this,Wb]at hK;exact⟨by omega,hK⟩
  .simp only [go_sem,Vd,ws];refine⟨hlen,?_⟩;refine Ya (λn:Nat=>⟨mkV [(3,.one (.own 6 1 1 0 n))],mkH [(6,⟨1,some ⟨l.map wc,1,true⟩⟩)]⟩) (λn=>n<=l.length/\val (l.take n)=val l) id l.length ?_ ?_ ?_
   .first | exact ja (by simp [okS,okV,okC,okL,okH,okB,okE,Qa,va,qa,Va,wsA,ws]) (xi rfl) | (subst h0;exact ja (by simp [okS,okV,okC,okL,okH,okB,okE,Qa,va,qa,Va,wsA,ws]) (xi (l:=[]) rfl))
   .simp
   .rintro n ⟨hn,ht⟩;simp only [go_sem];refine λhm=>⟨λh=>?_,λh=>?_⟩
    .rw [show((n:Int)-1).toNat=n-1 by omega]
     refine λ_=>⟨by omega,by omega,by omega,λh0=>λ_=>⟨by omega,by omega,by omega,n-1,ja (by simp [okS,okV,okC,okL,okH,okB,okE,Qa,va,qa,Va,wsA,ws]) (xi rfl),⟨by omega,?_⟩,?_⟩,λh0=>?_⟩
     .have:=Ub l (n-1);rw [show n-1+1=n by omega,h0,Nat.mul_zero,Nat.add_zero]at this
      rw [<-this];exact ht
     .simp only [id];omega
     .have:=Qe (Zy hl n) (ZO h hn h0);rw [ht]at this;rw [this]at hK;exact⟨hn,hK⟩
    .have h1:n=0:=by omega
     subst h1;have:val l=0:=by rw [<-ht];simp [val]
     rw [this,Wb]at hK;exact⟨by omega,hK⟩
  .simp only [go_sem,Vd,ws];refine⟨by simp,?_⟩
   refine Ya (λn:Nat=>⟨mkV [(3,.one (.own 6 1 1 0 n))],mkH [(6,⟨1,some ⟨l.map wc,1,true⟩⟩)]⟩) (λn=>n<=l.length/\val (l.take n)=val l) id l.length ?_ ?_ ?_
   .first | exact ja (by simp [okS,okV,okC,okL,okH,okB,okE,Qa,va,qa,Va,wsA,ws]) (xi rfl) | (subst h0;exact ja (by simp [okS,okV,okC,okL,okH,okB,okE,Qa,va,qa,Va,wsA,ws]) (xi (l:=[]) rfl))
   .simp
   .rintro n ⟨hn,ht⟩;simp only [go_sem];refine λhm=>⟨λh=>?_,λh=>?_⟩
    .rw [show((n:Int)-1).toNat=n-1 by omega]
     refine λ_=>⟨by omega,by omega,by omega,λh0=>λ_=>⟨by omega,by omega,by omega,n-1,ja (by simp [okS,okV,okC,okL,okH,okB,okE,Qa,va,qa,Va,wsA,ws]) (xi rfl),⟨by omega,?_⟩,?_⟩,λh0=>?_⟩
     .have:=Ub l (n-1);rw [show n-1+1=n by omega,h0,Nat.mul_zero,Nat.add_zero]at this
      rw [<-this];exact ht
     .simp only [id];omega
     .have:=Qe (Zy hl n) (ZO h hn h0);rw [ht]at this;rw [this]at hK;exact⟨hn,hK⟩
    .have h1:n=0:=by omega
     subst h1;have:val l=0:=by rw [<-ht];simp [val]
     rw [this,Wb]at hK;exact⟨by omega,hK⟩
theorem kab(hΓ:Holds P Γ){f fw ft:Nat}(hw:Γ fw=.dat true zl)(ht:Γ ft=.fresh 1 Xw)(hc:check P f=some (37,(Vh fw ft).strip,[.tmp 4])):Sound P f (.dat false Vp):=by
 refine ka hc Y7 hΓ (λargs K hcl hfi hG=>?_);match args,hG with
 | [a,b],hG=>
  obtain⟨x,rfl,hx,y,rfl,hy,hxl,hyl,hK⟩:=hG;refine⟨by simp,?_⟩
  simp only [go_sem,Vh,hw,ht];intro h1 h2;refine⟨by omega,?_⟩
  generalize hN:max x.length y.length+1=N;refine Ya (λp:List Nat×Nat=>match p.1 with
    | []=>⟨mkV [(0,wsA x),(1,wsA y),(5,.one .emp),(6,.one (.lit (.int .u64 p.2))),(14,.one (.lit (.int .i64 N))),(15,.one (.lit (.int .i64 0)))],mkH []⟩
    | a::r=>⟨mkV [(0,wsA x),(1,wsA y),(5,.one (.own 31 1 1 0 (r.length+1))),(6,.one (.lit (.int .u64 p.2))),(14,.one (.lit (.int .i64 N))),(15,.one (.lit (.int .i64 (r.length+1:Nat))))],mkH [(31,⟨1,some ⟨(a::r).map wc,1,true⟩⟩)]⟩)
   (λp=>p.1.length<=N/\WL p.1/\p.2<=1/\val p.1+4294967296 ^ p.1.length*p.2=val (x.take p.1.length)+val (y.take p.1.length)) (λp=>N-p.1.length) ([],0) ?_ ?_ ?_
  .exact ja (by simp [okS,okV,okC,okL,okH,okB,okE,Qa,va,qa,Va,wsA,ws]) trivial
  .simp [xc,val]
  .rintro⟨o,c⟩ ⟨hoN,ho,hc1,hval⟩;simp only at hoN ho hc1 hval;cases o with
   | nil=>
    simp only [go_sem,hw,ht];refine⟨λhlt=>?_,λhge=>by omega⟩
    have g1:=ub hx 0;have g2:=ub hy 0;rw [Nat.mod_eq_of_lt (show x.getD 0 0+y.getD 0 0<18446744073709551616 by omega),Nat.mod_eq_of_lt (show x.getD 0 0+y.getD 0 0+c<18446744073709551616 by omega)]
    generalize hs:x.getD 0 0+y.getD 0 0+c=s;refine⟨hx,by omega,hy,by omega,by simp,by decide,by decide,([s % 4294967296],s / 4294967296),ja (by simp [okS,okV,okC,okL,okH,okB,okE,Qa,va,qa,Va,wsA,ws]) (xi (l:=[s % 4294967296]) rfl),⟨by simp;omega,Wc.2 ⟨Nat.mod_lt _ (by omega),xc⟩,by simp only;omega,?_⟩,by simp;omega⟩
    have t1:=Ub x 0;have t2:=Ub y 0;simp only [List.length_cons,List.length_nil,Nat.zero_add,List.take_zero,um,yi,Nat.pow_zero,Nat.pow_one,Nat.mul_zero]at t1 t2 hval ⊢;omega
   | cons a r=>
    simp only [go_sem,hw,ht];refine⟨λhlt=>?_,λhge=>?_⟩
    .have g1:=ub hx (r.length+1);have g2:=ub hy (r.length+1);rw [Nat.mod_eq_of_lt (show x.getD (r.length+1) 0+y.getD (r.length+1) 0<18446744073709551616 by omega),Nat.mod_eq_of_lt (show x.getD (r.length+1) 0+y.getD (r.length+1) 0+c<18446744073709551616 by omega)]
     generalize hs:x.getD (r.length+1) 0+y.getD (r.length+1) 0+c=s;refine⟨hx,hy,by simp,by omega,by decide,by omega,(a::(r++[s % 4294967296]),s / 4294967296),ja (by simp [okS,okV,okC,okL,okH,okB,okE,Qa,va,qa,Va,wsA,ws]) (Qab (l':=a::(r++[s % 4294967296])) (by simp [wc])),⟨by simp;omega,?_,by simp only;omega,?_⟩,by simp;omega⟩
     .exact Ye (a:=a::r) |>.2 ⟨ho,Wc.2 ⟨Nat.mod_lt _ (by omega),xc⟩⟩
     .have t1:=Ub x (r.length+1);have t2:=Ub y (r.length+1);have e:a::(r++[s % 4294967296])=(a::r)++[s % 4294967296]:=rfl;simp only [e,List.length_append,List.length_cons,List.length_nil,Nat.zero_add,Jc,t1,t2];simp only [List.length_cons]at hval;rw [show val [s % 4294967296]=s % 4294967296 from by simp [val],Nat.pow_succ 4294967296 (r.length+1)]
      exact Wa8 hval (by rw [Nat.mod_add_div,hs])
    .have e:r.length+1=N:=by simp only [List.length_cons]at hoN;omega
     have hv:val (a::r)=val x+val y:=by
      rw [List.length_cons,e,wk (by omega),wk (by omega)]at hval
      exact Vaq hx hy (by omega) (by omega) (by omega) hval
     refine(V5 _ (a::r)).mpr ⟨ho,by simp only [List.length_cons];omega,?_⟩
     rw [hv];exact hK
theorem YY(hΓ:Holds P Γ){f fw ft:Nat}(hw:Γ fw=.dat true zl)(ht:Γ ft=.fresh 1 Xw)(hc:check P f=some (35,(qh fw ft).strip,[.tmp 4])):Sound P f (.dat false Qt):=by
 refine ka hc Zae hΓ (λargs K hcl hfi hG=>?_);match args,hG with
 | [a,b],hG=>
  obtain⟨x,rfl,hx,y,rfl,hy,hxl,hle,hK⟩:=hG;refine⟨by simp,?_⟩
  simp only [go_sem,qh,hw,ht];intro h1;generalize hN:x.length=N at *
  refine Ya (λp:List Nat×Nat=>match p.1 with
    | []=>⟨mkV [(0,wsA x),(1,wsA y),(5,.one .emp),(6,.one (.lit (.int .u64 p.2))),(10,.one (.lit (.int .i64 N))),(11,.one (.lit (.int .i64 0)))],mkH []⟩
    | a::r=>⟨mkV [(0,wsA x),(1,wsA y),(5,.one (.own 28 1 1 0 (r.length+1))),(6,.one (.lit (.int .u64 p.2))),(10,.one (.lit (.int .i64 N))),(11,.one (.lit (.int .i64 (r.length+1:Nat))))],mkH [(28,⟨1,some ⟨(a::r).map wc,1,true⟩⟩)]⟩)
   (λp=>p.1.length<=N/\WL p.1/\p.2<=1/\val p.1+val (y.take p.1.length)=val (x.take p.1.length)+4294967296 ^ p.1.length*p.2) (λp=>N-p.1.length) ([],0) ?_ ?_ ?_
  .exact ja (by simp [okS,okV,okC,okL,okH,okB,okE,Qa,va,qa,Va,wsA,ws]) trivial
  .simp [xc,val]
  .rintro⟨o,c⟩ ⟨hoN,ho,hc1,hval⟩;simp only at hoN ho hc1 hval;cases o with
   | nil=>
    have g1:=ub hx 0;have g2:=ub hy 0;obtain⟨s,e1,e2,e3,e4⟩:=JX g1 g2 hc1;simp only [go_sem,hw,ht,e1,e2];refine⟨λhlt=>?_,λhge=>?_⟩
    .refine⟨hx,by omega,hy,by omega,by simp,⟨by omega,by decide⟩,by decide,([s % 4294967296],1-s / 4294967296),ja (by simp [okS,okV,okC,okL,okH,okB,okE,Qa,va,qa,Va,wsA,ws,e2]) (Qab (l':=[s % 4294967296]) (by simp [wc])),⟨by simp;omega,Wc.2 ⟨Nat.mod_lt _ (by omega),xc⟩,e4,?_⟩,by simp;omega⟩
     have t1:=Ub x 0;have t2:=Ub y 0;simp only [List.length_cons,List.length_nil,Nat.zero_add,List.take_zero,um,yi,Nat.pow_zero,Nat.pow_one,Nat.mul_zero]at t1 t2 hval ⊢;omega
    .have hx0:x=[]:=List.eq_nil_of_length_eq_zero (by omega)
     have:val x-val y=val []:=by rw [hx0];simp [val]
     rw [<-this];exact hK
   | cons a r=>
    have g1:=ub hx (r.length+1);have g2:=ub hy (r.length+1);obtain⟨s,e1,e2,e3,e4⟩:=JX g1 g2 hc1;simp only [go_sem,hw,ht,e1,e2];refine⟨λhlt=>?_,λhge=>?_⟩
    .refine⟨hx,hy,by simp,by omega,⟨by omega,by decide⟩,by omega,(a::(r++[s % 4294967296]),1-s / 4294967296),ja (by simp [okS,okV,okC,okL,okH,okB,okE,Qa,va,qa,Va,wsA,ws,e2]) (Qab (l':=a::(r++[s % 4294967296])) (by simp [wc])),⟨by simp;omega,?_,e4,?_⟩,by simp;omega⟩
     .exact Ye (a:=a::r) |>.2 ⟨ho,Wc.2 ⟨Nat.mod_lt _ (by omega),xc⟩⟩
     .have e:a::(r++[s % 4294967296])=(a::r)++[s % 4294967296]:=rfl;simp only [List.length_cons]at hval;simp only [e,List.length_append,List.length_cons,List.length_nil,Nat.zero_add,Ub x (r.length+1),Ub y (r.length+1),Jc,yi (s % 4294967296),um,Nat.mul_zero,Nat.add_zero,Nat.pow_succ 4294967296 (r.length+1)];exact xI hval e3
    .have e:(a::r).length=N:=by simp only [List.length_cons]at hoN ⊢;omega
     have hv:=uI ho hx (by omega) hle hval
     refine(V5 _ (a::r)).mpr ⟨ho,by omega,?_⟩
     rw [hv];exact hK
theorem Uak(hΓ:Holds P Γ){f fw:Nat}(hw:Γ fw=.dat true zl)(hc:check P f=some (30,(jf fw).strip,[.tmp 4])):Sound P f (.dat true Xt):=by
 refine ka hc kaF hΓ (λargs K hcl hfi hG=>?_);match args,hG with
 | [a,b],hG=>
  obtain⟨x,rfl,hx,y,rfl,hy,hK⟩:=hG;refine⟨by simp,?_⟩
  simp only [go_sem,jf,hw];intro h1 h2;refine⟨⟨by omega,by omega⟩,?_⟩
  refine Ya (λn:Nat=>⟨mkV [(0,wsA x),(1,wsA y),(5,.one (.lit (.int .i64 ((n:Int)-1))))],mkH []⟩) (λn=>n<=max x.length y.length/\val (x.drop n)=val (y.drop n)) id (max x.length y.length) ?_ ?_ ?_
  .exact ja (by simp [okS,okV,okC,okL,okH,okB,okE,Qa,va,qa,Va,wsA,ws]) trivial
  .refine⟨Nat.le_refl _,?_⟩;rw [List.drop_of_length_le (by omega),List.drop_of_length_le (by omega)]
  .rintro n ⟨hn,hd⟩;simp only [go_sem,hw];refine⟨λh=>?_,λh=>?_⟩
   .have e:((n:Int)-1).toNat=n-1:=by omega
    have e1:=JC x (n-1);have e2:=JC y (n-1);have e3:n-1+1=n:=by omega
    rw [e3]at e1 e2;rw [e];refine⟨hx,h,hy,h,λhe=>⟨by omega,n-1,ja (by simp [okS,okV,okC,okL,okH,okB,okE,Qa,va,qa,Va,wsA,ws];omega) trivial,⟨by omega,by rw [e1,e2,hd,he]⟩,by simp only [id];omega⟩,λhe=>⟨hx,h,hy,h,λhlt=>?_,λhge=>?_⟩⟩
    .rw [jX (ybf hx (by rw [e3];exact hd) hlt)]at hK;exact hK
    .rw [qal (ybf (m:=n-1) hy (by rw [e3];exact hd.symm) (by omega))]at hK;exact hK
   .have:n=0:=by omega
    subst this;have:val x=val y:=hd;rw [this,Ua6]at hK;exact hK
theorem vad(hΓ:Holds P Γ){f:Nat}(hc:check P f=some (25,xh.strip,[.tmp 2])):Sound P f (.dat true Xr):=by
 refine ka hc Qaj hΓ (λargs K hcl hfi hG=>?_);match args,hG with
 | [a],hG=>
  obtain⟨x,rfl,hx,hxl,hK⟩:=hG;refine⟨by simp,?_⟩
  simp only [go_sem,xh];intro h1;refine⟨λh=>?_,λh _=>⟨by omega,by omega,λ_=>⟨by omega,by omega,by omega,?_⟩⟩⟩
  .rw [if_pos h]at hK;exact hK
  rw [if_neg h]at hK;have e:((x.length:Int)-1).toNat=x.length-1:=by omega
  rw [e];have hb:=ub hx (x.length-1);generalize x.getD (x.length-1) 0=w at *
  have hb32:bln w<=32:=ybk (by omega)
  refine Ya (λp:Nat×Nat=>⟨mkV [(3,.one (.lit (.int .i64 (32*((x.length:Int)-1)+p.1)))),(4,.one (.lit (.int .u32 p.2)))],mkH []⟩) (λp=>p.2<4294967296/\p.1+bln p.2=bln w) (λp=>p.2) (0,w) ?_ ?_ ?_
  .exact ja (by simp [okS,okV,okC,okL,okH,okB,okE,Qa,va,qa,Va,wsA,ws]) trivial
  .exact⟨hb,by simp⟩
  .rintro⟨i,m⟩ ⟨hm,hi⟩;simp only at hm hi;simp only [go_sem];refine⟨λh=>?_,λh=>?_⟩
   .have e:=xag (n:=m) (by omega)
    refine⟨by omega,by decide,(i+1,m / 2),ja (by simp [okS,okV,okC,okL,okH,okB,okE,Qa,va,qa,Va,wsA,ws];omega) trivial,⟨by simp only;omega,by simp only;omega⟩,by simp only;omega⟩
   .have:m=0:=by omega
    subst this;rw [VI]at hi;have e:(32*((x.length:Int)-1)+(i:Int))=((32*(x.length-1)+bln w:Nat):Int):=by omega
    rw [e];exact hK
end Go.Abs
end
section
namespace Go.Abs
open Go.Num
variable {P:Program} {Γ:Nat->Spec}
def vj:AC:=(.seq (.ops false [.m 2 (.c (.one .emp))])
 (.fg [0] (.seq (.block 0 (.loop (.seq (.seq (.ops false [.m 3 (.t 0),.u 4 (.len (.t 3)),.u 5 (.bin .gtr (.t 4) (.i 0)),.m 6 (.t 5),.w 7 6 true (.mv (.t 0)),.w 8 6 true (.mv (.t 0)),.w 9 6 true (.len (.t 8)),.w 10 6 true (.bin .sub (.t 9) (.i 1)),.w 11 6 true (.idx 1 (.t 7) (.t 10)),.w 12 6 true (.ld none 1 false (.t 11)),.w 13 6 true (.bin .eql (.t 12) (.c (.one (.lit (.int .u32 0))))),.u 14 (.pick (.t 6) (.t 13) .fa)])
 (.fg [0,14] (.cond (.t 14) .skip (.exit 0))))
 (.fg [0] (.block 1 (.ops false [.m 15 (.t 0),.m 16 (.t 0),.u 17 (.len (.t 16)),.u 18 (.bin .sub (.t 17) (.i 1)),.u 19 (.sl 1 (.t 15) none (some (.t 18))),.m 0 (.t 19)]))))))
 (.fg [0] (.seq (.ops false [.m 20 (.t 0),.m 2 (.t 20)])
 .ret)))))
def Yg(f0 f1:Nat):AC:=(.seq (.ops false [.m 2 (.c (.one .emp))])
 (.fg [0] (.seq (.seq (.ops false [.m 4 (.t 0),.u 5 (.len (.t 4)),.m 6 (.i 0)])
 (.fg [0,5,6] (.block 0 (.loop (.seq (.ops false [.u 7 (.bin .lss (.t 6) (.t 5))])
 (.fg [0,5,6,7] (.seq (.cond (.t 7) .skip (.exit 0))
 (.fg [0,5,6] (.seq (.block 1 (.seq (.ops false [.m 8 (.t 6),.m 3 (.t 8)])
 (.fg [0,3,5,6] (.ops false [.m 9 (.t 0),.m 10 (.t 3),.m 11 (.t 0),.m 12 (.t 3),.u 13 (.call f0 [(.t 11),(.t 12)]),.u 14 (.bin .shr (.t 13) (.c (.one (.lit (.int .u64 1))))),.m 15 (.t 0),.m 16 (.t 3),.u 17 (.bin .add (.t 16) (.i 1)),.u 18 (.call f0 [(.t 15),(.t 17)]),.u 19 (.bin .shl (.t 18) (.c (.one (.lit (.int .u64 31))))),.u 20 (.bin .or (.t 14) (.t 19)),.u 21 (.conv .u32 (.t 20)),.u 22 (.idx 1 (.t 9) (.t 10)),.n (.st none 1 (.t 22) (.t 21))]))))
 (.fg [0,5,6] (.ops false [.u 23 (.bin .add (.t 6) (.i 1)),.m 6 (.t 23)])))))))))))
 (.fg [0] (.seq (.ops false [.m 24 (.t 0),.u 25 (.call f1 [(.t 24)]),.m 2 (.t 25)])
 .ret)))))
def ye(f0:Nat):AC:=(.seq (.ops false [.m 4 (.c (.one (.lit (.int .u64 0))))])
 (.fg [0,1,4] (.seq (.ops false [.m 7 (.t 0),.u 8 (.len (.t 7)),.m 9 (.i 0)])
 (.fg [0,1,4,8,9] (.block 0 (.loop (.seq (.ops false [.u 10 (.bin .lss (.t 9) (.t 8))])
 (.fg [0,1,4,8,9,10] (.seq (.cond (.t 10) .skip (.exit 0))
 (.fg [0,1,4,8,9] (.seq (.block 1 (.seq (.ops false [.m 11 (.t 9),.m 5 (.t 11)])
 (.fg [0,1,4,5,8,9] (.seq (.ops false [.m 12 (.t 0),.m 13 (.t 5),.u 14 (.call f0 [(.t 12),(.t 13)]),.u 15 (.bin .add (.c (.one (.lit (.int .u64 4294967296)))) (.t 14)),.m 16 (.t 1),.m 17 (.t 5),.u 18 (.call f0 [(.t 16),(.t 17)]),.u 19 (.bin .sub (.t 15) (.t 18)),.m 20 (.t 4),.u 21 (.bin .sub (.t 19) (.t 20)),.m 6 (.t 21)])
 (.fg [0,1,5,6,8,9] (.ops false [.m 22 (.t 0),.m 23 (.t 5),.m 24 (.t 6),.u 25 (.conv .u32 (.t 24)),.m 26 (.t 6),.u 27 (.bin .shr (.t 26) (.c (.one (.lit (.int .u64 32))))),.u 28 (.bin .sub (.c (.one (.lit (.int .u64 1)))) (.t 27)),.u 29 (.idx 1 (.t 22) (.t 23)),.n (.st none 1 (.t 29) (.t 25)),.m 4 (.t 28)]))))))
 (.fg [0,1,4,8,9] (.ops false [.u 30 (.bin .add (.t 9) (.i 1)),.m 9 (.t 30)])))))))))))))
theorem Ua2(hΓ:Holds P Γ){f:Nat}(hc:check P f=some (21,vj.strip,[.tmp 2])):Sound P f (.own Y0):=by
 refine Qg hc hΓ (λd args h K hG=>?_);unfold Y0 at hG;split at hG
 case h_2=>exact hG.elim
 rename_i r ver len;obtain⟨l,post,rfl,hr,hl,hll,hK⟩:=hG;refine⟨[r],[⟨(l++post).map wc,1,true⟩],[.one (.own 1048576 ver 1 0 l.length)],by simp,rfl,?_,?_,?_,λhfi=>⟨by simp,?_⟩⟩
 .intro i r' b h1 h2;cases i with
  | zero=>simp only [List.getElem?_cons_zero,Option.some.injEq]at h1 h2;subst h1 h2;exact⟨by rw [hr],rfl,of_eq_true (je _)⟩
  | succ i=>simp at h1
 .simp [exA,exC,exB,nameOf,pinA,wsA,ws]
 .intro a ha;simp only [List.mem_cons,List.not_mem_nil,or_false]at ha;subst ha;simp [pasA,pasC,pasB,nameOf,pinA]
 simp only [go_sem,vj,hr];refine Ya (λn:Nat=>⟨mkV [(0,.one (.own 1048576 ver 1 0 n))],mkH [(1048576,⟨ver,some ⟨(l++post).map wc,1,true⟩⟩)]⟩)
  (λn=>n<=l.length/\val (l.take n)=val l) id l.length ?_ ?_ ?_
 .exact ja (by simp [okS,okV,okC,okL,okH,okB,okE,Qa,va,qa,Va,wsA,ws]) (xi (by simp))
 .simp
 .rintro n ⟨hn,ht⟩;simp only [go_sem,hr];rw [show((n:Int)-1).toNat=n-1 by omega]
  refine λ_=>⟨λh=>λ_=>⟨by omega,by omega,by simp;omega,?_,?_⟩,λh=>?_⟩
  .rw [qa4 (by omega)]
   refine λh0 _=>⟨by omega,by omega,by omega,n-1,ja (by simp [okS,okV,okC,okL,okH,okB,okE,Qa,va,qa,Va,wsA,ws]) (xi rfl),⟨by omega,?_⟩,by simp only [id];omega⟩
   have:=Ub l (n-1);rw [show n-1+1=n by omega,h0,Nat.mul_zero,Nat.add_zero]at this
   rw [<-this];exact ht
  .rw [qa4 (by omega)]
   intro h0;have:=Qe (Zy hl n) (ZO h hn h0);rw [ht]at this;have h2:=hK (l.drop n++post);rw [this,List.length_take,Nat.min_eq_left hn,<-List.append_assoc,List.take_append_drop]at h2;exact h2
  .have h1:n=0:=by omega
   subst h1;have:val l=0:=by rw [<-ht];simp [val]
   have h2:=hK (l++post);rw [this,Wb]at h2;exact h2
theorem kah(hΓ:Holds P Γ){f fw fc:Nat}(hw:Γ fw=.dat true zl)(hc' : Γ fc=.own Y0)(hc:check P f=some (26,(Yg fw fc).strip,[.tmp 2])):Sound P f (.own xo):=by
 refine Qg hc hΓ (λd args h K hG=>?_);unfold xo at hG;split at hG
 case h_2=>exact hG.elim
 rename_i r ver len;obtain⟨l,post,rfl,hr,hl,hll,hK⟩:=hG;refine⟨[r],[⟨(l++post).map wc,1,true⟩],[.one (.own 1048576 ver 1 0 l.length)],by simp,rfl,?_,?_,?_,λhfi=>⟨by simp,?_⟩⟩
 .intro i r' b h1 h2;cases i with
  | zero=>simp only [List.getElem?_cons_zero,Option.some.injEq]at h1 h2;subst h1 h2;exact⟨by rw [hr],rfl,of_eq_true (je _)⟩
  | succ i=>simp at h1
 .simp [exA,exC,exB,nameOf,pinA,wsA,ws]
 .intro a ha;simp only [List.mem_cons,List.not_mem_nil,or_false]at ha;subst ha;simp [pasA,pasC,pasB,nameOf,pinA]
 simp only [go_sem,Yg,hr];intro h1;refine Ya (λo:List Nat=>⟨mkV [(0,.one (.own 1048576 ver 1 0 l.length)),(5,.one (.lit (.int .i64 l.length))),(6,.one (.lit (.int .i64 o.length)))],mkH [(1048576,⟨ver,some ⟨(o++(l.drop o.length++post)).map wc,1,true⟩⟩)]⟩)
  (λo=>o.length<=l.length/\WL o/\val o=val l / 2 % 4294967296 ^ o.length) (λo=>l.length-o.length) [] ?_ ?_ ?_
 .exact ja (by simp [okS,okV,okC,okL,okH,okB,okE,Qa,va,qa,Va,wsA,ws]) (xi (by simp))
 .simp [xc,val];omega
 .rintro o ⟨hoN,ho,hval⟩;have hw2:=kbs ho hl;simp only [go_sem,hr,hw,hc',UaM hoN,wai hoN,Nat.le_add_right,Qan,qZ];refine⟨λhlt=>⟨hw2,by decide,by omega,hw2,by decide,⟨rfl,by have:=ub hl o.length;omega,by omega⟩,hlt,by omega,by omega,?_⟩,λhge=>?_⟩
  .have hd:=xbc (ub hl o.length) (ub hl (o.length+1));rw [jae hl (by omega),Nat.pow_one]at hd
   rw [hd,Xaq _ hlt];generalize hv:val l / 2 / 4294967296 ^ o.length % 4294967296=v;have hvB:v<4294967296:=by rw [<-hv];exact Nat.mod_lt _ (by omega)
   refine⟨o++[v],ja (by simp [okS,okV,okC,okL,okH,okB,okE,Qa,va,qa,Va,wsA,ws]) (xi rfl),⟨by simp;omega,Ye.2 ⟨ho,Wc.2 ⟨hvB,xc⟩⟩,?_⟩,by simp;omega⟩
   rw [Jc,List.length_append,List.length_singleton,UH,hv,<-hval];simp [val]
  .have e:o.length=l.length:=by omega
   have hlt:val l / 2<4294967296 ^ l.length:=Nat.lt_of_le_of_lt (Nat.div_le_self _ _) (Ul hl);rw [e,Nat.mod_eq_of_lt hlt]at hval;rw [List.drop_of_length_le (by omega),List.nil_append,<-e]
   refine⟨o,post,rfl,by simp [qa],ho,by omega,λpost'=>?_⟩
   simp only [go_sem];rw [hval];exact hK post'
theorem xaC(hΓ:Holds P Γ){f fw:Nat}(hw:Γ fw=.dat true zl)(hc:check P f=some (31,(ye fw).strip,[])):Sound P f (.own Uw):=by
 refine Qg hc hΓ (λd args h K hG=>?_);unfold Uw at hG;split at hG
 case h_3=>exact hG.elim
 case h_2=>
  rename_i r ver len b _;obtain⟨y,rfl,hy,l,post,rfl,hr,hl,hll,hle,hK⟩:=hG;refine⟨[r],[⟨(l++post).map wc,1,true⟩],[.one (.own 1048576 ver 1 0 l.length),wsA y],by simp,rfl,?_,?_,?_,λhfi=>⟨by simp,?_⟩⟩
  .intro i r' b h1 h2;cases i with
   | zero=>simp only [List.getElem?_cons_zero,Option.some.injEq]at h1 h2;subst h1 h2;exact⟨by rw [hr],rfl,of_eq_true (je _)⟩
   | succ i=>simp at h1
  .simp [exA,exC,exB,nameOf,pinA,wsA,ws]
  .intro a ha;simp only [List.mem_cons,List.not_mem_nil,or_false]at ha;rcases ha with rfl | rfl
   .simp [pasA,pasC,pasB,nameOf,pinA]
   .exact .slice _ (of_eq_true (je _))
  simp only [go_sem,ye,hr];intro h1;refine Ya (λp:List Nat×Nat=>⟨mkV [(0,.one (.own 1048576 ver 1 0 l.length)),(1,wsA y),(4,.one (.lit (.int .u64 p.2))),(8,.one (.lit (.int .i64 l.length))),(9,.one (.lit (.int .i64 p.1.length)))],
    mkH [(1048576,⟨ver,some ⟨(p.1++(l.drop p.1.length++post)).map wc,1,true⟩⟩)]⟩)
   (λp=>p.1.length<=l.length/\WL p.1/\p.2<=1/\val p.1+val (y.take p.1.length)=val (l.take p.1.length)+4294967296 ^ p.1.length*p.2) (λp=>l.length-p.1.length) ([],0) ?_ ?_ ?_
  .exact ja (by simp [okS,okV,okC,okL,okH,okB,okE,Qa,va,qa,Va,wsA,ws]) (xi (by simp))
  .simp [xc,val]
  .rintro⟨o,c⟩ ⟨hoN,ho,hc1,hval⟩;simp only at hoN ho hc1 hval;have hw2:=kbs ho hl;simp only [go_sem,hr,hw,UaM hoN,wai hoN,Nat.le_add_right,Qan,qZ];refine⟨λhlt=>?_,λhge=>?_⟩
   .obtain⟨s,e1,e2,e3,e4⟩:=JX (ub hl o.length) (ub hy o.length) hc1;simp only [e1,e2,yaL,Xaq _ hlt];refine⟨hw2,hy,⟨by omega,by decide,by decide⟩,hlt,by omega,by omega,(o++[s % 4294967296],1-s / 4294967296),ja (by simp [okS,okV,okC,okL,okH,okB,okE,Qa,va,qa,Va,wsA,ws,e2]) (by first | exact Qab rfl | exact⟨uaL rfl,Jb rfl,trivial⟩),⟨by simp;omega,Ye.2 ⟨ho,Wc.2 ⟨Nat.mod_lt _ (by omega),xc⟩⟩,e4,?_⟩,by simp;omega⟩
    simp only [List.length_append,List.length_cons,List.length_nil,Nat.zero_add,Ub,Jc,yi,um,Nat.mul_zero,Nat.add_zero,Nat.pow_succ];exact xI hval e3
   .have e:o.length=l.length:=by omega
    have hv:=uI ho hl e hle hval;have hd:=YD ho;rw [hv,e]at hd;rw [hd]at hK;rw [List.drop_of_length_le (by omega),List.nil_append]
    exact hK
 case h_1=>
  rename_i r ver len r2 ver2 len2;obtain⟨l,post,y,posty,hne,rfl,hr,hl,hll,rfl,hr2,hy,hle,hK⟩:=hG;refine⟨[r,r2],[⟨(l++post).map wc,1,true⟩,⟨(y++posty).map wc,1,true⟩],[.one (.own 1048576 ver 1 0 l.length),.one (.own 1048577 ver2 1 0 y.length)],by simp [hne],rfl,?_,?_,?_,λhfi=>⟨by simp,?_⟩⟩
  .intro i r' b h1 h2;cases i with
   | zero=>simp only [List.getElem?_cons_zero,Option.some.injEq]at h1 h2;subst h1 h2;exact⟨by rw [hr],rfl,of_eq_true (je _)⟩
   | succ i=>
    cases i with
    | zero=>simp only [List.getElem?_cons_zero,List.getElem?_cons_succ,Option.some.injEq]at h1 h2;subst h1 h2;exact⟨by rw [hr2],rfl,of_eq_true (je _)⟩
    | succ i=>simp at h1
  .simp [exA,exC,exB,nameOf,pinA,wsA,ws]
  .intro a ha;simp only [List.mem_cons,List.not_mem_nil,or_false]at ha;rcases ha with rfl | rfl
   .simp [pasA,pasC,pasB,nameOf,pinA]
   .simp [pasA,pasC,pasB,nameOf,pinA]
  simp only [go_sem,ye,hr,hr2];intro h1;refine Ya (λp:List Nat×Nat=>⟨mkV [(0,.one (.own 1048576 ver 1 0 l.length)),(1,.one (.own 1048577 ver2 1 0 y.length)),(4,.one (.lit (.int .u64 p.2))),(8,.one (.lit (.int .i64 l.length))),(9,.one (.lit (.int .i64 p.1.length)))],
    mkH [(1048576,⟨ver,some ⟨(p.1++(l.drop p.1.length++post)).map wc,1,true⟩⟩),(1048577,⟨ver2,some ⟨(y++posty).map wc,1,true⟩⟩)]⟩)
   (λp=>p.1.length<=l.length/\WL p.1/\p.2<=1/\val p.1+val (y.take p.1.length)=val (l.take p.1.length)+4294967296 ^ p.1.length*p.2) (λp=>l.length-p.1.length) ([],0) ?_ ?_ ?_
  .exact ja (by simp [okS,okV,okC,okL,okH,okB,okE,Qa,va,qa,Va,wsA,ws]) ⟨Jb (by simp),Jb rfl,trivial⟩
  .simp [xc,val]
  .rintro⟨o,c⟩ ⟨hoN,ho,hc1,hval⟩;simp only at hoN ho hc1 hval;have hw2:=kbs ho hl;simp only [go_sem,hr,hr2,hw,UaM hoN,wai hoN,Nat.le_add_right,Qan,qZ,List.length_append,List.take_left];refine⟨λhlt=>?_,λhge=>?_⟩
   .obtain⟨s,e1,e2,e3,e4⟩:=JX (ub hl o.length) (ub hy o.length) hc1;simp only [e1,e2,yaL,Xaq _ hlt];refine⟨hw2,hy,⟨by omega,by decide,by decide⟩,hlt,by omega,by omega,(o++[s % 4294967296],1-s / 4294967296),ja (by simp [okS,okV,okC,okL,okH,okB,okE,Qa,va,qa,Va,wsA,ws,e2]) (by first | exact Qab rfl | exact⟨uaL rfl,Jb rfl,trivial⟩),⟨by simp;omega,Ye.2 ⟨ho,Wc.2 ⟨Nat.mod_lt _ (by omega),xc⟩⟩,e4,?_⟩,by simp;omega⟩
    simp only [List.length_append,List.length_cons,List.length_nil,Nat.zero_add,Ub,Jc,yi,um,Nat.mul_zero,Nat.add_zero,Nat.pow_succ];exact xI hval e3
   .have e:o.length=l.length:=by omega
    have hv:=uI ho hl e hle hval;have hd:=YD ho;rw [hv,e]at hd;rw [hd]at hK;rw [List.drop_of_length_le (by omega),List.nil_append]
    exact hK
end Go.Abs
end
section
namespace Go.Abs
open Go.Num
variable {P:Program} {Γ:Nat->Spec}
def Jj(f0 f1 f2 f3 f4 f5:Nat):AC:=(.seq (.ops false [.m 4 (.c (.one .emp))])
 (.fg [0,1] (.seq (.ops false [.m 6 (.t 0),.u 7 (.callf f0 [(.t 6)]),.m 8 (.t 1),.u 9 (.callf f0 [(.t 8)]),.m 0 (.t 7),.m 1 (.t 9)])
 (.fg [0,1] (.seq (.seq (.ops false [.m 10 (.t 0),.u 11 (.len (.t 10)),.u 12 (.bin .eql (.t 11) (.i 0))])
 (.fg [0,1,12] (.cond (.t 12) (.seq (.ops false [.m 13 (.t 1),.m 4 (.t 13)])
 .ret) .skip)))
 (.fg [0,1] (.seq (.seq (.ops false [.m 14 (.t 1),.u 15 (.len (.t 14)),.u 16 (.bin .eql (.t 15) (.i 0))])
 (.fg [0,1,16] (.cond (.t 16) (.seq (.ops false [.m 17 (.t 0),.m 4 (.t 17)])
 .ret) .skip)))
 (.fg [0,1] (.seq (.ops false [.m 5 (.i 0)])
 (.fg [0,1,5] (.seq (.block 0 (.loop (.seq (.seq (.ops false [.m 18 (.t 0),.u 19 (.idx 1 (.t 18) (.i 0)),.u 20 (.ld none 1 false (.t 19)),.u 21 (.bin .and (.t 20) (.c (.one (.lit (.int .u32 1))))),.u 22 (.bin .eql (.t 21) (.c (.one (.lit (.int .u32 0))))),.m 23 (.t 22),.w 24 23 true (.mv (.t 1)),.w 25 23 true (.idx 1 (.t 24) (.i 0)),.w 26 23 true (.ld none 1 false (.t 25)),.w 27 23 true (.bin .and (.t 26) (.c (.one (.lit (.int .u32 1))))),.w 28 23 true (.bin .eql (.t 27) (.c (.one (.lit (.int .u32 0))))),.u 29 (.pick (.t 23) (.t 28) .fa)])
 (.fg [0,1,5,29] (.cond (.t 29) .skip (.exit 0))))
 (.fg [0,1,5] (.block 1 (.seq (.ops false [.m 30 (.t 0),.u 31 (.call f1 [(.t 30)]),.m 32 (.t 1),.u 33 (.call f1 [(.t 32)]),.m 0 (.t 31),.m 1 (.t 33)])
 (.fg [0,1,5] (.ops false [.m 34 (.t 5),.u 35 (.bin .add (.t 34) (.i 1)),.m 5 (.t 35)]))))))))
 (.fg [0,1,5] (.seq (.block 2 (.loop (.seq (.seq (.ops false [.m 36 (.t 0),.u 37 (.len (.t 36)),.u 38 (.bin .gtr (.t 37) (.i 0))])
 (.fg [0,1,5,38] (.cond (.t 38) .skip (.exit 2))))
 (.fg [0,1,5] (.block 3 (.seq (.block 4 (.loop (.seq (.seq (.ops false [.m 39 (.t 0),.u 40 (.idx 1 (.t 39) (.i 0)),.u 41 (.ld none 1 false (.t 40)),.u 42 (.bin .and (.t 41) (.c (.one (.lit (.int .u32 1))))),.u 43 (.bin .eql (.t 42) (.c (.one (.lit (.int .u32 0)))))])
 (.fg [0,1,5,43] (.cond (.t 43) .skip (.exit 4))))
 (.fg [0,1,5] (.block 5 (.ops false [.m 44 (.t 0),.u 45 (.call f1 [(.t 44)]),.m 0 (.t 45)]))))))
 (.fg [0,1,5] (.seq (.block 6 (.loop (.seq (.seq (.ops false [.m 46 (.t 1),.u 47 (.idx 1 (.t 46) (.i 0)),.u 48 (.ld none 1 false (.t 47)),.u 49 (.bin .and (.t 48) (.c (.one (.lit (.int .u32 1))))),.u 50 (.bin .eql (.t 49) (.c (.one (.lit (.int .u32 0)))))])
 (.fg [0,1,5,50] (.cond (.t 50) .skip (.exit 6))))
 (.fg [0,1,5] (.block 7 (.ops false [.m 51 (.t 1),.u 52 (.call f1 [(.t 51)]),.m 1 (.t 52)]))))))
 (.fg [0,1,5] (.seq (.seq (.ops false [.m 53 (.t 0),.m 54 (.t 1),.u 55 (.call f2 [(.t 53),(.t 54)]),.u 56 (.bin .lss (.t 55) (.i 0))])
 (.fg [0,1,5,56] (.cond (.t 56) (.ops false [.m 57 (.t 1),.m 58 (.t 0),.m 0 (.t 57),.m 1 (.t 58)]) .skip)))
 (.fg [0,1,5] (.seq (.ops false [.m 59 (.t 0),.m 60 (.t 1),.u 61 (.call f3 [(.t 59),(.t 60)])])
 (.fg [0,1,5] (.ops false [.m 62 (.t 0),.u 63 (.call f4 [(.t 62)]),.m 0 (.t 63)]))))))))))))))
 (.fg [1,5] (.seq (.seq (.ops false [.m 64 (.t 5),.m 65 (.i 0)])
 (.fg [1,64,65] (.fz [1] (.block 8 (.loop (.seq (.ops false [.u 66 (.bin .lss (.t 65) (.t 64))])
 (.fg [1,64,65,66] (.seq (.cond (.t 66) .skip (.exit 8))
 (.fg [1,64,65] (.seq (.block 9 (.ops false [.m 67 (.t 1),.m 68 (.t 1),.u 69 (.call f5 [(.t 67),(.t 68)]),.m 1 (.t 69)]))
 (.fg [1,64,65] (.ops false [.u 70 (.bin .add (.t 65) (.i 1)),.m 65 (.t 70)]))))))))))))
 (.fg [1] (.seq (.ops false [.m 71 (.t 1),.m 4 (.t 71)])
 .ret)))))))))))))))))
theorem uaj(hΓ:Holds P Γ){f ft fh fc fk fu fp:Nat}(ht:Γ ft=.fresh 1 Xw)(hh:Γ fh=.own xo)(hcm:Γ fc=.dat true Xt)(hk:Γ fk=.own Uw)(hu:Γ fu=.own Y0)(hp:Γ fp=.dat false Vp)
    (hc:check P f=some (72,(Jj ft fh fc fk fu fp).strip,[.tmp 4])):Sound P f (.dat false Vx):=by
  refine ka hc VaD hΓ (λargs K hcl hfi hG=>?_);match args,hG with
  | [a,b],hG=>
    obtain⟨x,rfl,hx,y,rfl,hy,hxl,hyl,hK⟩:=hG;refine⟨by simp,?_⟩
    simp only [go_sem,Jj,ht,hh,hcm,hk,hu,hp];have hxv:=Vy (Ul hx);have hyv:=Vy (Ul hy);refine⟨hx,by omega,hy,by omega,λ_=>⟨λh0=>?_,λh0 _=>⟨λh1=>?_,λh1=>?_⟩⟩⟩
    . rw [xw.1 h0,Nat.gcd_zero_left]at hK;exact hK
    . rw [xw.1 h1,Nat.gcd_zero_right]at hK;exact hK
    rw [xw]at h0 h1;refine Ya (λp:(Nat×List Nat)×(Nat×List Nat)×Nat=>⟨mkV [(0,.one (.own 7 1 1 0 (digs p.1.1).length)),(1,.one (.own 9 1 1 0 (digs p.2.1.1).length)),(5,.one (.lit (.int .i64 p.2.2)))],mkH [(7,⟨1,some ⟨(digs p.1.1++p.1.2).map wc,1,true⟩⟩),(9,⟨1,some ⟨(digs p.2.1.1++p.2.1.2).map wc,1,true⟩⟩)]⟩)
      (λp=>p.1.1≠0/\p.2.1.1≠0/\p.1.1<=val x/\p.2.1.1<=val y/\p.1.1*2 ^ p.2.2<=val x/\Nat.gcd p.1.1 p.2.1.1*2 ^ p.2.2=Nat.gcd (val x) (val y)) (λp=>p.1.1) ((val x,[]),(val y,[]),0) ?_ ?_ ?_
    . exact ja (by simp [okS,okV,okC,okL,okH,okB,okE,Qa,va,qa,Va,wsA,ws]) ⟨Jb (by simp),Jb (by simp),trivial⟩
    . exact⟨h0,h1,Nat.le_refl _,Nat.le_refl _,by simp,by simp⟩
    . rintro⟨⟨a,pa⟩,⟨b,pb⟩,k⟩ ⟨ha,hb,hax,hby,hak,hg⟩
      simp only at ha hb hax hby hak hg;have hkb:k<32*x.length:=wbl (n:=val x) (Nat.le_trans (Nat.le_mul_of_pos_left _ (by omega)) hak) (Ul hx)
      have hal:=Nat.le_trans (ua hax) hxv;have hbl:=Nat.le_trans (ua hby) hyv;have hap:=Zl ha;have hbp:=Zl hb;simp only [go_sem,hh,hcm,hk,hu,hp,Qm,yw ha,yw hb,hap,hbp,List.length_append];refine share4 (by omega) (by omega) (Nat.mod_lt _ (by omega)) (by omega) (by omega) (Nat.mod_lt _ (by omega)) (λhae hbe=>?_) (λhodd=>?_)
      . simp only [xo]
        refine⟨digs a,pa,rfl,by simp [qa],Ua _,by omega,λpa'=>?_⟩
        refine⟨digs b,pb,rfl,by simp [upd,qa],Ua _,by omega,λpb'=>?_⟩
        simp only [go_sem,Zb];refine⟨by omega,((a / 2,pa'),(b / 2,pb'),k+1),ja (by simp [okS,okV,okC,okL,okH,okB,okE,Qa,va,qa,Va,wsA,ws]) ⟨Jb rfl,Jb rfl,trivial⟩,⟨by simp only;omega,by simp only;omega,by simp only;omega,by simp only;omega,?_,XbF (by omega) (by omega) hg⟩,by simp only;omega⟩
        simp only;refine Nat.le_trans ?_ hak;rw [Nat.pow_succ,Nat.mul_comm (2 ^ k) 2,<-Nat.mul_assoc];exact Nat.mul_le_mul_right _ (by omega)
      . refine Ya (λp : Bool × (Nat × List Nat) × (Nat × List Nat) => match p.1 with
            | false=>⟨mkV [(0,.one (.own 7 1 1 0 (digs p.2.1.1).length)),(1,.one (.own 9 1 1 0 (digs p.2.2.1).length)),(5,.one (.lit (.int .i64 k)))],mkH [(7,⟨1,some ⟨(digs p.2.1.1++p.2.1.2).map wc,1,true⟩⟩),(9,⟨1,some ⟨(digs p.2.2.1++p.2.2.2).map wc,1,true⟩⟩)]⟩
            | true=>⟨mkV [(0,.one (.own 9 1 1 0 (digs p.2.1.1).length)),(1,.one (.own 7 1 1 0 (digs p.2.2.1).length)),(5,.one (.lit (.int .i64 k)))],mkH [(9,⟨1,some ⟨(digs p.2.1.1++p.2.1.2).map wc,1,true⟩⟩),(7,⟨1,some ⟨(digs p.2.2.1++p.2.2.2).map wc,1,true⟩⟩)]⟩)
          (λp=>p.2.2.1≠0/\(p.2.1.1 % 2≠0∨p.2.2.1 % 2≠0)/\(digs p.2.1.1).length<=17179869184/\(digs p.2.2.1).length<=17179869184/\Nat.gcd p.2.1.1 p.2.2.1*2 ^ k=Nat.gcd (val x) (val y)) (λp=>p.2.1.1+p.2.2.1) (false,(a,pa),(b,pb)) ?_ ?_ ?_
        . exact ja (by simp [okS,okV,okC,okL,okH,okB,okE,Qa,va,qa,Va,wsA,ws]) ⟨Jb rfl,Jb rfl,trivial⟩
        . exact⟨hb,by simp only;omega,by simp only;omega,by simp only;omega,hg⟩
        clear hax hby hak hal hbl hap hbp hg ha hb hodd;rintro⟨sw,⟨a,pa⟩,⟨b,pb⟩⟩ ⟨hb,hodd,hal,hbl,hg⟩;simp only at hb hodd hal hbl hg;cases sw with
        | false=>
          simp only [go_sem,hh,hcm,hk,hu,hp,Qm,Zb,List.length_append,Nat.le_add_right,List.take_left];refine λ_=>⟨λhap=>?_,λhap=>?_⟩
          . have ha:a≠0:=λe=>by rw [e,Wb]at hap;simp at hap
            refine Ya (λp:Nat×List Nat=>⟨mkV [(0,.one (.own 7 1 1 0 (digs p.1).length)),(1,.one (.own 9 1 1 0 (digs b).length)),(5,.one (.lit (.int .i64 k)))],mkH [(7,⟨1,some ⟨(digs p.1++p.2).map wc,1,true⟩⟩),(9,⟨1,some ⟨(digs b++pb).map wc,1,true⟩⟩)]⟩)
              (λp=>p.1≠0/\p.1<=a/\(p.1 % 2≠0∨b % 2≠0)/\Nat.gcd p.1 b*2 ^ k=Nat.gcd (val x) (val y)) (λp=>p.1) (a,pa) ?_ ?_ ?_
            . exact ja (by simp [okS,okV,okC,okL,okH,okB,okE,Qa,va,qa,Va,wsA,ws]) ⟨Jb rfl,Jb rfl,trivial⟩
            . exact⟨ha,Nat.le_refl _,hodd,hg⟩
            . rintro⟨a',pa⟩ ⟨ha',haa,hodd,hg⟩
              simp only at ha' haa hodd hg;have hap:=Zl ha';simp only [go_sem,hh,hcm,hk,hu,hp,Qm,Zb,List.length_append,Nat.le_add_right,List.take_left,yw ha',hap];refine⟨by omega,by omega,Nat.mod_lt _ (by omega),λhe=>?_,λhao=>?_⟩
              . simp only [xo]
                refine⟨digs a',pa,rfl,by simp [qa],Ua _,by have:=ua haa;omega,λpa'=>?_⟩
                simp only [go_sem,hh,hcm,hk,hu,hp,Qm,Zb,List.length_append,Nat.le_add_right,List.take_left];refine⟨(a' / 2,pa'),ja (by simp [okS,okV,okC,okL,okH,okB,okE,Qa,va,qa,Va,wsA,ws]) ⟨Jb rfl,Jb rfl,trivial⟩,⟨by simp only;omega,by simp only;omega,.inr (by omega),?_⟩,by simp only;omega⟩
                rw [<-hg];simp only;rw [waY (by omega) (by omega)]
              . refine Ya (λp:Nat×List Nat=>⟨mkV [(0,.one (.own 7 1 1 0 (digs a').length)),(1,.one (.own 9 1 1 0 (digs p.1).length)),(5,.one (.lit (.int .i64 k)))],mkH [(7,⟨1,some ⟨(digs a'++pa).map wc,1,true⟩⟩),(9,⟨1,some ⟨(digs p.1++p.2).map wc,1,true⟩⟩)]⟩)
                  (λp=>p.1≠0/\p.1<=b/\Nat.gcd a' p.1*2 ^ k=Nat.gcd (val x) (val y)) (λp=>p.1) (b,pb) ?_ ?_ ?_
                . exact ja (by simp [okS,okV,okC,okL,okH,okB,okE,Qa,va,qa,Va,wsA,ws]) ⟨Jb rfl,Jb rfl,trivial⟩
                . exact⟨hb,Nat.le_refl _,hg⟩
                . rintro⟨b',pb⟩ ⟨hb',hbb,hg⟩
                  simp only at hb' hbb hg;have hbp:=Zl hb';simp only [go_sem,hh,hcm,hk,hu,hp,Qm,Zb,List.length_append,Nat.le_add_right,List.take_left,yw hb',hbp];refine⟨by omega,by omega,Nat.mod_lt _ (by omega),λhe=>?_,λhbo=>?_⟩
                  . simp only [xo]
                    refine⟨digs b',pb,rfl,by simp [qa],Ua _,by have:=ua hbb;omega,λpb'=>?_⟩
                    simp only [go_sem,hh,hcm,hk,hu,hp,Qm,Zb,List.length_append,Nat.le_add_right,List.take_left];refine⟨(b' / 2,pb'),ja (by simp [okS,okV,okC,okL,okH,okB,okE,Qa,va,qa,Va,wsA,ws]) ⟨Jb rfl,Jb rfl,trivial⟩,⟨by simp only;omega,by simp only;omega,?_⟩,by simp only;omega⟩
                    rw [<-hg];simp only;rw [Ybg (by omega) (by omega)]
                  . have hlb:=ua hbb
                    have hla:=ua haa;refine⟨Ua _,Ua _,λhlt=>?_,λhge=>?_⟩
                    . have hlt:=XI.1 hlt
                      simp only [Uw];have e:val (dig (digs b').length (val (digs b')-val (digs a')))=b' - a':=by
                        rw [Xk,Zb,Zb,Nat.mod_eq_of_lt];exact Nat.lt_of_le_of_lt (Nat.sub_le _ _) (xk b')
                      refine⟨digs b',pb,digs a',pa,by decide,rfl,by simp [qa],Ua _,by omega,rfl,by simp [qa],Ua _,by rw [Zb,Zb];omega,?_⟩
                      refine⟨dig (digs b').length (val (digs b')-val (digs a')),pb,(qb _ _).symm,by simp [upd,qa],qm _ _,by omega,λpost'=>?_⟩
                      simp only [go_sem,e];have hle:=Nat.le_trans (ua (Nat.sub_le b' a')) (ua hbb);refine⟨(true,(b' - a',post'),(a',pa)),ja (by simp [okS,okV,okC,okL,okH,okB,okE,Qa,va,qa,Va,wsA,ws]) ⟨Jb rfl,Jb rfl,trivial⟩,⟨ha',.inr (by simp only;omega),by simp only;omega,by simp only;omega,?_⟩,by simp only;omega⟩
                      simp only;rw [YU (by omega),Nat.gcd_comm];exact hg
                    . have hge:=mt XI.2 hge
                      simp only [Uw];have e:val (dig (digs a').length (val (digs a')-val (digs b')))=a' - b':=by
                        rw [Xk,Zb,Zb,Nat.mod_eq_of_lt];exact Nat.lt_of_le_of_lt (Nat.sub_le _ _) (xk a')
                      refine⟨digs a',pa,digs b',pb,by decide,rfl,by simp [qa],Ua _,by omega,rfl,by simp [qa],Ua _,by rw [Zb,Zb];omega,?_⟩
                      refine⟨dig (digs a').length (val (digs a')-val (digs b')),pa,(qb _ _).symm,by simp [upd,qa],qm _ _,by omega,λpost'=>?_⟩
                      simp only [go_sem,e];have hle:=Nat.le_trans (ua (Nat.sub_le a' b')) (ua haa);refine⟨(false,(a' - b',post'),(b',pb)),ja (by simp [okS,okV,okC,okL,okH,okB,okE,Qa,va,qa,Va,wsA,ws]) ⟨Jb rfl,Jb rfl,trivial⟩,⟨hb',.inr (by simp only;omega),by simp only;omega,by simp only;omega,?_⟩,by simp only;omega⟩
                      simp only;rw [YU (by omega)];exact hg
          . have ha:a=0:=xw.1 (by omega)
            rw [ha,Nat.gcd_zero_left]at hg;refine Ya (λj:Nat=>⟨mkV [(1,.one (ws (digs (b*2 ^ j)))),(64,.one (.lit (.int .i64 k))),(65,.one (.lit (.int .i64 j)))],mkH []⟩) (λj=>j<=k) (λj=>k-j) 0 ?_ ?_ ?_
            . exact ja (by simp [okS,okV,okC,okL,okH,okB,okE,Qa,va,qa,Va,wsA,ws]) trivial
            . exact Nat.zero_le _
            . rintro j hj
              simp only [go_sem,hh,hcm,hk,hu,hp,Qm,Zb,List.length_append,Nat.le_add_right,List.take_left];refine⟨λhlt=>?_,λhge=>?_⟩
              . have hj1:b*2 ^ (j+1)<=val x:=by
                  refine Nat.le_trans (Nat.mul_le_mul_left b (Nat.pow_le_pow_right (by omega) hlt)) ?_
                  rw [hg];exact Nat.le_of_dvd (by omega) (Nat.gcd_dvd_left _ _)
                have e:b*2 ^ j+b*2 ^ j=b*2 ^ (j+1):=by rw [Nat.pow_succ,<-Nat.mul_assoc];omega
                have hl1:=Nat.le_trans (ua (show b*2 ^ j<=val x by omega)) hxv
                rw [e];refine⟨Ua _,Ua _,by omega,by omega,by omega,j+1,ja (by simp [okS,okV,okC,okL,okH,okB,okE,Qa,va,qa,Va,wsA,ws]) trivial,by omega,by omega⟩
              . have e:j=k:=by omega
                rw [e,hg];exact hK
        | true=>
          simp only [go_sem,hh,hcm,hk,hu,hp,Qm,Zb,List.length_append,Nat.le_add_right,List.take_left];refine λ_=>⟨λhap=>?_,λhap=>?_⟩
          . have ha:a≠0:=λe=>by rw [e,Wb]at hap;simp at hap
            refine Ya (λp:Nat×List Nat=>⟨mkV [(0,.one (.own 9 1 1 0 (digs p.1).length)),(1,.one (.own 7 1 1 0 (digs b).length)),(5,.one (.lit (.int .i64 k)))],mkH [(9,⟨1,some ⟨(digs p.1++p.2).map wc,1,true⟩⟩),(7,⟨1,some ⟨(digs b++pb).map wc,1,true⟩⟩)]⟩)
              (λp=>p.1≠0/\p.1<=a/\(p.1 % 2≠0∨b % 2≠0)/\Nat.gcd p.1 b*2 ^ k=Nat.gcd (val x) (val y)) (λp=>p.1) (a,pa) ?_ ?_ ?_
            . exact ja (by simp [okS,okV,okC,okL,okH,okB,okE,Qa,va,qa,Va,wsA,ws]) ⟨Jb rfl,Jb rfl,trivial⟩
            . exact⟨ha,Nat.le_refl _,hodd,hg⟩
            . rintro⟨a',pa⟩ ⟨ha',haa,hodd,hg⟩
              simp only at ha' haa hodd hg;have hap:=Zl ha';simp only [go_sem,hh,hcm,hk,hu,hp,Qm,Zb,List.length_append,Nat.le_add_right,List.take_left,yw ha',hap];refine⟨by omega,by omega,Nat.mod_lt _ (by omega),λhe=>?_,λhao=>?_⟩
              . simp only [xo]
                refine⟨digs a',pa,rfl,by simp [qa],Ua _,by have:=ua haa;omega,λpa'=>?_⟩
                simp only [go_sem,hh,hcm,hk,hu,hp,Qm,Zb,List.length_append,Nat.le_add_right,List.take_left];refine⟨(a' / 2,pa'),ja (by simp [okS,okV,okC,okL,okH,okB,okE,Qa,va,qa,Va,wsA,ws]) ⟨Jb rfl,Jb rfl,trivial⟩,⟨by simp only;omega,by simp only;omega,.inr (by omega),?_⟩,by simp only;omega⟩
                rw [<-hg];simp only;rw [waY (by omega) (by omega)]
              . refine Ya (λp:Nat×List Nat=>⟨mkV [(0,.one (.own 9 1 1 0 (digs a').length)),(1,.one (.own 7 1 1 0 (digs p.1).length)),(5,.one (.lit (.int .i64 k)))],mkH [(9,⟨1,some ⟨(digs a'++pa).map wc,1,true⟩⟩),(7,⟨1,some ⟨(digs p.1++p.2).map wc,1,true⟩⟩)]⟩)
                  (λp=>p.1≠0/\p.1<=b/\Nat.gcd a' p.1*2 ^ k=Nat.gcd (val x) (val y)) (λp=>p.1) (b,pb) ?_ ?_ ?_
                . exact ja (by simp [okS,okV,okC,okL,okH,okB,okE,Qa,va,qa,Va,wsA,ws]) ⟨Jb rfl,Jb rfl,trivial⟩
                . exact⟨hb,Nat.le_refl _,hg⟩
                . rintro⟨b',pb⟩ ⟨hb',hbb,hg⟩
                  simp only at hb' hbb hg;have hbp:=Zl hb';simp only [go_sem,hh,hcm,hk,hu,hp,Qm,Zb,List.length_append,Nat.le_add_right,List.take_left,yw hb',hbp];refine⟨by omega,by omega,Nat.mod_lt _ (by omega),λhe=>?_,λhbo=>?_⟩
                  . simp only [xo]
                    refine⟨digs b',pb,rfl,by simp [qa],Ua _,by have:=ua hbb;omega,λpb'=>?_⟩
                    simp only [go_sem,hh,hcm,hk,hu,hp,Qm,Zb,List.length_append,Nat.le_add_right,List.take_left];refine⟨(b' / 2,pb'),ja (by simp [okS,okV,okC,okL,okH,okB,okE,Qa,va,qa,Va,wsA,ws]) ⟨Jb rfl,Jb rfl,trivial⟩,⟨by simp only;omega,by simp only;omega,?_⟩,by simp only;omega⟩
                    rw [<-hg];simp only;rw [Ybg (by omega) (by omega)]
                  . have hlb:=ua hbb
                    have hla:=ua haa;refine⟨Ua _,Ua _,λhlt=>?_,λhge=>?_⟩
                    . have hlt:=XI.1 hlt
                      simp only [Uw];have e:val (dig (digs b').length (val (digs b')-val (digs a')))=b' - a':=by
                        rw [Xk,Zb,Zb,Nat.mod_eq_of_lt];exact Nat.lt_of_le_of_lt (Nat.sub_le _ _) (xk b')
                      refine⟨digs b',pb,digs a',pa,by decide,rfl,by simp [qa],Ua _,by omega,rfl,by simp [qa],Ua _,by rw [Zb,Zb];omega,?_⟩
                      refine⟨dig (digs b').length (val (digs b')-val (digs a')),pb,(qb _ _).symm,by simp [upd,qa],qm _ _,by omega,λpost'=>?_⟩
                      simp only [go_sem,e];have hle:=Nat.le_trans (ua (Nat.sub_le b' a')) (ua hbb);refine⟨(false,(b' - a',post'),(a',pa)),ja (by simp [okS,okV,okC,okL,okH,okB,okE,Qa,va,qa,Va,wsA,ws]) ⟨Jb rfl,Jb rfl,trivial⟩,⟨ha',.inr (by simp only;omega),by simp only;omega,by simp only;omega,?_⟩,by simp only;omega⟩
                      simp only;rw [YU (by omega),Nat.gcd_comm];exact hg
                    . have hge:=mt XI.2 hge
                      simp only [Uw];have e:val (dig (digs a').length (val (digs a')-val (digs b')))=a' - b':=by
                        rw [Xk,Zb,Zb,Nat.mod_eq_of_lt];exact Nat.lt_of_le_of_lt (Nat.sub_le _ _) (xk a')
                      refine⟨digs a',pa,digs b',pb,by decide,rfl,by simp [qa],Ua _,by omega,rfl,by simp [qa],Ua _,by rw [Zb,Zb];omega,?_⟩
                      refine⟨dig (digs a').length (val (digs a')-val (digs b')),pa,(qb _ _).symm,by simp [upd,qa],qm _ _,by omega,λpost'=>?_⟩
                      simp only [go_sem,e];have hle:=Nat.le_trans (ua (Nat.sub_le a' b')) (ua haa);refine⟨(true,(a' - b',post'),(b',pb)),ja (by simp [okS,okV,okC,okL,okH,okB,okE,Qa,va,qa,Va,wsA,ws]) ⟨Jb rfl,Jb rfl,trivial⟩,⟨hb',.inr (by simp only;omega),by simp only;omega,by simp only;omega,?_⟩,by simp only;omega⟩
                      simp only;rw [YU (by omega)];exact hg
          . have ha:a=0:=xw.1 (by omega)
            rw [ha,Nat.gcd_zero_left]at hg;refine Ya (λj:Nat=>⟨mkV [(1,.one (ws (digs (b*2 ^ j)))),(64,.one (.lit (.int .i64 k))),(65,.one (.lit (.int .i64 j)))],mkH []⟩) (λj=>j<=k) (λj=>k-j) 0 ?_ ?_ ?_
            . exact ja (by simp [okS,okV,okC,okL,okH,okB,okE,Qa,va,qa,Va,wsA,ws]) trivial
            . exact Nat.zero_le _
            . rintro j hj
              simp only [go_sem,hh,hcm,hk,hu,hp,Qm,Zb,List.length_append,Nat.le_add_right,List.take_left];refine⟨λhlt=>?_,λhge=>?_⟩
              . have hj1:b*2 ^ (j+1)<=val x:=by
                  refine Nat.le_trans (Nat.mul_le_mul_left b (Nat.pow_le_pow_right (by omega) hlt)) ?_
                  rw [hg];exact Nat.le_of_dvd (by omega) (Nat.gcd_dvd_left _ _)
                have e:b*2 ^ j+b*2 ^ j=b*2 ^ (j+1):=by rw [Nat.pow_succ,<-Nat.mul_assoc];omega
                have hl1:=Nat.le_trans (ua (show b*2 ^ j<=val x by omega)) hxv
                rw [e];refine⟨Ua _,Ua _,by omega,by omega,by omega,j+1,ja (by simp [okS,okV,okC,okL,okH,okB,okE,Qa,va,qa,Va,wsA,ws]) trivial,by omega,by omega⟩
              . have e:j=k:=by omega
                rw [e,hg];exact hK
end Go.Abs
end
section
namespace Go.Abs
open Go.Num
variable {P:Program} {Γ:Nat->Spec}
def kf(f0 f1 f2 f3:Nat):AC:=(.seq (.ops false [.m 4 (.c (.one .emp)),.m 5 (.c (.one .emp))])
 (.fg [0,1] (.seq (.ops false [.m 11 (.t 0),.u 12 (.len (.t 11)),.u 13 (.mk 1 [(.lit (.int .u32 0))] (.t 12) (.t 12)),.m 6 (.t 13)])
 (.fg [0,1,6] (.seq (.ops false [.m 14 (.t 1),.u 15 (.len (.t 14)),.u 16 (.bin .add (.t 15) (.i 1)),.u 17 (.mk 1 [(.lit (.int .u32 0))] (.t 16) (.t 16)),.m 7 (.t 17)])
 (.fg [0,1,6,7] (.seq (.seq (.ops false [.m 18 (.t 0),.u 19 (.call f0 [(.t 18)]),.u 20 (.bin .sub (.t 19) (.i 1)),.m 8 (.t 20)])
 (.fg [0,1,6,7,8] (.block 0 (.loop (.seq (.seq (.ops false [.m 21 (.t 8),.u 22 (.bin .geq (.t 21) (.i 0))])
 (.fg [0,1,6,7,8,22] (.cond (.t 22) .skip (.exit 0))))
 (.fg [0,1,6,7,8] (.seq (.block 1 (.seq (.ops false [.m 25 (.t 0),.m 26 (.t 8),.u 27 (.bin .quo (.t 26) (.i 32)),.u 28 (.idx 1 (.t 25) (.t 27)),.u 29 (.ld none 1 false (.t 28)),.m 30 (.t 8),.u 31 (.bin .rem (.t 30) (.i 32)),.u 32 (.bin .shr (.t 29) (.t 31)),.u 33 (.bin .and (.t 32) (.c (.one (.lit (.int .u32 1))))),.m 9 (.t 33)])
 (.fg [0,1,6,7,8,9] (.seq (.seq (.ops false [.m 34 (.t 7),.u 35 (.len (.t 34)),.m 36 (.i 0)])
 (.fg [0,1,6,7,8,9,35,36] (.block 2 (.loop (.seq (.ops false [.u 37 (.bin .lss (.t 36) (.t 35))])
 (.fg [0,1,6,7,8,9,35,36,37] (.seq (.cond (.t 37) .skip (.exit 2))
 (.fg [0,1,6,7,8,9,35,36] (.seq (.block 3 (.seq (.ops false [.m 38 (.t 36),.m 10 (.t 38)])
 (.fg [0,1,6,7,8,9,10,35,36] (.ops true [.m 39 (.t 7),.m 40 (.t 10),.m 41 (.t 7),.m 42 (.t 10),.u 43 (.idx 1 (.t 41) (.t 42)),.u 44 (.ld none 1 false (.t 43)),.u 45 (.bin .shl (.t 44) (.c (.one (.lit (.int .u64 1))))),.m 46 (.t 9),.u 47 (.bin .or (.t 45) (.t 46)),.m 48 (.t 7),.m 49 (.t 10),.u 50 (.idx 1 (.t 48) (.t 49)),.u 51 (.ld none 1 false (.t 50)),.u 52 (.bin .shr (.t 51) (.c (.one (.lit (.int .u64 31))))),.u 53 (.idx 1 (.t 39) (.t 40)),.n (.st none 1 (.t 53) (.t 47)),.m 9 (.t 52)]))))
 (.fg [0,1,6,7,8,9,35,36] (.ops false [.u 54 (.bin .add (.t 36) (.i 1)),.m 36 (.t 54)])))))))))))
 (.fg [0,1,6,7,8] (.seq (.ops false [.m 55 (.t 7),.m 56 (.t 1),.u 57 (.call f1 [(.t 55),(.t 56)]),.u 58 (.bin .geq (.t 57) (.i 0))])
 (.fg [0,1,6,7,8,58] (.cond (.t 58) (.seq (.ops false [.m 59 (.t 7),.m 60 (.t 1),.u 61 (.call f2 [(.t 59),(.t 60)])])
 (.fg [0,1,6,7,8] (.ops true [.m 62 (.t 6),.m 63 (.t 8),.u 64 (.bin .quo (.t 63) (.i 32)),.u 65 (.idx 1 (.t 62) (.t 64)),.u 66 (.ld none 1 false (.t 65)),.m 67 (.t 8),.u 68 (.bin .rem (.t 67) (.i 32)),.u 69 (.bin .shl (.c (.one (.lit (.int .u32 1)))) (.t 68)),.u 70 (.bin .or (.t 66) (.t 69)),.u 71 (.idx 1 (.t 62) (.t 64)),.n (.st none 1 (.t 71) (.t 70))]))) .skip))))))))
 (.fg [0,1,6,7,8] (.ops false [.m 23 (.t 8),.u 24 (.bin .sub (.t 23) (.i 1)),.m 8 (.t 24)])))))))))
 (.fg [6,7] (.seq (.ops false [.m 72 (.t 6),.u 73 (.callf f3 [(.t 72)]),.m 74 (.t 7),.u 75 (.callf f3 [(.t 74)]),.m 4 (.t 73),.m 5 (.t 75)])
 .ret)))))))))
theorem YO(hΓ:Holds P Γ){f fb fc fk ft:Nat}(hb:Γ fb=.dat true Xr)(hcm:Γ fc=.dat true Xt)(hk:Γ fk=.own Uw)(ht:Γ ft=.fresh 1 Xw)
  (hc:check P f=some (76,(kf fb fc fk ft).strip,[.tmp 4,.tmp 5])):Sound P f (.dat false Jh):=by
 refine ka hc WM hΓ (λargs K hcl hfi hG=>?_);match args,hG with
 | [a,b],hG=>
  obtain⟨x,rfl,hx,y,rfl,hy,hnx,hny,hy0,hxl,hyl,hK⟩:=hG;refine⟨by simp,?_⟩
  simp only [go_sem,kf,hb,hcm,hk,ht];intro h1;refine⟨by omega,λ_=>⟨by omega,by omega,hx,by omega,?_⟩⟩
  obtain⟨n,hn⟩:∃n,(if x.length=0 then 0 else 32*(x.length-1)+bln (x.getD (x.length-1) 0))=n:=⟨_,rfl⟩
  have hnlt:val x<2 ^ n:=by
   rw [<-hn];split
   .rename_i h0;rw [List.eq_nil_of_length_eq_zero h0];simp [val]
   .exact Xbo hx ‹_›
  have hnb:n<=32*x.length:=by
   rw [<-hn];split
   .omega
   .have:=ybk (k:=32) (n:=x.getD (x.length-1) 0) (ub hx _);omega
  have hy1:0<val y:=by
   have:=Qd hny hy0;omega
  rw [hn];refine⟨by omega,?_⟩
  refine Ya (λp:Nat×List Nat×List Nat=>⟨mkV [(0,wsA x),(1,wsA y),(6,.one (.own 13 1 1 0 x.length)),(7,.one (.own 17 1 1 0 (y.length+1))),(8,.one (.lit (.int .i64 ((p.1:Int)-1))))],mkH [(13,⟨1,some ⟨p.2.1.map wc,1,true⟩⟩),(17,⟨1,some ⟨p.2.2.map wc,1,true⟩⟩)]⟩)
   (λp=>p.1<=n/\WL p.2.1/\p.2.1.length=x.length/\val p.2.1=val x / 2 ^ p.1 / val y*2 ^ p.1/\WL p.2.2/\p.2.2.length=y.length+1/\val p.2.2=val x / 2 ^ p.1 % val y) (λp=>p.1) (n,List.replicate x.length 0,List.replicate (y.length+1) 0) ?_ ?_ ?_
  .exact ja (by simp [okS,okV,okC,okL,okH,okB,okE,Qa,va,qa,Va,wsA,ws]) ⟨Jb (by simp),Jb (by simp),trivial⟩
  .simp [jbg,wal,Nat.div_eq_of_lt hnlt]
  .rintro⟨n',q,r⟩ ⟨hn',hq,hql,hqv,hr,hrl,hrv⟩;simp only at hn' hq hql hqv hr hrl hrv;cases n' with
   | zero=>
    have e:((0:Nat):Int)-1 = -1:=rfl;have e' : ((0:Int)<=-1)=False:=by simp
    simp only [go_sem,hb,hcm,hk,ht,e,e',hql,hrl];simp only [Nat.pow_zero,Nat.div_one,Nat.mul_one]at hqv hrv;rw [hqv,hrv];exact⟨hq,by omega,hr,by omega,hK⟩
   | succ i=>
    have e:((i+1:Nat):Int)-1=(i:Int):=by omega
    have e1:(i:Int) / 32=((i / 32:Nat):Int):=rfl;have e2:(i:Int) % 32=((i % 32:Nat):Int):=rfl;have e3:=qbA hx i;have hi32:i / 32<x.length:=by omega
    have hib:i % 32<32:=Nat.mod_lt _ (by omega)
    simp only [go_sem,hb,hcm,hk,ht,e,e1,e2,e3,Qm,hql,hrl];have g1:=ub hx (i / 32);have g2:x.getD (i / 32) 0 / 2 ^ (i % 32)<2 ^ IntKind.u32.bits:=Nat.lt_of_le_of_lt (Nat.div_le_self _ _) g1;have g3:((i % 32:Nat):Int)<=IntKind.u32.bits:=by have:IntKind.u32.bits=32:=rfl;omega
    refine⟨by decide,by omega,hi32,by decide,by omega,g2,λhyl'=>?_⟩
    generalize hbit:val x / 2 ^ i % 2=bit;have hbit1:bit<=1:=by omega
    refine Ya (λp:List Nat×Nat=>⟨mkV [(0,wsA x),(1,wsA y),(6,.one (.own 13 1 1 0 x.length)),(7,.one (.own 17 1 1 0 (y.length+1))),(8,.one (.lit (.int .i64 i))),(9,.one (.lit (.int .u32 p.2))),(35,.one (.lit (.int .i64 (y.length+1:Nat)))),(36,.one (.lit (.int .i64 p.1.length)))],
      mkH [(13,⟨1,some ⟨q.map wc,1,true⟩⟩),(17,⟨1,some ⟨(p.1++r.drop p.1.length).map wc,1,true⟩⟩)]⟩)
     (λp=>p.1.length<=r.length/\WL p.1/\p.2<=1/\val p.1+4294967296 ^ p.1.length*p.2=2*val (r.take p.1.length)+bit) (λp=>r.length-p.1.length) ([],bit) ?_ ?_ ?_
    .exact ja (by simp [okS,okV,okC,okL,okH,okB,okE,Qa,va,qa,Va,wsA,ws]) ⟨Jb rfl,Jb (by simp),trivial⟩
    .simp [xc,val,hbit1]
    .rintro⟨o,c⟩ ⟨hol,ho,hc1,hov⟩;simp only at hol ho hc1 hov;by_cases hlt:o.length<y.length+1
     .have g4:=ub hr o.length;simp only [go_sem,hb,hcm,hk,ht,Ybr hol,hrl,hlt,qZ,not_true,xbC hc1,qbt _ (show o.length<r.length by omega)]
      refine⟨⟨rfl,by decide,by decide⟩,⟨rfl,Nat.mod_lt _ (by omega),by omega⟩,⟨by decide,by decide⟩,by omega,(o++[r.getD o.length 0*2 % 4294967296+c],r.getD o.length 0 / 2147483648),ja (by simp [okS,okV,okC,okL,okH,okB,okE,Qa,va,qa,Va,wsA,ws]) ⟨Jb rfl,Jb rfl,trivial⟩,⟨by simp;omega,Ye.2 ⟨ho,Wc.2 ⟨by omega,xc⟩⟩,by simp only;omega,?_⟩,by simp;omega⟩
      simp only [List.length_append,List.length_cons,List.length_nil,Nat.zero_add,Ub,Jc,yi,um,Nat.mul_zero,Nat.add_zero,Nat.pow_succ];exact zbc hov g4
     .have hoe:o.length=y.length+1:=by omega
      have hd:r.drop (y.length+1)=[]:=List.drop_of_length_le (by omega)
      simp only [go_sem,hb,hcm,hk,ht,hd,hoe,Nat.lt_irrefl,e1,e2];have hrlt:val r<val y:=by rw [hrv];exact Nat.mod_lt _ hy1
      have hylt:=Ul hy;rw [List.take_of_length_le (by omega),hoe,Nat.pow_succ]at hov
      have hc0:c=0:=by
       rcases Nat.eq_zero_or_pos c with h | h
       .exact h
       .exfalso;have:4294967296 ^ y.length*4294967296*1<=4294967296 ^ y.length*4294967296*c:=Nat.mul_le_mul_left _ h;omega
      subst hc0;rw [Nat.mul_zero,Nat.add_zero]at hov;refine⟨ho,hy,λh=>?_,λh=>?_⟩
      .have hge:=jv.1 h;have hs:=va0 hy1 hbit hqv hrv (by omega)
       simp only [Uw,uH];refine⟨hy,o,[],hoe.symm,by simp [qa],ho,by omega,hge,?_⟩
       have hp32:2 ^ (i % 32)<4294967296:=Nat.lt_of_lt_of_le (Nat.pow_lt_pow_right (by omega) hib) (by decide)
       have e4:(1*2 ^ (i % 32) % 4294967296:Int)=((2 ^ (i % 32):Nat):Int):=by
        rw [Int.one_mul,show((2:Int) ^ (i % 32))=((2 ^ (i % 32):Nat):Int) by rw [Int.natCast_pow];rfl]
        generalize 2 ^ (i % 32)=w at hp32 ⊢;omega
       have e5:=Ubt hib (kbd hq hqv);have g5:=ub hq (i / 32);simp only [go_sem,e1,e2,hql,qb,hoe,e4,e5];have hsv:=WZ q (i / 32) (q.getD (i / 32) 0+2 ^ (i % 32)) (by omega)
       have hpp:=XK i;rw [Nat.mul_add]at hsv;have hv2:val (q.set (i / 32) (q.getD (i / 32) 0+2 ^ (i % 32)))=val q+2 ^ i:=by omega
       have hsum:q.getD (i / 32) 0+2 ^ (i % 32)<4294967296:=by
        rw [<-e5];exact Nat.or_lt_two_pow (n:=32) g5 hp32
       refine⟨by decide,by omega,hi32,hi32,by decide,⟨rfl,by decide,by omega⟩,⟨rfl,g5,hp32⟩,hi32,hi32,⟨by omega,by omega⟩,(i,q.set (i / 32) (q.getD (i / 32) 0+2 ^ (i % 32)),dig (y.length+1) (val o-val y)),ja (by simp [okS,okV,okC,okL,okH,okB,okE,Qa,va,qa,Va,wsA,ws]) ⟨Jb rfl,Jb rfl,trivial⟩,⟨by simp only;omega,WaW hq _ hsum,by simp [hql],?_,qm _ _,qb _ _,?_⟩,by simp only;omega⟩
       .simp only;rw [hv2];exact hs.1
       .simp only;rw [Xk,hov,hs.2,Nat.mod_eq_of_lt];have:=Nat.mod_lt (val x / 2 ^ i) hy1;have h6:(4294967296:Nat) ^ y.length<=4294967296 ^ (y.length+1):=Nat.pow_le_pow_right (by omega) (by omega)
        omega
      .have hlt2:=mt jv.2 h;have hs:=kaY hy1 hbit hqv hrv (by omega)
       refine⟨by omega,(i,q,o),ja (by simp [okS,okV,okC,okL,okH,okB,okE,Qa,va,qa,Va,wsA,ws]) ⟨Jb rfl,Jb rfl,trivial⟩,⟨by simp only;omega,hq,hql,hs.1,ho,hoe,by simp only;rw [hov];exact hs.2⟩,by simp only;omega⟩
end Go.Abs
end
section
namespace Go.Abs
open Go.Num
variable {P:Program} {Γ:Nat->Spec}
def ji(f0:Nat):AC:=(.seq (.ops false [.u 4 (.alloc [(.lit (.bool false)),.emp])])
 (.fg [0,1,4] (.seq (.ops false [.m 5 (.t 1),.u 6 (.callf f0 [(.t 5)]),.m 1 (.t 6)])
 (.fg [0,1,4] (.seq (.seq (.ops false [.m 7 (.t 1),.u 8 (.len (.t 7)),.u 9 (.bin .eql (.t 8) (.i 0))])
 (.fg [0,1,4,9] (.cond (.t 9) (.seq (.ops false [.u 10 (.build [.z [(.lit (.bool false)),.emp]]),.n (.st none 2 (.t 4) (.t 10))])
 .ret) .skip)))
 (.fg [0,1,4] (.seq (.ops false [.m 11 (.t 0),.m 12 (.t 1),.u 13 (.build [.x 1 (.t 11),.x 1 (.t 12)]),.n (.st none 2 (.t 4) (.t 13))])
 .ret)))))))
def Xh(f0 f1:Nat):AC:=(.seq (.ops false [.u 1 (.box 2 (.t 0)),.m 2 (.i 0)])
 (.fg [1] (.seq (.seq (.ops false [.u 3 (.ld none 2 true (.t 1)),.u 4 (.call f0 [(.t 3)]),.u 5 (.len (.t 4)),.u 6 (.bin .eql (.t 5) (.i 0))])
 (.fg [1,6] (.cond (.t 6) (.seq (.ops false [.m 2 (.i 0)])
 .ret) .skip)))
 (.fg [1] (.seq (.seq (.ops false [.u 7 (.ld none 2 true (.t 1)),.u 8 (.call f1 [(.t 7)])])
 (.fg [8] (.cond (.t 8) (.seq (.ops false [.m 2 (.i (-1))])
 .ret) .skip)))
 (.fg [] (.seq (.ops false [.m 2 (.i 1)])
 .ret)))))))
def yj(f0 f1:Nat):AC:=(.seq (.ops false [.u 2 (.box 2 (.t 0)),.u 3 (.box 2 (.t 1)),.m 4 (.i 0)])
 (.fg [2,3] (.seq (.ops false [.u 5 (.ld none 2 true (.t 2)),.u 6 (.ld none 2 true (.t 3)),.u 7 (.call f0 [(.t 5),(.t 6)]),.u 8 (.call f1 [(.t 7)]),.m 4 (.t 8)])
 .ret)))
def wj(f0 f1 f2 f3 f4 f5:Nat):AC:=(.seq (.ops false [.u 2 (.box 2 (.t 0)),.u 3 (.box 2 (.t 1)),.u 4 (.alloc [(.lit (.bool false)),.emp])])
 (.fg [2,3,4] (.seq (.ops true [.u 7 (.ld none 2 true (.t 2)),.u 8 (.call f0 [(.t 7)]),.u 9 (.ld none 2 true (.t 3)),.u 10 (.call f0 [(.t 9)]),.m 5 (.t 8),.m 6 (.t 10)])
 (.fg [2,3,4,5,6] (.seq (.seq (.ops true [.u 11 (.ld none 2 true (.t 2)),.u 12 (.call f1 [(.t 11)]),.u 13 (.ld none 2 true (.t 3)),.u 14 (.call f1 [(.t 13)]),.u 15 (.binb .eql (.t 12) (.t 14))])
 (.fg [2,3,4,5,6,15] (.cond (.t 15) (.seq (.ops false [.u 16 (.ld none 2 true (.t 2)),.u 17 (.call f1 [(.t 16)]),.m 18 (.t 5),.m 19 (.t 6),.u 20 (.call f2 [(.t 18),(.t 19)]),.u 21 (.call f3 [(.t 17),(.t 20)]),.n (.st none 2 (.t 4) (.t 21))])
 .ret) .skip)))
 (.fg [2,3,4,5,6] (.seq (.seq (.ops false [.m 22 (.t 5),.m 23 (.t 6),.u 24 (.call f4 [(.t 22),(.t 23)]),.u 25 (.bin .geq (.t 24) (.i 0))])
 (.fg [2,3,4,5,6,25] (.cond (.t 25) (.seq (.ops false [.u 26 (.ld none 2 true (.t 2)),.u 27 (.call f1 [(.t 26)]),.m 28 (.t 5),.m 29 (.t 6),.u 30 (.call f5 [(.t 28),(.t 29)]),.u 31 (.call f3 [(.t 27),(.t 30)]),.n (.st none 2 (.t 4) (.t 31))])
 .ret) .skip)))
 (.fg [3,4,5,6] (.seq (.ops false [.u 32 (.ld none 2 true (.t 3)),.u 33 (.call f1 [(.t 32)]),.m 34 (.t 6),.m 35 (.t 5),.u 36 (.call f5 [(.t 34),(.t 35)]),.u 37 (.call f3 [(.t 33),(.t 36)]),.n (.st none 2 (.t 4) (.t 37))])
 .ret)))))))))
def kj(f0 f1:Nat):AC:=(.seq (.ops false [.u 2 (.box 2 (.t 0)),.u 3 (.box 2 (.t 1)),.u 4 (.alloc [(.lit (.bool false)),.emp])])
 (.fg [2,3,4] (.seq (.ops true [.u 5 (.ld none 2 true (.t 2)),.u 6 (.ld none 2 true (.t 3)),.u 7 (.call f0 [(.t 6)]),.u 8 (.call f1 [(.t 5),(.t 7)]),.n (.st none 2 (.t 4) (.t 8))])
 .ret)))
def Zj(f0 f1 f2:Nat):AC:=(.seq (.ops false [.u 2 (.box 2 (.t 0)),.u 3 (.box 2 (.t 1)),.u 4 (.alloc [(.lit (.bool false)),.emp])])
 (.fg [2,3,4] (.seq (.ops true [.u 5 (.ld none 2 true (.t 2)),.u 6 (.call f0 [(.t 5)]),.u 7 (.ld none 2 true (.t 3)),.u 8 (.call f0 [(.t 7)]),.u 9 (.call f1 [(.t 6),(.t 8)]),.u 10 (.call f2 [.fa,(.t 9)]),.n (.st none 2 (.t 4) (.t 10))])
 .ret)))
def Wj(f0 f1 f2 f3 f4 f5 f6:Nat):AC:=(.seq (.ops false [.u 2 (.box 2 (.t 0)),.u 3 (.box 2 (.t 1)),.u 4 (.alloc [(.lit (.bool false)),.emp]),.u 5 (.alloc [(.lit (.bool false)),.emp]),.m 6 (.i 0)])
 (.fg [2,3,4,5] (.seq (.seq (.ops false [.u 9 (.ld none 2 true (.t 3)),.u 10 (.call f0 [(.t 9)]),.u 11 (.bin .eql (.t 10) (.i 0))])
 (.fg [2,3,4,5,11] (.cond (.t 11) (.seq (.ops false [.u 12 (.build [.z [(.lit (.bool false)),.emp]]),.u 13 (.build [.z [(.lit (.bool false)),.emp]]),.n (.st none 2 (.t 4) (.t 12)),.n (.st none 2 (.t 5) (.t 13)),.m 6 (.i 8)])
 .ret) .skip)))
 (.fg [2,3,4,5] (.seq (.ops true [.u 15 (.ld none 2 true (.t 2)),.u 16 (.call f1 [(.t 15)]),.u 17 (.ld none 2 true (.t 3)),.u 18 (.call f1 [(.t 17)]),.u 19 (.call f2 [(.t 16),(.t 18)]),.m 14 (.t 19),.u 20 (.ext 0 (.t 14)),.u 21 (.ext 1 (.t 14)),.m 7 (.t 20),.m 8 (.t 21)])
 (.fg [2,3,4,5,7,8] (.seq (.seq (.ops false [.u 22 (.ld none 2 true (.t 2)),.u 23 (.call f3 [(.t 22)]),.m 24 (.t 23),.w 25 24 true (.mv (.t 8)),.w 26 24 true (.len (.t 25)),.w 27 24 true (.bin .gtr (.t 26) (.i 0)),.u 28 (.pick (.t 24) (.t 27) .fa)])
 (.fg [2,3,4,5,7,8,28] (.cond (.t 28) (.ops true [.m 29 (.t 7),.u 30 (.row 1 [[.x 1 (.c (.one (.lit (.int .u32 1))))]]),.u 31 (.call f4 [(.t 29),(.t 30)]),.u 32 (.ld none 2 true (.t 3)),.u 33 (.call f1 [(.t 32)]),.m 34 (.t 8),.u 35 (.call f5 [(.t 33),(.t 34)]),.m 7 (.t 31),.m 8 (.t 35)]) .skip)))
 (.fg [2,3,4,5,7,8] (.seq (.ops true [.u 36 (.ld none 2 true (.t 2)),.u 37 (.call f3 [(.t 36)]),.u 38 (.ld none 2 true (.t 3)),.u 39 (.call f3 [(.t 38)]),.u 40 (.binb .neq (.t 37) (.t 39)),.m 41 (.t 7),.u 42 (.call f6 [(.t 40),(.t 41)]),.m 43 (.t 8),.u 44 (.call f6 [.fa,(.t 43)]),.n (.st none 2 (.t 4) (.t 42)),.n (.st none 2 (.t 5) (.t 44)),.m 6 (.i 0)])
 .ret)))))))))
theorem X4(hΓ:Holds P Γ){f ft:Nat}(ht:Γ ft=.fresh 1 Xw)(hc:check P f=some (14,(ji ft).strip,[.cell 4 2 true])):Sound P f (.dat false vf):=by
 refine ka hc WR hΓ (λargs K hcl hfi hG=>?_);match args,hG with
 | [a,m],hG=>
  obtain⟨b,rfl,hG⟩:=qC hG;obtain⟨l,rfl,hl,hlen,hK⟩:=hG;refine⟨by simp,?_⟩
  simp only [go_sem,ji,ht];refine⟨hl,hlen,λ_=>⟨λh=>?_,λh=>?_⟩⟩
  .have h0:val l=0:=xw.1 h;have e:zcan (sg b (val l))=zcan 0:=by rw [h0];unfold sg;split <;> rfl
   rw [e]at hK;have e2:(zcan 0)=(false,[]):=by simp [zcan,Wb]
   rw [e2]at hK;exact hK
  .rw [<-uQ]at hK;have e:decide (0<(digs (val l)).length)=true:=by simp only [decide_eq_true_eq];omega
   rw [e,Bool.and_true]at hK;exact hK
theorem uY(hΓ:Holds P Γ){f fm fn:Nat}(hm:Γ fm=.dat false qj)(hn:Γ fn=.dat true uf)(hc:check P f=some (9,(Xh fm fn).strip,[.tmp 2])):Sound P f (.dat true yg):=by
 refine ka hc VP hΓ (λargs K hcl hfi hG=>?_);match args,hG with
 | [a],hG=>
  obtain⟨w,rfl,hw,hK⟩:=hG;refine⟨by simp,?_⟩
  simp only [go_sem,Xh,hm,hn,hw];intro _;refine⟨λh=>?_,λh=>⟨λhb=>?_,λhb=>?_⟩⟩
  .have h0:zv w=0:=uw.1 h;rw [h0]at hK;exact hK
  .rw [Int.sign_eq_neg_one_of_neg hb]at hK;exact hK
  .have h0:zv w≠0:=λe=>h (uw.2 e);rw [Int.sign_eq_one_of_pos (by omega)]at hK;exact hK
theorem Yac(hΓ:Holds P Γ){f fn fa:Nat}(hn:Γ fn=.dat false xu)(ha:Γ fa=.dat false Jw)(hc:check P f=some (9,(kj fn fa).strip,[.cell 4 2 true])):Sound P f (.dat false XF):=by
 refine ka hc zaN hΓ (λargs K hcl hfi hG=>?_);match args,hG with
 | [a,b],hG=>
  obtain⟨v,rfl,hv,w,rfl,hw,hz,hz',hK⟩:=hG;refine⟨by simp,?_⟩
  simp only [go_sem,kj,hn,ha,hw,hv];refine⟨by omega,hz,by rw [xac];exact hz',?_⟩
  rw [<-Int.sub_eq_add_neg];exact hK
theorem Z1(hΓ:Holds P Γ){f fs fg:Nat}(hs:Γ fs=.dat false XF)(hg:Γ fg=.dat true yg)(hc:check P f=some (9,(yj fs fg).strip,[.tmp 4])):Sound P f (.dat true Xp):=by
 refine ka hc zai hΓ (λargs K hcl hfi hG=>?_);match args,hG with
 | [a,b],hG=>
  obtain⟨v,rfl,hv,w,rfl,hw,hz,hz',hz2,hK⟩:=hG;refine⟨by simp,?_⟩
  simp only [go_sem,yj,hs,hg,hw,hv];refine⟨hz,hz',?_⟩;have e:Int.sign (zv v-zv w)=ordI (zv v) (zv w):=by
   unfold ordI;split
   .exact Int.sign_eq_neg_one_of_neg (by omega)
   .split
    .exact Int.sign_eq_one_of_pos (by omega)
    .rw [show zv v-zv w=0 by omega];rfl
  rw [e];exact hK
theorem UZ(hΓ:Holds P Γ){f fm fg fw:Nat}(hm:Γ fm=.dat false qj)(hg:Γ fg=.dat false Vx)(hw' : Γ fw=.dat false vf)(hc:check P f=some (11,(Zj fm fg fw).strip,[.cell 4 2 true])):Sound P f (.dat false Vt):=by
 refine ka hc J1 hΓ (λargs K hcl hfi hG=>?_);match args,hG with
 | [a,b],hG=>
  obtain⟨v,rfl,hv,w,rfl,hw,hz,hz',hK⟩:=hG;refine⟨by simp,?_⟩
  simp only [go_sem,Zj,hm,hg,hw',hw,hv,Zb];have hle:(digs ((zv v).natAbs.gcd (zv w).natAbs)).length<=17179869184:=by
   rcases Nat.eq_zero_or_pos (zv v).natAbs with h | h
   .rw [h,Nat.gcd_zero_left];exact hz'
   .exact Nat.le_trans (ua (Nat.le_of_dvd h (Nat.gcd_dvd_left _ _))) hz
  exact⟨Ua _,Ua _,hz,hz',Ua _,by omega,hK⟩
theorem zaa(hΓ:Holds P Γ){f fn fm fp fw fc fl:Nat}(hn:Γ fn=.dat true uf)(hm:Γ fm=.dat false qj)(hp:Γ fp=.dat false Vp)(hw' : Γ fw=.dat false vf)(hc' : Γ fc=.dat true Xt)(hl:Γ fl=.dat false Qt)(hc:check P f=some (38,(wj fm fn fp fw fc fl).strip,[.cell 4 2 true])):Sound P f (.dat false Jw):=by
 refine ka hc YZ hΓ (λargs K hcl hfi hG=>?_);match args,hG with
 | [a,b],hG=>
  obtain⟨v,rfl,hv,w,rfl,hw,hz,hz',hK⟩:=hG;refine⟨by simp,?_⟩
  simp only [go_sem,wj,hn,hm,hp,hw',hc',hl,hw,hv];simp only [Zb];have hsz:=vK (zv v) (zv w);refine⟨λh=>⟨Ua _,Ua _,hz,hz',Ua _,?_,?_⟩,λh=>⟨Ua _,Ua _,λho=>⟨Ua _,Ua _,by unfold zs at hz;omega,?_,Ua _,?_,?_⟩,λho=>⟨Ua _,Ua _,by unfold zs at hz';omega,?_,Ua _,?_,?_⟩⟩⟩
  .have e:=jz (Ui h);rw [show(zv v).natAbs+(zv w).natAbs=(zv v+zv w).natAbs by have:=Ui h;omega]
   unfold zs at *;omega
  .rw [jz (Ui h)];exact hK
  .exact(jv.1 ho)
  .have:=ua (Nat.sub_le (zv v).natAbs (zv w).natAbs);unfold zs at *;omega
  .have h1:=jv.1 ho;rw [Wau (yr h) h1];exact hK
  .have:=mt jv.2 ho;omega
  .have:=ua (Nat.sub_le (zv w).natAbs (zv v).natAbs);unfold zs at *;omega
  .have h1:=mt jv.2 ho;rw [Wau (λe=>yr h e.symm) (by omega),Int.add_comm];exact hK
theorem X8(hΓ:Holds P Γ){f fs fn fm fp fw fd fl:Nat}(hs:Γ fs=.dat true yg)(hn:Γ fn=.dat true uf)(hm:Γ fm=.dat false qj)(hp:Γ fp=.dat false Vp)(hw' : Γ fw=.dat false vf)(hd:Γ fd=.dat false Jh)(hl:Γ fl=.dat false Qt)(hc:check P f=some (45,(Wj fs fm fd fn fp fl fw).strip,[.cell 4 2 true,.cell 5 2 true,.tmp 6])):Sound P f (.dat false Qq):=by
 refine ka hc vah hΓ (λargs K hcl hfi hG=>?_);match args,hG with
 | [a,b],hG=>
  obtain⟨v,rfl,hv,w,rfl,hw,hz,hz',h0,hK⟩:=hG;refine⟨by simp,?_⟩
  simp only [go_sem,Wj,hs,hn,hm,hp,hw',hd,hl,hw,hv];simp only [Zb];have hne:¬(digs (zv w).natAbs).length=0:=λe=>h0 (uw.1 e);refine⟨λe=>absurd (Int.sign_eq_zero_iff_zero.1 e) h0,λ_=>⟨Ua _,Ua _,Zp _,Zp _,λe=>hne (by rw [e];rfl),hz,hz',?_⟩⟩
  have hq:(digs ((zv v).natAbs / (zv w).natAbs)).length<=17179869184:=Nat.le_trans (ua (Nat.div_le_self _ _)) hz;have hr:(digs ((zv v).natAbs % (zv w).natAbs)).length<=17179869184:=Nat.le_trans (ua (Nat.mod_le _ _)) hz;have hz'' : (digs (zv w).natAbs).length<=17179869184:=hz';have hlt:=Nat.mod_lt (zv v).natAbs (show 0<(zv w).natAbs by omega)
  have hfin:(0<=zv v∨(zv v).natAbs % (zv w).natAbs=0)->K (AV.tup
    [AV.agg [zb (zcan (sg (!(decide (zv v<0) == decide (zv w<0))) ((zv v).natAbs / (zv w).natAbs))),zm (zcan (sg (!(decide (zv v<0) == decide (zv w<0))) ((zv v).natAbs / (zv w).natAbs)))],
     AV.agg [zb (zcan (sg false ((zv v).natAbs % (zv w).natAbs))),zm (zcan (sg false ((zv v).natAbs % (zv w).natAbs)))],AV.one (C.lit (Value.int IntKind.i64 0))]):=by
   intro h;obtain⟨e1,e2⟩:=jaC h0 h;have e1' : sg (!(decide (zv v<0) == decide (zv w<0))) ((zv v).natAbs / (zv w).natAbs)=zv v / zv w:=e1;have e2' : sg false ((zv v).natAbs % (zv w).natAbs)=zv v % zv w:=e2;rw [e1',e2'];exact hK
  refine⟨λhneg _=>⟨λhp=>⟨Ua _,(kap _ 1).mpr ⟨Wc.2 ⟨by decide,xc⟩,hq,by decide,Ua _,Ua _,by omega,by omega,Ua _,?_,Ua _,?_,?_⟩⟩,λhp=>⟨Ua _,by omega,Ua _,by omega,hfin (.inr ?_)⟩⟩,λhneg=>⟨Ua _,by omega,Ua _,by omega,hfin (.inl (by omega))⟩⟩
  .have hv1:val [1]=1:=rfl;rw [hv1];have h1:zs 1<=2:=J2 (by decide)
   have:=vK (((zv v).natAbs / (zv w).natAbs:Nat):Int) 1;have e:(((zv v).natAbs / (zv w).natAbs:Nat):Int)+1=(((zv v).natAbs / (zv w).natAbs+1:Nat):Int):=by omega
   rw [e]at this;have h3:zs (((zv v).natAbs / (zv w).natAbs:Nat):Int)=(digs ((zv v).natAbs / (zv w).natAbs)).length:=rfl;have h4:zs (((zv v).natAbs / (zv w).natAbs+1:Nat):Int)=(digs ((zv v).natAbs / (zv w).natAbs+1)).length:=rfl;rw [h3,h4]at this;omega
  .have:=ua (Nat.sub_le (zv w).natAbs ((zv v).natAbs % (zv w).natAbs));omega
  .have hv1:val [1]=1:=rfl;rw [hv1];have hne' : (zv v).natAbs % (zv w).natAbs≠0:=by
    intro e;rw [e,Wb]at hp;simp at hp
   obtain⟨e1,e2⟩:=UaA h0 hneg hne';have e1' : sg (!(decide (zv v<0) == decide (zv w<0))) ((zv v).natAbs / (zv w).natAbs+1)=zv v / zv w:=e1;have e2' : sg false ((zv w).natAbs-(zv v).natAbs % (zv w).natAbs)=zv v % zv w:=e2;rw [e1',e2'];exact hK
  .have:digs ((zv v).natAbs % (zv w).natAbs)=[]:=List.eq_nil_of_length_eq_zero (by omega)
   exact Xf.1 this
end Go.Abs
end
