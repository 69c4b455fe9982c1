/-
  Parts of the proof, merged: IntC, IntD, IntE, IntF, IntG, IntH, IntK, RunD, RunF, RunG, AbsZ, AbsZN, RunA.
-/
import Derived.Test.YtfichbefnpcdeaaGreatM13
import Derived.Lib.BitFns
set_option linter.unusedVariables false
set_option linter.unusedSimpArgs false
set_option linter.unnecessarySimpa false
set_option maxRecDepth 100000
section
namespace Go.Abs
open Go.Num
variable {P:Program} {Γ:Nat->Spec}
def jl:AC:=(.o [.m 2 (.c (.one .emp))] [0] (.o [.M 4 0,.Z 5 4,.M 3 5] [0,3] (.f (.block 0 (.loop (.f (.o [.M 6 3,.I 7 .gtr 6 0,.M 8 7,.V 9 8 true 0,.V 10 8 true 3,.w 11 8 true (.bin .sub (.t 10) (.i 1)),.w 12 8 true (.idx 1 (.t 9) (.t 11)),.U 13 8 true 1 false 12,.w 14 8 true (.bin .eql (.t 13) (.c (.one (.lit (.int .u32 0))))),.P 15 8 14] [0,3,15] (.cond (.t 15) .skip (.exit 0))) [0,3] (.block 1 (.p [.M 16 3,.I 17 .sub 16 1,.M 3 17]))))) [0,3] (.f (.o [.M 18 3,.I 19 .eql 18 0] [0,3,19] (.cond (.t 19) (.seq (.p [.m 2 (.c (.one .emp))]) .ret) .skip)) [0,3] (.seq (.p [.m 20 (.c (.one .emp)),.M 21 0,.M 22 3,.u 23 (.sl 1 (.t 21) none (some (.t 22))),.u 24 (.app0 1 (.t 20) (.t 23)),.M 2 24]) .ret)))))
def vh:AC:=(.o [.m 4 (.c (.one (.lit (.int .u64 0))))] [0,1] (.f (.o [.M 5 1,.M 6 0,.Z 7 6,.B 8 .lss 5 7] [0,1,8] (.cond (.t 8) (.seq (.p [.M 9 0,.M 10 1,.J 11 1 9 10,.F 12 1 11,.u 13 (.conv .u64 (.t 12)),.M 4 13]) .ret) .skip)) [] (.seq (.p [.m 4 (.c (.one (.lit (.int .u64 0))))]) .ret)))
def ul(f0 f1:Nat):AC:=(.o [.m 4 (.c (.one .emp))] [0,1] (.o [.M 8 0,.Z 9 8,.M 10 1,.Z 11 10,.u 12 (.max [(.t 9),(.t 11)]),.I 13 .add 12 1,.u 14 (.mk 1 [(.lit (.int .u32 0))] (.t 13) (.t 13)),.M 5 14] [0,1,5] (.o [.m 6 (.c (.one (.lit (.int .u64 0))))] [0,1,5,6] (.f (.o [.M 15 5,.Z 16 15,.N 17 0] [0,1,5,6,16,17] (.block 0 (.loop (.o [.B 18 .lss 17 16] [0,1,5,6,16,17,18] (.f (.cond (.t 18) .skip (.exit 0)) [0,1,5,6,16,17] (.f (.block 1 (.o [.M 19 17,.M 7 19] [0,1,5,6,7,16,17] (.o [.M 20 6,.M 21 0,.M 22 7,.D 23 f0 21 22,.M 24 1,.M 25 7,.D 26 f0 24 25,.B 27 .add 23 26,.B 28 .add 20 27,.M 6 28] [0,1,5,6,7,16,17] (.o [.M 29 5,.M 30 7,.M 31 6,.u 32 (.conv .u32 (.t 31)),.J 33 1 29 30,.S 1 33 32] [0,1,5,6,16,17] (.p [.M 34 6,.u 35 (.bin .shr (.t 34) (.c (.one (.lit (.int .u64 32))))),.M 6 35]))))) [0,1,5,6,16,17] (.p [.I 36 .add 17 1,.M 17 36]))))))) [5] (.seq (.p [.M 37 5,.H 38 f1 37,.M 4 38]) .ret)))))
theorem qal(hΓ:Holds P Γ){f:Nat}(hc:check P f=some (25,jl.strip,[.tmp 2])):Sound P f (.dat false kp):=by
 refine Va hc Var hΓ (λargs K hcl hfi hG=>?_);match args,hG with
 | [a],hG=>
  obtain⟨l,rfl,hl,hlen,hK⟩:=hG;refine⟨by simp,?_⟩
  simp only [go_sem,jl];intro hmax;refine Ua (λn:Nat=>⟨mkV [(0,wsA l),(3,.one (.lit (.int .i64 n)))],mkH []⟩) (λn=>n<=l.length/\val (l.take n)=val l) id l.length ?_ ?_ ?_
  .exact ja (by simp [bitvec_to_nat]) trivial
  .simp
  .rintro n ⟨hn,ht⟩;simp only [go_sem];refine⟨λh=>⟨by omega,by omega,by omega,λh0=>⟨by omega,n-1,ja (by simp [bitvec_to_nat];omega) trivial,⟨by omega,?_⟩,?_⟩,λh0=>⟨λh1=>by omega,λ_=>⟨by omega,by simp;omega,?_⟩⟩⟩,λh=>⟨λh1=>?_,λh1=>by omega⟩⟩
   .rw [show((n:Int)-1).toNat=n-1 by omega]at h0
    have:=kb l (n-1);rw [show n-1+1=n by omega,h0,Nat.mul_zero,Nat.add_zero]at this
    rw [<-this];exact ht
   .simp only [id];omega
   .rw [show((n:Int)-1).toNat=n-1 by omega]at h0
    have:=jd (ko hl n) (yD h hn h0);rw [<-this,ht];exact hK
   .subst h1;have:val l=0:=by rw [<-ht];simp [val]
    rw [this,Zb]at hK;exact hK
theorem VH(hΓ:Holds P Γ){f:Nat}(hc:check P f=some (14,vh.strip,[.tmp 4])):Sound P f (.dat true Qj):=by
 refine Va hc jap hΓ (λargs K hcl hfi hG=>?_);match args,hG with
 | [a,b],hG=>
  obtain⟨l,rfl,hl,hG⟩:=hG;obtain⟨k,i,rfl,rfl,hi,hK⟩:=Qc hG;refine⟨by simp,?_⟩
  simp only [go_sem,vh];intro hmax;refine⟨λh=>⟨hi,by omega,?_⟩,λh=>?_⟩
  .have:=Ub hl i.toNat;rw [Nat.mod_eq_of_lt (by omega)];exact hK
  .rw [List.getD_eq_getElem?_getD,List.getElem?_eq_none (by omega)]at hK;exact hK
theorem jal(hΓ:Holds P Γ){f fw ft:Nat}(hw:Γ fw=.dat true Qj)(ht:Γ ft=.dat false kp)(hc:check P f=some (39,(ul fw ft).strip,[.tmp 4])):Sound P f (.dat false vp):=by
 refine Va hc XU hΓ (λargs K hcl hfi hG=>?_);match args,hG with
 | [a,b],hG=>
  obtain⟨x,rfl,hx,y,rfl,hy,hxl,hyl,hK⟩:=hG;refine⟨by simp,?_⟩
  simp only [go_sem,ul,hw,ht];intro h1 h2;refine⟨by omega,by omega,λhN=>?_⟩
  generalize hNN:max x.length y.length+1=N at hN;refine Ua (λp:List Nat×Nat=>⟨mkV [(0,wsA x),(1,wsA y),(5,.one (.own 14 1 1 0 N)),(6,.one (.lit (.int .u64 p.2))),(16,.one (.lit (.int .i64 N))),(17,.one (.lit (.int .i64 p.1.length)))],mkH [(14,⟨1,some ⟨(p.1++List.replicate (N-p.1.length) 0).map wc,1,true⟩⟩)]⟩)
   (λp=>p.1.length<=N/\WL p.1/\p.2<=1/\val p.1+4294967296 ^ p.1.length*p.2=val (x.take p.1.length)+val (y.take p.1.length)) (λp=>N-p.1.length) ([],0) ?_ ?_ ?_
  .exact ja (by simp [bitvec_to_nat]) (Jf (by simp))
  .simp [Wc,val]
  .rintro⟨o,c⟩ ⟨hoN,ho,hc1,hval⟩;simp only at hoN ho hc1 hval;have hlen:(o++List.replicate (N-o.length) 0).length=N:=by simp;omega
   simp only [go_sem,hw,ht,hlen];refine⟨λhlt=>⟨hx,hy,hlt,hlt,by omega,by omega,?_⟩,λhge=>?_⟩
   .have g1:=Ub hx o.length;have g2:=Ub hy o.length;rw [Nat.mod_eq_of_lt (show x.getD o.length 0+y.getD o.length 0<18446744073709551616 by omega),Nat.mod_eq_of_lt (show c+(x.getD o.length 0+y.getD o.length 0)<18446744073709551616 by omega)]
    generalize hs:c+(x.getD o.length 0+y.getD o.length 0)=s;refine⟨(o++[s % 4294967296],s / 4294967296),ja (by simp [bitvec_to_nat]) (Jf ?_),⟨by simp;omega,Yd.2 ⟨ho,qc.2 ⟨Nat.mod_lt _ (by omega),Wc⟩⟩,by simp only;omega,?_⟩,by simp;omega⟩
    .rw [show N-o.length=N-(o.length+1)+1 by omega,J5];simp
    .simp only [List.length_append,List.length_cons,List.length_nil,Nat.zero_add,kb,ub,Vg,Uj,Nat.mul_zero,Nat.add_zero,Nat.pow_succ];rw [Nat.mul_assoc,Nat.add_assoc,<-Nat.mul_add,Nat.mod_add_div,<-hs,Nat.mul_add,<-Nat.add_assoc,hval,Nat.mul_add];omega
   .have e:o.length=N:=by omega
    simp only [e,Nat.sub_self,List.replicate_zero,List.append_nil,Nat.le_refl,if_true,wF];have hv:val o=val x+val y:=by
     rw [e,Jg (by omega),Jg (by omega)]at hval
     exact Zab hx hy (by omega) (by omega) (by omega) hval
    refine⟨ho,by omega,?_⟩
    rw [hv];exact hK
end Go.Abs
end
section
namespace Go.Abs
open Go.Num
variable {P:Program} {Γ:Nat->Spec}
def Zm(f0 f1:Nat):AC:=(.o [.m 4 (.c (.one .emp))] [0,1] (.o [.M 9 0,.Z 10 9,.u 11 (.mk 1 [(.lit (.int .u32 0))] (.t 10) (.t 10)),.M 5 11] [0,1,5] (.o [.m 6 (.c (.one (.lit (.int .u64 0))))] [0,1,5,6] (.f (.o [.M 12 5,.Z 13 12,.N 14 0] [0,1,5,6,13,14] (.block 0 (.loop (.o [.B 15 .lss 14 13] [0,1,5,6,13,14,15] (.f (.cond (.t 15) .skip (.exit 0)) [0,1,5,6,13,14] (.f (.block 1 (.o [.M 16 14,.M 7 16] [0,1,5,6,7,13,14] (.f (.y [.M 17 0,.M 18 7,.J 19 1 17 18,.F 20 1 19,.u 21 (.conv .u64 (.t 20)),.M 22 1,.M 23 7,.D 24 f0 22 23,.B 25 .sub 21 24,.M 26 6,.B 27 .sub 25 26,.M 8 27]) [0,1,5,7,8,13,14] (.o [.M 28 5,.M 29 7,.M 30 8,.u 31 (.conv .u32 (.t 30)),.J 32 1 28 29,.S 1 32 31] [0,1,5,8,13,14] (.p [.M 33 8,.u 34 (.bin .shr (.t 33) (.c (.one (.lit (.int .u64 63))))),.M 6 34]))))) [0,1,5,6,13,14] (.p [.I 35 .add 14 1,.M 14 35]))))))) [5] (.seq (.p [.M 36 5,.H 37 f1 36,.M 4 37]) .ret)))))
def zh:AC:=(.o [.N 4 0] [0,1] (.f (.o [.M 6 0,.Z 7 6,.M 8 1,.Z 9 8,.B 10 .neq 7 9] [0,1,10] (.cond (.t 10) (.f (.o [.M 11 0,.Z 12 11,.M 13 1,.Z 14 13,.B 15 .lss 12 14] [15] (.cond (.t 15) (.seq (.p [.N 4 (-1)]) .ret) .skip)) [] (.seq (.p [.N 4 1]) .ret)) .skip)) [0,1] (.f (.o [.M 16 0,.Z 17 16,.I 18 .sub 17 1,.M 5 18] [0,1,5] (.block 0 (.loop (.f (.o [.M 19 5,.I 20 .geq 19 0] [0,1,5,20] (.cond (.t 20) .skip (.exit 0))) [0,1,5] (.f (.block 1 (.f (.y [.M 23 0,.M 24 5,.J 25 1 23 24,.F 26 1 25,.M 27 1,.M 28 5,.J 29 1 27 28,.F 30 1 29,.B 31 .neq 26 30]) [0,1,5,31] (.cond (.t 31) (.f (.f (.y [.M 32 0,.M 33 5,.J 34 1 32 33,.F 35 1 34,.M 36 1,.M 37 5,.J 38 1 36 37,.F 39 1 38,.B 40 .lss 35 39]) [40] (.cond (.t 40) (.seq (.p [.N 4 (-1)]) .ret) .skip)) [] (.seq (.p [.N 4 1]) .ret)) .skip))) [0,1,5] (.p [.M 21 5,.I 22 .sub 21 1,.M 5 22])))))) [] (.seq (.p [.N 4 0]) .ret))))
def Yj(f0:Nat):AC:=(.o [.m 4 (.c (.one .emp)),.m 5 (.c (.one (.lit (.int .u32 0))))] [0,1] (.o [.M 9 0,.Z 10 9,.u 11 (.mk 1 [(.lit (.int .u32 0))] (.t 10) (.t 10)),.M 6 11] [0,1,6] (.o [.m 7 (.c (.one (.lit (.int .u64 0))))] [0,1,6,7] (.f (.o [.M 12 0,.Z 13 12,.I 14 .sub 13 1,.M 8 14] [0,1,6,7,8] (.block 0 (.loop (.f (.o [.M 15 8,.I 16 .geq 15 0] [0,1,6,7,8,16] (.cond (.t 16) .skip (.exit 0))) [0,1,6,7,8] (.f (.block 1 (.o [.M 19 7,.u 20 (.bin .shl (.t 19) (.c (.one (.lit (.int .u64 32))))),.M 21 0,.M 22 8,.J 23 1 21 22,.F 24 1 23,.u 25 (.conv .u64 (.t 24)),.B 26 .or 20 25,.M 7 26] [0,1,6,7,8] (.o [.M 27 6,.M 28 8,.M 29 7,.M 30 1,.u 31 (.conv .u64 (.t 30)),.B 32 .quo 29 31,.u 33 (.conv .u32 (.t 32)),.J 34 1 27 28,.S 1 34 33] [0,1,6,7,8] (.p [.M 35 7,.M 36 1,.u 37 (.conv .u64 (.t 36)),.B 38 .rem 35 37,.M 7 38])))) [0,1,6,7,8] (.p [.M 17 8,.I 18 .sub 17 1,.M 8 18])))))) [6,7] (.seq (.p [.M 39 6,.H 40 f0 39,.M 41 7,.u 42 (.conv .u32 (.t 41)),.M 4 40,.M 5 42]) .ret)))))
theorem yan(hΓ:Holds P Γ){f fw ft:Nat}(hw:Γ fw=.dat true Qj)(ht:Γ ft=.dat false kp)(hc:check P f=some (38,(Zm fw ft).strip,[.tmp 4])):Sound P f (.dat false Yp):=by
 refine Va hc VW hΓ (λargs K hcl hfi hG=>?_);match args,hG with
 | [a,b],hG=>
  obtain⟨x,rfl,hx,y,rfl,hy,hxl,hle,hK⟩:=hG;refine⟨by simp,?_⟩
  simp only [go_sem,Zm,hw,ht];intro h1;refine⟨by omega,λ_=>?_⟩
  generalize hN:x.length=N at h1 hxl;refine Ua (λp:List Nat×Nat=>⟨mkV [(0,wsA x),(1,wsA y),(5,.one (.own 11 1 1 0 N)),(6,.one (.lit (.int .u64 p.2))),(13,.one (.lit (.int .i64 N))),(14,.one (.lit (.int .i64 p.1.length)))],mkH [(11,⟨1,some ⟨(p.1++List.replicate (N-p.1.length) 0).map wc,1,true⟩⟩)]⟩)
   (λp=>p.1.length<=N/\WL p.1/\p.2<=1/\val p.1+val (y.take p.1.length)=val (x.take p.1.length)+4294967296 ^ p.1.length*p.2) (λp=>N-p.1.length) ([],0) ?_ ?_ ?_
  .exact ja (by simp [bitvec_to_nat]) (Jf (by simp))
  .simp [Wc,val]
  .rintro⟨o,c⟩ ⟨hoN,ho,hc1,hval⟩;simp only at hoN ho hc1 hval;have hlen:(o++List.replicate (N-o.length) 0).length=N:=by simp;omega
   simp only [go_sem,hw,ht,hlen];refine⟨λhlt=>⟨by omega,hy,hlt,hlt,by omega,by omega,?_⟩,λhge=>?_⟩
   .have g1:=Ub hx o.length;have g2:=Ub hy o.length;rw [Nat.mod_eq_of_lt (show x.getD o.length 0<18446744073709551616 by omega)]
    obtain⟨s1,s2⟩:=wai g1 g2 hc1;generalize sub64 (sub64 (x.getD o.length 0) (y.getD o.length 0)) c=s at s1 s2;refine⟨(o++[s % 4294967296],s / 9223372036854775808),ja (by simp [bitvec_to_nat]) (Jf ?_),⟨by simp;omega,Yd.2 ⟨ho,qc.2 ⟨Nat.mod_lt _ (by omega),Wc⟩⟩,s2,?_⟩,by simp;omega⟩
    .rw [show N-o.length=N-(o.length+1)+1 by omega,J5];simp
    .simp only [List.length_append,List.length_cons,List.length_nil,Nat.zero_add,kb,ub,Vg,Uj,Nat.mul_zero,Nat.add_zero,Nat.pow_succ];exact Vz hval s1
   .have e:o.length=N:=by omega
    have hv:=QA ho hx (by omega) hle hval
    simp only [e,Nat.sub_self,List.replicate_zero,List.append_nil];refine⟨ho,by omega,?_⟩
    rw [hv];exact hK
theorem zO(hΓ:Holds P Γ){f:Nat}(hc:check P f=some (41,zh.strip,[.tmp 4])):Sound P f (.dat false Jj):=by
 refine Va hc VV hΓ (λargs K hcl hfi hG=>?_);match args,hG with
 | [a,b],hG=>
  obtain⟨x,rfl,hx,y,rfl,hy,hzx,hzy,hK⟩:=hG;refine⟨by simp,?_⟩
  simp only [go_sem,zh];intro h1 h2;refine⟨λhl _=>⟨by omega,?_⟩,λhne _ _=>⟨λhlt=>?_,λhge=>?_⟩⟩
  rotate_left
  .rw [wL (VB hx hzy hlt)]at hK;exact hK
  .rw [W0 (VB hy hzx (by omega))]at hK;exact hK
  refine Ua (λn:Nat=>⟨mkV [(0,wsA x),(1,wsA y),(5,.one (.lit (.int .i64 ((n:Int)-1))))],mkH []⟩) (λn=>n<=x.length/\x.drop n=y.drop n) id x.length ?_ ?_ ?_
  .exact ja (by simp [bitvec_to_nat]) trivial
  .simp [hl]
  .rintro n ⟨hn,hd⟩;simp only [go_sem];refine⟨λh=>⟨by omega,by omega,by omega,by omega,λhe=>⟨by omega,n-1,ja (by simp [bitvec_to_nat];omega) trivial,⟨by omega,?_⟩,by simp only [id];omega⟩,λhne=>?_⟩,λh=>?_⟩
   .rw [show((n:Int)-1).toNat=n-1 by omega]at he
    rw [List.getD_eq_getElem?_getD,List.getD_eq_getElem?_getD,List.getElem?_eq_getElem (by omega),List.getElem?_eq_getElem (by omega)]at he
    have e1:=List.getElem_cons_drop (as:=x) (i:=n-1) (by omega)
    have e2:=List.getElem_cons_drop (as:=y) (i:=n-1) (by omega)
    rw [show n-1+1=n by omega]at e1 e2
    rw [<-e1,<-e2,hd];simp only [Option.getD_some]at he;rw [he]
   .rw [show((n:Int)-1).toNat=n-1 by omega]at hne ⊢
    refine⟨by omega,by omega,by omega,by omega,λhlt=>?_,λhge=>?_⟩
    .rw [wL (VaU (i:=n-1) hx hl (by omega) (by rw [show n-1+1=n by omega];exact hd) hlt)]at hK;exact hK
    .rw [W0 (VaU (i:=n-1) hy hl.symm (by omega) (by rw [show n-1+1=n by omega];exact hd.symm) (by omega))]at hK;exact hK
   .have:n=0:=by omega
    subst this;simp only [List.drop_zero]at hd;rw [hd,JaF]at hK;exact hK
theorem qY(hΓ:Holds P Γ){f ft:Nat}(ht:Γ ft=.dat false kp)(hc:check P f=some (43,(Yj ft).strip,[.tmp 4,.tmp 5])):Sound P f (.dat false ux):=by
 refine Va hc Wan hΓ (λargs K hcl hfi hG=>?_);match args,hG with
 | [a,b],hG=>
  obtain⟨x,rfl,hx,hG⟩:=hG;obtain⟨k,m,rfl,rfl,hm,hmB,hxl,hK⟩:=Qc hG;obtain⟨m,rfl⟩:∃n:Nat,m=n:=⟨m.toNat,by omega⟩
  simp only [Int.toNat_natCast]at hK;refine⟨by simp,?_⟩
  simp only [go_sem,Yj,ht];intro h1;refine⟨hxl,λ_=>⟨by omega,?_⟩⟩
  refine Ua (λp:List Nat×Nat=>⟨mkV [(0,wsA x),(1,.one (.lit (.int .u32 m))),(6,.one (.own 11 1 1 0 x.length)),(7,.one (.lit (.int .u64 p.2))),(8,.one (.lit (.int .i64 ((x.length:Int)-p.1.length-1))))],mkH [(11,⟨1,some ⟨(List.replicate (x.length-p.1.length) 0++p.1).map wc,1,true⟩⟩)]⟩)
   (λp=>p.1.length<=x.length/\WL p.1/\p.2<m/\val p.1*m+p.2=val (x.drop (x.length-p.1.length))) (λp=>x.length-p.1.length) ([],0) ?_ ?_ ?_
  .exact ja (by simp [bitvec_to_nat]) (Jf (by simp))
  .simp [Wc,val];omega
  .rintro⟨q,r⟩ ⟨hq,hqw,hr,hval⟩;simp only at hq hqw hr hval;have hlen:(List.replicate (x.length-q.length) 0++q).length=x.length:=by simp;omega
   simp only [go_sem,ht,hlen];refine⟨λh=>?_,λh=>?_⟩
   .obtain⟨n,hn⟩:∃n,n=x.length-q.length:=⟨_,rfl⟩;have hn0:0<n:=by omega
    have hi:((x.length:Int)-q.length-1).toNat=n-1:=by omega
    have g1:=Ub hx (n-1);have hd:=vF x hn0 (by omega)
    obtain⟨s1,s2⟩:=UaF (by omega) hr g1
    have s3:=kav (B:=4294967296) (a:=x.getD (n-1) 0) (by omega) (hn▸hval)
    have e1:r*4294967296 % 18446744073709551616=r*4294967296:=by omega
    have e2:x.getD (n-1) 0 % 18446744073709551616=x.getD (n-1) 0:=by omega
    have e3:m % 18446744073709551616=m:=by omega
    rw [hi,<-hn,e1,e2,e3,or32 _ _ g1];generalize hs:r*4294967296+x.getD (n-1) 0=s at s1 s2 s3;rw [Nat.mod_eq_of_lt (show s / m<18446744073709551616 by omega),Nat.mod_eq_of_lt s1]
    have hm0:s % m<m:=Nat.mod_lt _ (by omega)
    refine⟨by omega,by omega,by omega,⟨rfl,by omega,by omega⟩,by omega,⟨by omega,by omega⟩,by omega,by omega,by omega,(s / m::q,s % m),ja (by simp [bitvec_to_nat];omega) (Jf ?_),⟨by simp;omega,qc.2 ⟨s1,hqw⟩,hm0,?_⟩,by simp;omega⟩
    .simp only [List.length_cons];rw [zl q _ hn0,show x.length-(q.length+1)=n-1 by omega]
    .rw [Vg,List.length_cons,show x.length-(q.length+1)=n-1 by omega,hd];exact s3
   .have e:x.length-q.length=0:=by omega
    simp only [e,List.replicate_zero,List.nil_append,List.drop_zero]at hval ⊢;have h1:=Nat.div_mod_unique (show 0<m by omega) (a:=val x) (c:=r) (d:=val q)
    obtain⟨h2,h3⟩:=h1.2 ⟨by rw [<-hval,Nat.mul_comm m,Nat.add_comm],hr⟩
    rw [h2,h3]at hK;refine⟨hqw,by omega,?_⟩
    rw [Nat.mod_eq_of_lt (by omega)];exact hK
end Go.Abs
end
section
namespace Go.Abs
open Go.Num
variable {P:Program} {Γ:Nat->Spec}
def Zp:AC:=(.o [.m 4 (.c (.one .emp))] [0,1] (.o [.M 9 0,.Z 10 9,.I 11 .add 10 1,.u 12 (.mk 1 [(.lit (.int .u32 0))] (.t 11) (.t 11)),.M 5 12] [0,1,5] (.f (.o [.M 13 0,.Z 14 13,.N 15 0] [1,5,13,14,15] (.block 0 (.loop (.o [.B 16 .lss 15 14] [1,5,13,14,15,16] (.f (.cond (.t 16) .skip (.exit 0)) [1,5,13,14,15] (.f (.block 1 (.o [.M 17 15,.J 18 1 13 15,.F 19 1 18,.M 6 17,.M 7 19] [1,5,6,7,13,14,15] (.o [.M 20 7,.u 21 (.conv .u64 (.t 20)),.M 22 1,.B 23 .shl 21 22,.M 8 23] [1,5,6,8,13,14,15] (.o [.M 24 5,.M 25 6,.J 26 1 24 25,.F 27 1 26,.M 28 8,.u 29 (.conv .u32 (.t 28)),.B 30 .or 27 29,.J 31 1 24 25,.S 1 31 30] [1,5,6,8,13,14,15] (.p [.M 32 5,.M 33 6,.I 34 .add 33 1,.M 35 8,.u 36 (.bin .shr (.t 35) (.c (.one (.lit (.int .u64 32))))),.u 37 (.conv .u32 (.t 36)),.J 38 1 32 34,.S 1 38 37]))))) [1,5,13,14,15] (.p [.I 39 .add 15 1,.M 15 39]))))))) [5] (.seq (.p [.M 40 5,.M 4 40]) .ret))))
def xk(f0 f1:Nat):AC:=(.o [.m 4 (.c (.one .emp))] [0,1] (.o [.M 7 0,.Z 8 7,.u 9 (.mk 1 [(.lit (.int .u32 0))] (.t 8) (.t 8)),.M 5 9] [0,1,5] (.f (.o [.M 10 0,.Z 11 10,.N 12 0] [0,1,5,11,12] (.block 0 (.loop (.o [.B 13 .lss 12 11] [0,1,5,11,12,13] (.f (.cond (.t 13) .skip (.exit 0)) [0,1,5,11,12] (.f (.block 1 (.o [.M 14 12,.M 6 14] [0,1,5,6,11,12] (.y [.M 15 5,.M 16 6,.M 17 0,.M 18 6,.J 19 1 17 18,.F 20 1 19,.u 21 (.conv .u64 (.t 20)),.M 22 0,.M 23 6,.I 24 .add 23 1,.D 25 f0 22 24,.u 26 (.bin .shl (.t 25) (.c (.one (.lit (.int .u64 32))))),.B 27 .or 21 26,.M 28 1,.B 29 .shr 27 28,.u 30 (.conv .u32 (.t 29)),.J 31 1 15 16,.S 1 31 30]))) [0,1,5,11,12] (.p [.I 32 .add 12 1,.M 12 32]))))))) [5] (.seq (.p [.M 33 5,.H 34 f1 33,.M 4 34]) .ret))))
def yj(f0:Nat):AC:=(.o [.m 4 (.c (.one .emp))] [0,1] (.o [.M 11 0,.Z 12 11,.M 13 1,.Z 14 13,.B 15 .add 12 14,.u 16 (.mk 1 [(.lit (.int .u32 0))] (.t 15) (.t 15)),.M 5 16] [0,1,5] (.f (.o [.M 17 0,.Z 18 17,.N 19 0] [1,5,17,18,19] (.block 0 (.loop (.o [.B 20 .lss 19 18] [1,5,17,18,19,20] (.f (.cond (.t 20) .skip (.exit 0)) [1,5,17,18,19] (.f (.block 1 (.o [.M 21 19,.J 22 1 17 19,.F 23 1 22,.M 6 21,.M 7 23] [1,5,6,7,17,18,19] (.o [.m 8 (.c (.one (.lit (.int .u64 0))))] [1,5,6,7,8,17,18,19] (.f (.o [.M 24 1,.Z 25 24,.N 26 0] [1,5,6,7,8,17,18,19,24,25,26] (.block 2 (.loop (.o [.B 27 .lss 26 25] [1,5,6,7,8,17,18,19,24,25,26,27] (.f (.cond (.t 27) .skip (.exit 2)) [1,5,6,7,8,17,18,19,24,25,26] (.f (.block 3 (.o [.M 28 26,.J 29 1 24 26,.F 30 1 29,.M 9 28,.M 10 30] [1,5,6,7,8,9,10,17,18,19,24,25,26] (.o [.M 31 8,.M 32 7,.u 33 (.conv .u64 (.t 32)),.M 34 10,.u 35 (.conv .u64 (.t 34)),.B 36 .mul 33 35,.M 37 5,.M 38 6,.M 39 9,.B 40 .add 38 39,.J 41 1 37 40,.F 42 1 41,.u 43 (.conv .u64 (.t 42)),.B 44 .add 36 43,.B 45 .add 31 44,.M 8 45] [1,5,6,7,8,9,17,18,19,24,25,26] (.o [.M 46 5,.M 47 6,.M 48 9,.B 49 .add 47 48,.M 50 8,.u 51 (.conv .u32 (.t 50)),.J 52 1 46 49,.S 1 52 51] [1,5,6,7,8,17,18,19,24,25,26] (.p [.M 53 8,.u 54 (.bin .shr (.t 53) (.c (.one (.lit (.int .u64 32))))),.M 8 54]))))) [1,5,6,7,8,17,18,19,24,25,26] (.p [.I 55 .add 26 1,.M 26 55]))))))) [1,5,6,8,17,18,19] (.p [.M 56 5,.M 57 6,.M 58 1,.Z 59 58,.B 60 .add 57 59,.M 61 8,.u 62 (.conv .u32 (.t 61)),.J 63 1 56 60,.S 1 63 62]))))) [1,5,17,18,19] (.p [.I 64 .add 19 1,.M 19 64]))))))) [5] (.seq (.p [.M 65 5,.H 66 f0 65,.M 4 66]) .ret))))
theorem waG(hΓ:Holds P Γ){f:Nat}(hc:check P f=some (41,Zp.strip,[.tmp 4])):Sound P f (.fresh 1 up_G):=by
 refine QG hc ya5 hΓ (λargs K hcl hfi hG=>?_);match args,hG with
 | [a,b],hG=>
  obtain⟨x,rfl,hx,hG⟩:=hG;obtain⟨k,m,rfl,rfl,hm,hmB,hxl,hK⟩:=Qc hG;obtain⟨m,rfl⟩:∃n:Nat,m=n:=⟨m.toNat,by omega⟩
  simp only [Int.toNat_natCast]at hK;refine⟨by simp,?_⟩
  simp only [go_sem,Zp];intro h1;refine⟨by omega,by omega,λ_=>?_⟩
  refine Ua (λp:List Nat×Nat=>⟨mkV [(1,.one (.lit (.int .i64 m))),(5,.one (.own 12 1 1 0 (x.length+1))),(13,wsA x),(14,.one (.lit (.int .i64 x.length))),(15,.one (.lit (.int .i64 p.1.length)))],mkH [(12,⟨1,some ⟨(p.1++p.2::List.replicate (x.length-p.1.length) 0).map wc,1,true⟩⟩)]⟩)
   (λp=>p.1.length<=x.length/\WL p.1/\p.2<2 ^ m/\val p.1+4294967296 ^ p.1.length*p.2=val (x.take p.1.length)*2 ^ m) (λp=>x.length-p.1.length) ([],0) ?_ ?_ ?_
  .exact ja (by simp [bitvec_to_nat]) (Jf (by simp [List.replicate_succ]))
  .simp [Wc,val];exact Nat.pow_pos (by omega)
  .rintro⟨o,c⟩ ⟨hoN,ho,hc1,hval⟩;simp only at hoN ho hc1 hval;have hlen:(o++c::List.replicate (x.length-o.length) 0).length=x.length+1:=by simp;omega
   simp only [go_sem,hlen,List.length_set];refine⟨λhlt=>?_,λhge=>?_⟩
   .have g1:=Ub hx o.length;obtain⟨s1,s2,s3,s4⟩:=Ja1 (by omega) hc1 g1
    have e1:x.getD o.length 0 % 18446744073709551616=x.getD o.length 0:=by omega
    have hp:=xN (show m<32 by omega)
    rw [vbb,e1,Nat.mod_eq_of_lt s1,s2,jbc];generalize hy:x.getD o.length 0*2 ^ m=y at s1 s2 s3 s4;rw [Nat.mod_eq_of_lt (show y / 4294967296<4294967296 by omega)]
    refine⟨hlt,by omega,by omega,by omega,⟨rfl,by omega,by omega⟩,by omega,by omega,by omega,by omega,by omega,by omega,by omega,(o++[y % 4294967296+c],y / 4294967296),ja (by simp [bitvec_to_nat]) (Jf ?_),⟨by simp;omega,Yd.2 ⟨ho,qc.2 ⟨s3,Wc⟩⟩,s4,?_⟩,by simp;omega⟩
    .rw [show x.length-o.length=(x.length-(o.length+1))+1 by omega,List.replicate_succ,Va2];simp
    .simp only [List.length_append,List.length_cons,List.length_nil,Nat.zero_add,kb,ub,Vg,Uj,Nat.mul_zero,Nat.add_zero,Nat.pow_succ];rw [Ybe (B:=4294967296) (x:=y) hval rfl,Nat.add_mul,<-hy,Nat.mul_assoc]
   .have e:o.length=x.length:=by omega
    have hcB:c<4294967296:=by have:=xN (show m<32 by omega);omega
    rw [e,Jg (Nat.le_refl _)]at hval;simp only [e,Nat.sub_self,List.replicate_zero];have hw:WL (o++[c]):=Yd.2 ⟨ho,qc.2 ⟨hcB,Wc⟩⟩;have hv:val (o++[c])=val x*2 ^ m:=by rw [ub,e];simpa [val] using hval
    have:=Ys hw;rw [hv,List.length_append,List.length_singleton,e]at this;rw [<-this];exact hK
theorem Xam(hΓ:Holds P Γ){f fw ft:Nat}(hw:Γ fw=.dat true Qj)(ht:Γ ft=.dat false kp)(hc:check P f=some (35,(xk fw ft).strip,[.tmp 4])):Sound P f (.dat false QL):=by
 refine Va hc Uav hΓ (λargs K hcl hfi hG=>?_);match args,hG with
 | [a,b],hG=>
  obtain⟨x,rfl,hx,hG⟩:=hG;obtain⟨k,m,rfl,rfl,hm,hmB,hxl,hK⟩:=Qc hG;obtain⟨m,rfl⟩:∃n:Nat,m=n:=⟨m.toNat,by omega⟩
  simp only [Int.toNat_natCast]at hK;refine⟨by simp,?_⟩
  simp only [go_sem,xk,hw,ht];intro h1;refine⟨by omega,λ_=>?_⟩
  refine Ua (λo:List Nat=>⟨mkV [(0,wsA x),(1,.one (.lit (.int .i64 m))),(5,.one (.own 9 1 1 0 x.length)),(11,.one (.lit (.int .i64 x.length))),(12,.one (.lit (.int .i64 o.length)))],mkH [(9,⟨1,some ⟨(o++List.replicate (x.length-o.length) 0).map wc,1,true⟩⟩)]⟩)
   (λo=>o.length<=x.length/\WL o/\val o=val x / 2 ^ m % 4294967296 ^ o.length) (λo=>x.length-o.length) [] ?_ ?_ ?_
  .exact ja (by simp [bitvec_to_nat]) (Jf (by simp))
  .simp [Wc,val,Nat.mod_one]
  .rintro o ⟨hoN,ho,hval⟩;have hlen:(o++List.replicate (x.length-o.length) 0).length=x.length:=by simp;omega
   simp only [go_sem,hw,ht,hlen];refine⟨λhlt=>⟨hlt,by omega,hx,by omega,⟨rfl,by omega,by omega⟩,by omega,hlt,hlt,by omega,?_⟩,λhge=>?_⟩
   .have g1:=Ub hx o.length;have g2:=Ub hx (o.length+1);have e1:x.getD o.length 0 % 18446744073709551616=x.getD o.length 0:=by omega
    have e2:x.getD (o.length+1) 0*4294967296 % 18446744073709551616=x.getD (o.length+1) 0*4294967296:=by omega
    rw [e1,e2,or32' _ _ g1,show x.getD (o.length+1) 0*4294967296+x.getD o.length 0=x.getD o.length 0+4294967296*x.getD (o.length+1) 0 by omega,qV hx (by omega)]
    generalize hv:val x / 2 ^ m / 4294967296 ^ o.length % 4294967296=v;have hvB:v<4294967296:=by rw [<-hv];exact Nat.mod_lt _ (by omega)
    refine⟨o++[v],ja (by simp [bitvec_to_nat]) (Jf ?_),⟨by simp;omega,Yd.2 ⟨ho,qc.2 ⟨hvB,Wc⟩⟩,?_⟩,by simp;omega⟩
    .rw [show x.length-o.length=x.length-(o.length+1)+1 by omega,J5];simp
    .rw [ub,List.length_append,List.length_singleton,Qy,hv,<-hval];simp [val]
   .have e:o.length=x.length:=by omega
    have hlt:val x / 2 ^ m<4294967296 ^ x.length:=Nat.lt_of_le_of_lt (Nat.div_le_self _ _) (Xh hx);rw [e,Nat.mod_eq_of_lt hlt]at hval;simp only [e,Nat.sub_self,List.replicate_zero,List.append_nil];refine⟨ho,by omega,?_⟩
    rw [hval];exact hK
theorem vZ(hΓ:Holds P Γ){f ft:Nat}(ht:Γ ft=.dat false kp)(hc:check P f=some (67,(yj ft).strip,[.tmp 4])):Sound P f (.dat false yw):=by
 refine Va hc Vam hΓ (λargs K hcl hfi hG=>?_);match args,hG with
 | [a,b],hG=>
  obtain⟨x,rfl,hx,y,rfl,hy,hxl,hyl,hK⟩:=hG;refine⟨by simp,?_⟩
  simp only [go_sem,yj,ht];intro h1 h2;refine⟨by omega,by omega,λ_=>?_⟩
  generalize hN:x.length+y.length=N;refine Ua (λp:Nat×List Nat=>⟨mkV [(1,wsA y),(5,.one (.own 16 1 1 0 N)),(17,wsA x),(18,.one (.lit (.int .i64 x.length))),(19,.one (.lit (.int .i64 p.1)))],mkH [(16,⟨1,some ⟨p.2.map wc,1,true⟩⟩)]⟩)
   (λp=>p.1<=x.length/\WL p.2/\p.2.length=N/\val p.2=val (x.take p.1)*val y/\∀j,p.1+y.length<=j->p.2.getD j 0=0) (λp=>x.length-p.1) (0,List.replicate N 0) ?_ ?_ ?_
  .exact ja (by simp [bitvec_to_nat]) (Jf (by simp))
  .simp [zbh,val,VaC];intro j _;rw [List.getElem?_replicate];split <;> rfl
  .rintro⟨i,o⟩ ⟨hi,ho,hoN,hval,hz⟩;simp only at hi ho hoN hval hz;simp only [go_sem,ht,hoN];refine⟨λhlt=>⟨hlt,λ_=>?_⟩,λhge=>?_⟩
   .have g1:=Ub hx i;refine Ua (λp:Nat×Nat×List Nat=>⟨mkV [(1,wsA y),(5,.one (.own 16 1 1 0 N)),(6,.one (.lit (.int .i64 i))),(7,.one (.lit (.int .u32 (x.getD i 0:Nat)))),(8,.one (.lit (.int .u64 p.2.1))),(17,wsA x),(18,.one (.lit (.int .i64 x.length))),(19,.one (.lit (.int .i64 i))),(24,wsA y),(25,.one (.lit (.int .i64 y.length))),(26,.one (.lit (.int .i64 p.1)))],mkH [(16,⟨1,some ⟨p.2.2.map wc,1,true⟩⟩)]⟩)
     (λp=>p.1<=y.length/\p.2.1<4294967296/\WL p.2.2/\p.2.2.length=N/\val p.2.2+4294967296 ^ i*4294967296 ^ p.1*p.2.1=val (x.take i)*val y+4294967296 ^ i*x.getD i 0*val (y.take p.1)/\∀j,i+y.length<=j->p.2.2.getD j 0=0) (λp=>y.length-p.1) (0,0,o) ?_ ?_ ?_
    .exact ja (by simp [bitvec_to_nat]) (Jf rfl)
    .exact⟨Nat.zero_le _,by simp,ho,hoN,by simp [val,hval],hz⟩
    .rintro⟨k,c,o⟩ ⟨hk,hc,ho,hoN,hval,hz⟩;simp only at hk hc ho hoN hval hz;simp only [go_sem,ht,hoN];refine⟨λhlt2=>?_,λhge2=>?_⟩
     .have g2:=Ub hy k;have g3:=Ub ho (i+k);have s1:=uac g1 g2 hc g3;have e1:x.getD i 0 % 18446744073709551616=x.getD i 0:=by omega
      have e2:y.getD k 0 % 18446744073709551616=y.getD k 0:=by omega
      have e3:o.getD (i+k) 0 % 18446744073709551616=o.getD (i+k) 0:=by omega
      have hstep:=uak hval (by omega) rfl
      rw [e1,e2,e3,Nat.mod_eq_of_lt (show x.getD i 0*y.getD k 0<18446744073709551616 by omega),Nat.mod_eq_of_lt (show x.getD i 0*y.getD k 0+o.getD (i+k) 0<18446744073709551616 by omega),Nat.mod_eq_of_lt s1]
      generalize hs:c+(x.getD i 0*y.getD k 0+o.getD (i+k) 0)=s at s1 hstep;refine⟨hlt2,by omega,by omega,by omega,by omega,by omega,by omega,by omega,by omega,(k+1,s / 4294967296,o.set (i+k) (s % 4294967296)),ja (by simp [bitvec_to_nat]) (Jf rfl),⟨by simp only;omega,by simp only;omega,UaT ho _ (Nat.mod_lt _ (by omega)),by simp [hoN],hstep,?_⟩,by simp only;omega⟩
      intro j hj;simp only;rw [Num.getD_set_ne (by omega)];exact hz j hj
     .have e:k=y.length:=by omega
      subst e;have hend:=uaE hval (by omega) (hz _ (Nat.le_refl _))
      rw [Nat.mod_eq_of_lt hc];refine λ_=>⟨by omega,by omega,by omega,by omega,(i+1,o.set (i+y.length) c),ja (by simp [bitvec_to_nat]) (Jf rfl),⟨by simp only;omega,UaT ho _ hc,by simp [hoN],hend,?_⟩,by simp only;omega⟩
      intro j hj;simp only at hj ⊢;rw [Num.getD_set_ne (by omega)];exact hz j (by omega)
   .have e:i=x.length:=by omega
    subst e;rw [Jg (Nat.le_refl _)]at hval;refine⟨ho,by omega,?_⟩
    rw [hval];exact hK
end Go.Abs
end
section
namespace Go.Abs
open Go.Num
variable {P:Program} {Γ:Nat->Spec}
def qi(f0:Nat):AC:=(.o [.m 6 .fa] [0,1,2] (.o [.m 7 (.c (.one (.lit (.int .u64 0)))),.m 8 (.c (.one (.lit (.int .u64 0))))] [0,1,2,7,8] (.f (.o [.M 11 0,.Z 12 11,.N 13 0] [0,1,2,7,8,12,13] (.block 0 (.loop (.o [.B 14 .lss 13 12] [0,1,2,7,8,12,13,14] (.f (.cond (.t 14) .skip (.exit 0)) [0,1,2,7,8,12,13] (.f (.block 1 (.o [.M 15 13,.M 9 15] [0,1,2,7,8,9,12,13] (.o [.M 16 7,.M 17 2,.M 18 1,.M 19 9,.D 20 f0 18 19,.B 21 .mul 17 20,.B 22 .add 16 21,.M 7 22] [0,1,2,7,8,9,12,13] (.o [.M 23 0,.M 24 9,.J 25 1 23 24,.F 26 1 25,.u 27 (.conv .u64 (.t 26)),.M 28 7,.u 29 (.conv .u32 (.t 28)),.u 30 (.conv .u64 (.t 29)),.B 31 .sub 27 30,.M 32 8,.B 33 .sub 31 32,.M 10 33] [0,1,2,7,9,10,12,13] (.o [.M 34 0,.M 35 9,.M 36 10,.u 37 (.conv .u32 (.t 36)),.J 38 1 34 35,.S 1 38 37] [0,1,2,7,10,12,13] (.o [.M 39 10,.u 40 (.bin .shr (.t 39) (.c (.one (.lit (.int .u64 63))))),.M 8 40] [0,1,2,7,8,12,13] (.p [.M 41 7,.u 42 (.bin .shr (.t 41) (.c (.one (.lit (.int .u64 32))))),.M 7 42]))))))) [0,1,2,7,8,12,13] (.p [.I 43 .add 13 1,.M 13 43]))))))) [8] (.seq (.p [.M 44 8,.u 45 (.bin .eql (.t 44) (.c (.one (.lit (.int .u64 1))))),.M 6 45]) .ret))))
def wl(f0:Nat):AC:=(.o [.m 4 (.c (.one (.lit (.int .u64 0))))] [0,1,4] (.o [.M 6 0,.Z 7 6,.N 8 0] [0,1,4,7,8] (.block 0 (.loop (.o [.B 9 .lss 8 7] [0,1,4,7,8,9] (.f (.cond (.t 9) .skip (.exit 0)) [0,1,4,7,8] (.f (.block 1 (.o [.M 10 8,.M 5 10] [0,1,4,5,7,8] (.f (.y [.M 11 4,.M 12 0,.M 13 5,.J 14 1 12 13,.F 15 1 14,.u 16 (.conv .u64 (.t 15)),.M 17 1,.M 18 5,.D 19 f0 17 18,.B 20 .add 16 19,.B 21 .add 11 20,.M 4 21]) [0,1,4,5,7,8] (.o [.M 22 0,.M 23 5,.M 24 4,.u 25 (.conv .u32 (.t 24)),.J 26 1 22 23,.S 1 26 25] [0,1,4,7,8] (.p [.M 27 4,.u 28 (.bin .shr (.t 27) (.c (.one (.lit (.int .u64 32))))),.M 4 28]))))) [0,1,4,7,8] (.p [.I 29 .add 8 1,.M 8 29]))))))))
theorem YT(hΓ:Holds P Γ){f fw:Nat}(hw:Γ fw=.dat true Qj)(hc:check P f=some (46,(qi fw).strip,[.tmp 6])):Sound P f (.own Jk):=by
 refine vq hc hΓ (λd args h K hG=>?_);unfold Jk at hG;split at hG
 case h_2=>exact hG.elim
 rename_i r ver off len b n;obtain⟨v,rfl,hv,pre,seg,post,m,rfl,rfl,rfl,hr,hseg,hm,hvl,hlt,hsl,hK⟩:=hG;refine⟨[r],[⟨(pre++seg++post).map wc,1,true⟩],[.one (.own 1048576 ver 1 pre.length seg.length),wsA v,.one (.lit (.int .u64 m))],by simp,rfl,?_,?_,?_,λhfi=>⟨by simp,?_⟩⟩
 .intro i r' b h1 h2;cases i with
  | zero=>simp only [List.getElem?_cons_zero,zOI]at h1 h2;subst h1 h2;exact⟨by rw [hr],rfl,of_eq_true (yc _)⟩
  | succ i=>simp at h1
 .simp [exA,exC,exB,nameOf,pinA,wsA,ws]
 .intro a ha;simp only [List.mem_cons,List.not_mem_nil,or_false]at ha;rcases ha with rfl | rfl | rfl
  .simp [pasA,pasC,pasB,nameOf,pinA]
  .exact .slice _ (of_eq_true (yc _))
  .exact .lit _
 simp only [go_sem,qi,hw,hr];intro h1;refine Ua (λp:List Nat×Nat×Nat×Nat=>⟨mkV [(0,.one (.own 1048576 ver 1 pre.length seg.length)),(1,wsA v),(2,.one (.lit (.int .u64 m))),(7,.one (.lit (.int .u64 p.2.1))),(8,.one (.lit (.int .u64 p.2.2.1))),(12,.one (.lit (.int .i64 seg.length))),(13,.one (.lit (.int .i64 p.1.length)))],
   mkH [(1048576,⟨ver,some ⟨(pre++(p.1++seg.drop p.1.length)++post).map wc,1,true⟩⟩)]⟩)
  (λp=>p.1.length<=seg.length/\WL p.1/\(p.2.1=0∨p.2.1<m)/\p.2.2.1<=1/\p.2.2.2+4294967296 ^ p.1.length*p.2.1=m*val (v.take p.1.length)/\val p.1+p.2.2.2=val (seg.take p.1.length)+4294967296 ^ p.1.length*p.2.2.1) (λp=>seg.length-p.1.length) ([],0,0,0) ?_ ?_ ?_
 .exact ja (by simp [bitvec_to_nat]) (Jf (by simp))
 .simp [Wc,val]
 .rintro⟨o,c,bw,p⟩ ⟨hoN,ho,hc1,hb1,hp1,hp2⟩;simp only at hoN ho hc1 hb1 hp1 hp2;have hlen:(pre++(o++seg.drop o.length)++post).length=pre.length+seg.length+post.length:=by simp;omega
  simp only [go_sem,hw,hr,hlen];refine⟨λhlt2=>?_,λhge=>?_⟩
  .have g1:=Ub hseg o.length;have g2:=Ub hv o.length;obtain⟨s1,s2⟩:=JaC hm g2 hc1;have a1:=yaM (B:=4294967296) (v:=v.getD o.length 0) hp1;have e1:m*v.getD o.length 0 % 18446744073709551616=m*v.getD o.length 0:=Nat.mod_eq_of_lt (by omega)
   have e2:seg.getD o.length 0 % 18446744073709551616=seg.getD o.length 0:=by omega
   rw [xan _ _ _ _ hlt2,e1,e2,Nat.mod_eq_of_lt s1,zY _ _ _ _ _ hlt2];generalize hs:c+m*v.getD o.length 0=s at s1 s2 a1;have e3:s % 4294967296 % 18446744073709551616=s % 4294967296:=by omega
   rw [e3];obtain⟨t1,t2⟩:=wai (b:=s % 4294967296) g1 (by omega) hb1
   generalize sub64 (sub64 (seg.getD o.length 0) (s % 4294967296)) bw=d at t1 t2;have a2:=yaJ hp2 t1;refine⟨hv,hlt2,by omega,hlt2,by omega,by omega,by omega,by omega,(o++[d % 4294967296],s / 4294967296,d / 9223372036854775808,p+4294967296 ^ o.length*(s % 4294967296)),ja (by simp [bitvec_to_nat]) (Jf rfl),⟨by simp;omega,Yd.2 ⟨ho,qc.2 ⟨Nat.mod_lt _ (by omega),Wc⟩⟩,s2,t2,?_,?_⟩,by simp;omega⟩
   .simp only [List.length_append,List.length_cons,List.length_nil,Nat.zero_add,kb,Nat.pow_succ];exact a1
   .simp only [List.length_append,List.length_cons,List.length_nil,Nat.zero_add,kb,ub,Vg,Uj,Nat.mul_zero,Nat.add_zero,Nat.pow_succ];exact a2
  .have e:o.length=seg.length:=by omega
   rw [e]at hp1 hp2;rw [Jg hvl]at hp1;rw [Jg (Nat.le_refl _)]at hp2;obtain⟨t1,t2⟩:=yaW ho e hp1 hlt hp2 hb1;rw [List.drop_of_length_le (by omega),List.append_nil]
   rw [<-t1]at hK;have:(decide ((bw:Int)=1))=decide (val seg<m*val v):=by
    rw [decide_eq_decide,<-t2];omega
   rw [this];exact hK
theorem Qan(hΓ:Holds P Γ){f fw:Nat}(hw:Γ fw=.dat true Qj)(hc:check P f=some (30,(wl fw).strip,[])):Sound P f (.own uv):=by
 refine vq hc hΓ (λd args h K hG=>?_);unfold uv at hG;split at hG
 case h_2=>exact hG.elim
 rename_i r ver off len b;obtain⟨v,rfl,hv,pre,seg,post,rfl,rfl,hr,hseg,hvl,hsl,hK⟩:=hG;refine⟨[r],[⟨(pre++seg++post).map wc,1,true⟩],[.one (.own 1048576 ver 1 pre.length seg.length),wsA v],by simp,rfl,?_,?_,?_,λhfi=>⟨by simp,?_⟩⟩
 .intro i r' b h1 h2;cases i with
  | zero=>simp only [List.getElem?_cons_zero,zOI]at h1 h2;subst h1 h2;exact⟨by rw [hr],rfl,of_eq_true (yc _)⟩
  | succ i=>simp at h1
 .simp [exA,exC,exB,nameOf,pinA,wsA,ws]
 .intro a ha;simp only [List.mem_cons,List.not_mem_nil,or_false]at ha;rcases ha with rfl | rfl
  .simp [pasA,pasC,pasB,nameOf,pinA]
  .exact .slice _ (of_eq_true (yc _))
 simp only [go_sem,wl,hw,hr];intro h1;refine Ua (λp:List Nat×Nat=>⟨mkV [(0,.one (.own 1048576 ver 1 pre.length seg.length)),(1,wsA v),(4,.one (.lit (.int .u64 p.2))),(7,.one (.lit (.int .i64 seg.length))),(8,.one (.lit (.int .i64 p.1.length)))],
   mkH [(1048576,⟨ver,some ⟨(pre++(p.1++seg.drop p.1.length)++post).map wc,1,true⟩⟩)]⟩)
  (λp=>p.1.length<=seg.length/\WL p.1/\p.2<=1/\val p.1+4294967296 ^ p.1.length*p.2=val (seg.take p.1.length)+val (v.take p.1.length)) (λp=>seg.length-p.1.length) ([],0) ?_ ?_ ?_
 .exact ja (by simp [bitvec_to_nat]) (Jf (by simp))
 .simp [Wc,val]
 .rintro⟨o,c⟩ ⟨hoN,ho,hc1,hp1⟩;simp only at hoN ho hc1 hp1;have hlen:(pre++(o++seg.drop o.length)++post).length=pre.length+seg.length+post.length:=by simp;omega
  simp only [go_sem,hw,hr,hlen];refine⟨λhlt2=>?_,λhge=>?_⟩
  .have g1:=Ub hseg o.length;have g2:=Ub hv o.length;have e2:seg.getD o.length 0 % 18446744073709551616=seg.getD o.length 0:=by omega
   rw [xan _ _ _ _ hlt2,e2,Nat.mod_eq_of_lt (show seg.getD o.length 0+v.getD o.length 0<18446744073709551616 by omega),Nat.mod_eq_of_lt (show c+(seg.getD o.length 0+v.getD o.length 0)<18446744073709551616 by omega),zY _ _ _ _ _ hlt2]
   have a1:=XaF (B:=4294967296) (a:=seg.getD o.length 0) (b:=v.getD o.length 0) hp1 rfl;generalize hs:c+(seg.getD o.length 0+v.getD o.length 0)=s at a1;refine⟨hlt2,by omega,hv,hlt2,by omega,by omega,by omega,(o++[s % 4294967296],s / 4294967296),ja (by simp [bitvec_to_nat]) (Jf rfl),⟨by simp;omega,Yd.2 ⟨ho,qc.2 ⟨Nat.mod_lt _ (by omega),Wc⟩⟩,by simp only;omega,?_⟩,by simp;omega⟩
   simp only [List.length_append,List.length_cons,List.length_nil,Nat.zero_add,kb,ub,Vg,Uj,Nat.mul_zero,Nat.add_zero,Nat.pow_succ];exact a1
  .have e:o.length=seg.length:=by omega
   rw [e,Jg hvl,Jg (Nat.le_refl _)]at hp1;have t1:=yaH ho e hp1;rw [List.drop_of_length_le (by omega),List.append_nil]
   rw [<-t1]at hK;exact hK
end Go.Abs
end
section
namespace Go.Num
theorem kr:∀(a b X:Nat),dig (a+b) X=dig a X++dig b (X / 4294967296 ^ a)
 | 0,b,X=>by simp [dig]
 | a+1,b,X=>by
  rw [show a+1+b=(a+b)+1 by omega,dig,dig,kr a b,Nat.div_div_eq_div_mul,Nat.pow_succ,Nat.mul_comm 4294967296];simp
theorem qaf:∀k,dig k 0=List.replicate k 0
 | 0=>rfl
 | k+1=>by rw [dig,Nat.zero_mod,Nat.zero_div,qaf k,List.replicate_succ]
theorem wN:∀(k i X:Nat),i<k->(dig k X).getD i 0=X / 4294967296 ^ i % 4294967296
 | k+1,0,X,_=>by simp [dig]
 | k+1,i+1,X,h=>by
  rw [dig,List.getD_cons_succ,wN k i _ (by omega),Nat.div_div_eq_div_mul,Nat.pow_succ,Nat.mul_comm 4294967296]
theorem yO:∀(k X:Nat),dig k (X % 4294967296 ^ k)=dig k X:=by
 intro k X;refine YY (Uh _ _) (Uh _ _) (by rw [ka,ka]) ?_
 rw [Qh,Qh,Nat.mod_mod]
theorem UaX{j X Y:Nat}:dig j (X % 4294967296 ^ j+4294967296 ^ j*Y)=dig j X:=by
 rw [<-yO,Nat.add_mul_mod_self_left,Nat.mod_mod,yO]
theorem YE{L j n X:Nat}(h:j+(n+1)<=L)(hX:X / 4294967296 ^ j<4294967296 ^ (n+1)) :
  dig L X=dig j X++dig (n+1) (X / 4294967296 ^ j)++List.replicate (L-(j+(n+1))) 0:=by
 conv=>lhs;rw [show L=j+(n+1)+(L-(j+(n+1))) by omega]
 rw [kr,kr,Nat.pow_add,<-Nat.div_div_eq_div_mul,Nat.div_eq_of_lt hX,qaf]
theorem kaf{L j n X R:Nat}(h:j+(n+1)<=L)(hR:R<4294967296 ^ (n+1)) :
  dig j X++dig (n+1) R++List.replicate (L-(j+(n+1))) 0=dig L (X % 4294967296 ^ j+4294967296 ^ j*R):=by
 have e:(X % 4294967296 ^ j+4294967296 ^ j*R) / 4294967296 ^ j=R:=by
  rw [Nat.add_mul_div_left _ _ (pow_pos j),Nat.div_eq_of_lt (Nat.mod_lt _ (pow_pos j)),Nat.zero_add]
 rw [YE h (by rw [e];exact hR),e,UaX]
structure Step (B n V P top next head u2:Nat):Prop where
 hB:2<=B
 hn:2<=n
 vlow:∃l,V=(top*B+next)*B ^ (n-2)+l/\l<B ^ (n-2)
 plow:∃l,P=(head*B+u2)*B ^ (n-2)+l/\l<B ^ (n-2)
 nextB:next<B
 topB:top<B
 half:B<=2*top
 u2B:u2<B
 lt:P<V*B
namespace Step
variable {B n V P top next head u2:Nat}
theorem vpos(s:Step B n V P top next head u2):0<V:=by
 obtain⟨l,h,_⟩:=s.vlow;have:0<B ^ (n-2):=Nat.pow_pos (by have:=s.hB;omega)
 have h2:0<top*B+next:=by
  have:=Nat.mul_pos (show 0<top by have:=s.half;have:=s.hB;omega) (show 0<B by have:=s.hB;omega)
  omega
 have:=Nat.mul_pos h2 this;omega
theorem down(s:Step B n V P top next head u2){g r:Nat}(hg:g*top+r=head)(h:B<=g∨r*B+u2<g*next):P / V<g:=by
 rw [Nat.div_lt_iff_lt_mul s.vpos];rcases h with h | h
 .have h1:=Nat.mul_le_mul_right V h;have:=s.lt;rw [Nat.mul_comm V]at this;omega
 .obtain⟨lv,hv,hlv⟩:=s.vlow;obtain⟨lp,hp,hlp⟩:=s.plow;generalize B ^ (n-2)=p at hv hlv hp hlp;have h1:head*B+u2+1<=g*(top*B+next):=by
   rw [<-hg];have:(g*top+r)*B=g*(top*B)+r*B:=by rw [Nat.add_mul,Nat.mul_assoc]
   rw [this,Nat.mul_add];omega
  have h2:=Nat.mul_le_mul_right p h1;rw [Nat.add_mul,Nat.one_mul]at h2;have h3:g*(top*B+next)*p<=g*V:=by
   rw [Nat.mul_assoc];exact Nat.mul_le_mul_left _ (by omega)
  omega
theorem stop(s:Step B n V P top next head u2){g r:Nat}(hg:g*top+r=head)(hgB:g<=B)(h:B<=r∨(g<B/\g*next<=r*B+u2)):g*V<=P+V:=by
 obtain⟨lv,hv,hlv⟩:=s.vlow;obtain⟨lp,hp,hlp⟩:=s.plow;have hB:=s.hB;have hn:=s.hn;have hpp:0<B ^ (n-2):=Nat.pow_pos (by omega)
 have h1:g*(top*B+next)<=head*B+u2:=by
  rw [<-hg,Nat.add_mul,Nat.mul_add,Nat.mul_assoc];rcases h with h | h
  .have h3:g*next<=B*B:=Nat.mul_le_mul hgB (Nat.le_of_lt s.nextB)
   have h4:B*B<=r*B:=Nat.mul_le_mul_right _ h;omega
  .omega
 have hVtop:B*B ^ (n-2)<=V:=by
  have:B<=top*B:=Nat.le_mul_of_pos_left _ (by have:=s.half;omega)
  have:=Nat.mul_le_mul_right (B ^ (n-2)) (show B<=top*B+next by omega)
  omega
 generalize B ^ (n-2)=p at hv hlv hp hlp hpp hVtop;have h2:=Nat.mul_le_mul_right p h1;have h5:g*V<=g*((top*B+next)*p)+g*p:=by
  rw [hv,Nat.mul_add];exact Nat.add_le_add_left (Nat.mul_le_mul_left _ (Nat.le_of_lt hlv)) _
 have h6:g*p<=B*p:=Nat.mul_le_mul_right _ hgB;rw [<-Nat.mul_assoc]at h5;omega
theorem first(s:Step B n V P top next head u2):head / top<=B+1/\P / V<=head / top:=by
 have hB:=s.hB;have ht:0<top:=by have:=s.half;omega
 obtain⟨lv,hv,hlv⟩:=s.vlow;obtain⟨lp,hp,hlp⟩:=s.plow;have hlt:=s.lt;have hnext:=s.nextB;have hu2:=s.u2B;constructor
 .have h1:head<=top*B+next:=by
   rcases Nat.lt_or_ge (top*B+next) head with h | h
   .exfalso;have h2:=Nat.mul_le_mul_right (B ^ (n-2)) (Nat.mul_le_mul_right B h);have h3:(top*B+next+1)*B*B ^ (n-2)=((top*B+next)*B ^ (n-2)+B ^ (n-2))*B:=by
     generalize B ^ (n-2)=p;grind
    rw [Nat.succ_eq_add_one,h3]at h2;have h4:V*B<=((top*B+next)*B ^ (n-2)+B ^ (n-2))*B:=Nat.mul_le_mul_right _ (by omega)
    have h5:head*B*B ^ (n-2)<=P:=by
     rw [hp,Nat.add_mul];omega
    omega
   .exact h
  have h2:head<(B+2)*top:=by
   have:=s.half;have:(B+2)*top=top*B+2*top:=by rw [Nat.add_mul,Nat.mul_comm B]
   omega
  have:=(Nat.div_lt_iff_lt_mul ht).2 h2;omega
 .have:P / V<head / top+1:=by
   rw [Nat.div_lt_iff_lt_mul s.vpos];have h1:head<(head / top+1)*top:=by
    have:=Nat.div_add_mod head top;have:=Nat.mod_lt head ht;rw [Nat.add_mul,Nat.one_mul,Nat.mul_comm (head / top)];omega
   have h2:head+1<=(head / top+1)*top:=h1;have h3:=Nat.mul_le_mul_right (B ^ (n-2)) (Nat.mul_le_mul_right B h2);have h4:(head / top+1)*top*B*B ^ (n-2)<=(head / top+1)*V:=by
    rw [Nat.mul_assoc,Nat.mul_assoc];refine Nat.mul_le_mul_left _ ?_;rw [hv,Nat.add_mul,<-Nat.mul_assoc];omega
   have h5:P<(head+1)*B*B ^ (n-2):=by
    rw [hp];have:(head*B+u2+1)*B ^ (n-2)<=(head+1)*B*B ^ (n-2):=Nat.mul_le_mul_right _ (by rw [Nat.add_mul,Nat.one_mul];omega)
    rw [Nat.add_mul,Nat.one_mul]at this;omega
   omega
  omega
theorem left(s:Step B n V P top next head u2){g:Nat}(h1:P / V<=g)(h2:g*V<=P+V) :
  (P<g*V->g=P / V+1)/\(¬P<g*V->g=P / V):=by
 have hv:=s.vpos;have e:=Nat.div_add_mod P V;have m:=Nat.mod_lt P hv;constructor
 .intro h;have h3:g<=P / V+1:=by
   rcases Nat.lt_or_ge (P / V+1) g with h4 | h4
   .exfalso;have:=Nat.mul_le_mul_right V (show P / V+2<=g from h4);rw [Nat.add_mul,Nat.mul_comm (P / V)]at this;omega
   .exact h4
  have h5:P / V<g:=by rw [Nat.div_lt_iff_lt_mul hv];exact h
  omega
 .intro h;have:g<=P / V:=by rw [Nat.le_div_iff_mul_le hv];omega
  omega
theorem quot(s:Step B n V P top next head u2):P / V<B:=by
 rw [Nat.div_lt_iff_lt_mul s.vpos,Nat.mul_comm];exact s.lt
end Step
theorem UaM(n k X:Nat):(dig (n+k) X).take n=dig n X:=by
 rw [kr,List.take_append_of_le_length (by rw [ka];exact Nat.le_refl _),List.take_of_length_le (by rw [ka];exact Nat.le_refl _)]
theorem Jal{t:Nat}(h0:0<t)(h:t<4294967296):Lib.bitLen t=Nat.log2 t+1:=by
 have h1:2 ^ Nat.log2 t<=t:=Nat.log2_self_le (by omega)
 have h2:t<2 ^ (Nat.log2 t+1):=Nat.lt_log2_self;rw [Lib.bitLen_shift _ _ h1 (by omega)]
 have:t / 2 ^ Nat.log2 t=1:=by
  rw [Nat.pow_succ]at h2;have hp:0<2 ^ Nat.log2 t:=Nat.pow_pos (by omega)
  generalize 2 ^ Nat.log2 t=p at h1 h2 hp;have a:t / p<2:=(Nat.div_lt_iff_lt_mul hp).2 (by omega)
  have b:1<=t / p:=(Nat.le_div_iff_mul_le hp).2 (by omega)
  omega
 rw [this];rfl
theorem XaY{t:Nat}(h0:0<t)(h:t<4294967296):∃s:Nat,s<32/\(32-(Lib.bitLen t:Int))=s/\2147483648<=t*2 ^ s/\(t+1)*2 ^ s<=4294967296:=by
 have h1:2 ^ Nat.log2 t<=t:=Nat.log2_self_le (by omega)
 have h2:t<2 ^ (Nat.log2 t+1):=Nat.lt_log2_self;have hl:Nat.log2 t<32:=by rw [Nat.log2_lt (by omega)];exact h
 rw [Jal h0 h];refine⟨31-Nat.log2 t,by omega,by omega,?_,?_⟩
 .have:=Nat.mul_le_mul_right (2 ^ (31-Nat.log2 t)) h1;rw [<-Nat.pow_add,show Nat.log2 t+(31-Nat.log2 t)=31 by omega]at this
  exact this
 .have:=Nat.mul_le_mul_right (2 ^ (31-Nat.log2 t)) (show t+1<=_ from h2);rw [<-Nat.pow_add,show Nat.log2 t+1+(31-Nat.log2 t)=32 by omega]at this
  exact this
theorem shifted{y:List Nat}{s:Nat}(hy:WL y)(hn:0<y.length)(h1:2147483648<=y.getD (y.length-1) 0*2 ^ s)(h2:(y.getD (y.length-1) 0+1)*2 ^ s<=4294967296) :
  val y*2 ^ s<4294967296 ^ y.length/\4294967296 ^ y.length<=2*(val y*2 ^ s):=by
 have e:=UE y (y.length-1) (by omega)
 rw [List.drop_of_length_le (by omega),Uj,Nat.mul_zero,Nat.add_zero]at e
 have hl:=Xh (ko hy (y.length-1));rw [List.length_take,Nat.min_eq_left (by omega)]at hl
 rw [e,Xz hn];generalize y.getD (y.length-1) 0=t at *
 generalize 4294967296 ^ (y.length-1)=p at *
 generalize val (y.take (y.length-1))=v at *
 have hs:0<2 ^ s:=Nat.pow_pos (by omega)
 generalize 2 ^ s=q at *
 have a1:=Nat.mul_le_mul_left p h1;have a2:=Nat.mul_le_mul_left p h2;have a3:=(Nat.mul_lt_mul_right hs).2 hl;rw [Nat.add_mul,Nat.one_mul,Nat.mul_add]at a2;rw [Nat.add_mul,Nat.mul_assoc p t q];constructor
 .omega
 .have:2*(p*2147483648)=p*(2*2147483648):=Nat.mul_left_comm _ _ _;rw [show 2*2147483648=4294967296 from rfl]at this;rw [<-this];exact Nat.mul_le_mul_left 2 (Nat.le_trans a1 (Nat.le_add_left _ _))
theorem YaH{x y:List Nat}{s:Nat}(hx:WL x)(hs:s<32)(hV:4294967296 ^ y.length<=2*(val y*2 ^ s))(hl:y.length<=x.length+1) :
  val x*2 ^ s<val y*2 ^ s*4294967296 ^ (x.length+1-y.length):=by
 have h1:=Xh hx;have h2:=xN hs;have h3:4294967296 ^ x.length*4294967296=4294967296 ^ y.length*4294967296 ^ (x.length+1-y.length):=by
  rw [<-Nat.pow_succ,<-Nat.pow_add];congr 1;omega
 have h4:=Nat.mul_le_mul_right (4294967296 ^ (x.length+1-y.length)) hV;rw [<-h3,Nat.mul_assoc]at h4;have h5:val x*2 ^ s<4294967296 ^ x.length*2147483648:=
  Nat.lt_of_lt_of_le ((Nat.mul_lt_mul_right (Nat.pow_pos (by omega))).2 h1) (Nat.mul_le_mul_left _ h2)
 omega
theorem va0{n V P:Nat}(hn:2<=n)(hV1:V<4294967296 ^ n)(hV2:4294967296 ^ n<=2*V)(hP:P<V*4294967296) :
  Step 4294967296 n V P (V / 4294967296 ^ (n-1) % 4294967296) (V / 4294967296 ^ (n-2) % 4294967296) (P / 4294967296 ^ n % 4294967296*4294967296+P / 4294967296 ^ (n-1) % 4294967296) (P / 4294967296 ^ (n-2) % 4294967296):=by
 have e1:4294967296 ^ n=4294967296 ^ (n-1)*4294967296:=Xz (by omega)
 have e2:4294967296 ^ (n-1)=4294967296 ^ (n-2)*4294967296:=by rw [Xz (show 0<n-1 by omega),show n-1-1=n-2 by omega]
 have hp:=pow_pos (n-2);have ht:V / 4294967296 ^ (n-1)<4294967296:=by
  rw [Nat.div_lt_iff_lt_mul (pow_pos _),Nat.mul_comm,<-e1];exact hV1
 have hh:P / 4294967296 ^ n<4294967296:=by
  rw [Nat.div_lt_iff_lt_mul (pow_pos _)];have:=(Nat.mul_lt_mul_right (show 0<4294967296 by omega)).2 hV1
  rw [Nat.mul_comm (4294967296 ^ n)]at this;omega
 have q1:V / 4294967296 ^ (n-1)=V / 4294967296 ^ (n-2) / 4294967296:=by rw [e2,Nat.div_div_eq_div_mul]
 have q2:P / 4294967296 ^ (n-1)=P / 4294967296 ^ (n-2) / 4294967296:=by rw [e2,Nat.div_div_eq_div_mul]
 have q3:P / 4294967296 ^ n=P / 4294967296 ^ (n-1) / 4294967296:=by rw [e1,Nat.div_div_eq_div_mul]
 refine⟨by omega,hn,⟨V % 4294967296 ^ (n-2),?_,Nat.mod_lt _ hp⟩,⟨P % 4294967296 ^ (n-2),?_,Nat.mod_lt _ hp⟩,Nat.mod_lt _ (by omega),Nat.mod_lt _ (by omega),?_,Nat.mod_lt _ (by omega),hP⟩
 .rw [Nat.mod_eq_of_lt ht,q1];rw [Nat.div_add_mod' (V / 4294967296 ^ (n-2)),Nat.mul_comm];exact(Nat.div_add_mod _ _).symm
 .rw [Nat.mod_eq_of_lt hh,q3,q2];rw [Nat.div_add_mod' (P / 4294967296 ^ (n-2) / 4294967296),Nat.div_add_mod' (P / 4294967296 ^ (n-2)),Nat.mul_comm];exact(Nat.div_add_mod _ _).symm
 .rw [Nat.mod_eq_of_lt ht];have:2147483648<=V / 4294967296 ^ (n-1):=by
   rw [Nat.le_div_iff_mul_le (pow_pos _)];rw [e1]at hV2;generalize 4294967296 ^ (n-1)=p at hV2 ⊢;omega
  omega
theorem JaL{a b:Nat}(h:¬a<b):(ordN a b<0)=False:=by
 unfold ordN;rw [if_neg h];split <;> simp
theorem yad{j X V A q Q:Nat}(hV:0<V)(hA:A=X+V*4294967296 ^ (j+1)*Q)(hq:q=X / 4294967296 ^ j / V) :
  A=(X % 4294967296 ^ j+4294967296 ^ j*(X / 4294967296 ^ j % V))+V*4294967296 ^ j*(q+4294967296*Q)/\X % 4294967296 ^ j+4294967296 ^ j*(X / 4294967296 ^ j % V)<V*4294967296 ^ j:=by
 have hp:=pow_pos j;rw [Nat.pow_succ]at hA;generalize 4294967296 ^ j=p at *
 have e1:=Nat.div_add_mod X p;have e2:=Nat.div_add_mod (X / p) V;have m1:=Nat.mod_lt X hp;have m2:=Nat.mod_lt (X / p) hV;rw [<-hq]at e2;generalize X % p=r at *
 generalize hS:X / p % V=S at *
 generalize X / p=Z at *
 generalize 4294967296=B at hA ⊢;subst hA e2 e1;constructor
 .grind
 .have:p*(S+1)<=p*V:=Nat.mul_le_mul_left _ m2;rw [Nat.mul_add,Nat.mul_one]at this;rw [Nat.mul_comm V];omega
theorem jK(k X:Nat):dig k (X+4294967296 ^ k)=dig k X:=by
 rw [<-yO,Nat.add_mod_right,yO]
theorem QaP{k P V g:Nat}(hg:g=P / V):dig k (P+4294967296 ^ k-g*V)=dig k (P % V):=by
 have e:g*V+P % V=P:=by rw [hg,Nat.mul_comm];exact Nat.div_add_mod P V
 clear hg;generalize P % V=r at *
 generalize hp:4294967296 ^ k=p;rw [show P+p-g*V=r+p by omega,<-hp,jK]
theorem jaU{k P V g:Nat}(hg:g=P / V+1)(hb:P<g*V)(hk:g*V<4294967296 ^ k):dig k (val (dig k (P+4294967296 ^ k-g*V))+V)=dig k (P % V):=by
 have e:P / V*V+P % V=P:=by rw [Nat.mul_comm];exact Nat.div_add_mod P V
 have:g*V=P / V*V+V:=by rw [hg,Nat.add_mul,Nat.one_mul]
 rw [Qh,Nat.mod_eq_of_lt (by omega)]
 clear hg;generalize P / V*V=q at *
 generalize P % V=r at *
 generalize g*V=gv at *
 generalize hp:4294967296 ^ k=p at *
 rw [show P+p-gv+V=r+p by omega,<-hp,jK]
theorem xaC{a b:Nat}(ha:a<4294967296)(hb:b<4294967296):a*b<18446744073709551616:=by
 have h:=uac ha hb (c:=0) (d:=0) (by decide) (by decide)
 rwa [Nat.zero_add,Nat.add_zero]at h
theorem YH{q:Nat}(h:q<4294967296):sub64 (q+1) 1=q:=by rw [Jr (by omega) (by omega)];omega
theorem va4{r:Nat}(h:r<4294967296):r*4294967296 % 18446744073709551616=r*4294967296:=by omega
end Go.Num
end
section
namespace Go.Abs
open Go.Num
variable {P:Program} {Γ:Nat->Spec}
def Zf(f0 f1 f2 f3 f4 f5 f6 f7:Nat):AC:=(.o [.m 4 (.c (.one .emp)),.m 5 (.c (.one .emp))] [0,1] (.f (.o [.M 19 0,.M 20 1,.D 21 f0 19 20,.I 22 .lss 21 0] [0,1,22] (.cond (.t 22) (.seq (.p [.M 23 0,.H 24 f1 23,.m 4 (.c (.one .emp)),.M 5 24]) .ret) .skip)) [0,1] (.f (.o [.M 25 1,.Z 26 25,.I 27 .eql 26 1] [0,1,27] (.cond (.t 27) (.o [.M 29 0,.M 30 1,.u 31 (.idx 1 (.t 30) (.i 0)),.F 32 1 31,.D 33 f2 29 32,.M 28 33,.X 34 0 28,.X 35 1 28,.M 6 34,.M 7 35] [6,7] (.seq (.p [.M 36 6,.M 37 7,.u 38 (.row 1 [[.x 1 (.t 37)]]),.H 39 f1 38,.M 4 36,.M 5 39]) .ret)) .skip)) [0,1] (.o [.M 40 1,.M 41 1,.Z 42 41,.I 43 .sub 42 1,.J 44 1 40 43,.F 45 1 44,.H 46 f3 45,.M 8 46] [0,1,8] (.f (.y [.M 47 1,.M 48 8,.u 49 (.callf f4 [(.t 47),(.t 48)]),.M 50 1,.Z 51 50,.u 52 (.sl 1 (.t 49) none (some (.t 51))),.M 53 0,.M 54 8,.u 55 (.callf f4 [(.t 53),(.t 54)]),.M 9 52,.M 10 55]) [8,9,10] (.fz [9] (.o [.M 56 10,.Z 57 56,.M 58 9,.Z 59 58,.B 60 .sub 57 59,.u 61 (.mk 1 [(.lit (.int .u32 0))] (.t 60) (.t 60)),.M 11 61] [8,9,10,11] (.f (.y [.M 62 9,.M 63 9,.Z 64 63,.I 65 .sub 64 1,.J 66 1 62 65,.F 67 1 66,.u 68 (.conv .u64 (.t 67)),.M 69 9,.M 70 9,.Z 71 70,.I 72 .sub 71 2,.J 73 1 69 72,.F 74 1 73,.u 75 (.conv .u64 (.t 74)),.M 12 68,.M 13 75]) [8,9,10,11,12,13] (.f (.o [.M 76 11,.Z 77 76,.I 78 .sub 77 1,.M 14 78] [8,9,10,11,12,13,14] (.block 0 (.loop (.f (.o [.M 79 14,.I 80 .geq 79 0] [8,9,10,11,12,13,14,80] (.cond (.t 80) .skip (.exit 0))) [8,9,10,11,12,13,14] (.f (.block 1 (.o [.M 83 10,.M 84 14,.M 85 14,.M 86 9,.Z 87 86,.B 88 .add 85 87,.I 89 .add 88 1,.u 90 (.sl 1 (.t 83) (some (.t 84)) (some (.t 89))),.M 15 90] [8,9,10,11,12,13,14,15] (.f (.y [.M 91 15,.M 92 9,.Z 93 92,.J 94 1 91 93,.F 95 1 94,.u 96 (.conv .u64 (.t 95)),.u 97 (.bin .shl (.t 96) (.c (.one (.lit (.int .u64 32))))),.M 98 15,.M 99 9,.Z 100 99,.I 101 .sub 100 1,.J 102 1 98 101,.F 103 1 102,.u 104 (.conv .u64 (.t 103)),.B 105 .or 97 104,.M 16 105]) [8,9,10,11,12,13,14,15,16] (.f (.y [.M 106 16,.M 107 12,.B 108 .quo 106 107,.M 109 16,.M 110 12,.B 111 .rem 109 110,.M 17 108,.M 18 111]) [8,9,10,11,12,13,14,15,17,18] (.f (.block 2 (.loop (.f (.o [.M 112 18,.u 113 (.bin .lss (.t 112) (.c (.one (.lit (.int .u64 4294967296))))),.M 114 113,.V 115 114 true 17,.w 116 114 true (.bin .geq (.t 115) (.c (.one (.lit (.int .u64 4294967296))))),.V 117 114 true 116,.V 118 117 false 17,.V 119 117 false 13,.w 120 117 false (.bin .mul (.t 118) (.t 119)),.V 121 117 false 18,.w 122 117 false (.bin .shl (.t 121) (.c (.one (.lit (.int .u64 32))))),.V 123 117 false 15,.V 124 117 false 9,.w 125 117 false (.len (.t 124)),.w 126 117 false (.bin .sub (.t 125) (.i 2)),.w 127 117 false (.idx 1 (.t 123) (.t 126)),.U 128 117 false 1 false 127,.w 129 117 false (.conv .u64 (.t 128)),.w 130 117 false (.bin .or (.t 122) (.t 129)),.w 131 117 false (.bin .gtr (.t 120) (.t 130)),.w 132 114 true (.pick (.t 117) .tr (.t 131)),.P 133 114 132] [8,9,10,11,12,13,14,15,17,18,133] (.cond (.t 133) .skip (.exit 2))) [8,9,10,11,12,13,14,15,17,18] (.block 3 (.o [.M 134 17,.u 135 (.bin .sub (.t 134) (.c (.one (.lit (.int .u64 1))))),.M 17 135] [8,9,10,11,12,13,14,15,17,18] (.p [.M 136 18,.M 137 12,.B 138 .add 136 137,.M 18 138])))))) [8,9,10,11,12,13,14,15,17] (.f (.o [.M 139 15,.M 140 9,.M 141 17,.E 142 f5 139 140 141] [8,9,10,11,12,13,14,15,17,142] (.cond (.t 142) (.o [.M 143 17,.u 144 (.bin .sub (.t 143) (.c (.one (.lit (.int .u64 1))))),.M 17 144] [8,9,10,11,12,13,14,15,17] (.p [.M 145 15,.M 146 9,.D 147 f6 145 146])) .skip)) [8,9,10,11,12,13,14,17] (.p [.M 148 11,.M 149 14,.M 150 17,.u 151 (.conv .u32 (.t 150)),.J 152 1 148 149,.S 1 152 151]))))))) [8,9,10,11,12,13,14] (.p [.M 81 14,.I 82 .sub 81 1,.M 14 82])))))) [8,10,11] (.seq (.p [.M 153 11,.H 154 f1 153,.M 155 10,.M 156 8,.D 157 f7 155 156,.M 4 154,.M 5 157]) .ret))))))))))
set_option maxHeartbeats 4000000 in
theorem zW(hΓ:Holds P Γ){f fcmp ftrim fshort flz fup frem fback fdown:Nat}(h1:Γ fcmp=.dat false Jj)(h2:Γ ftrim=.dat false kp)(h3:Γ fshort=.dat false ux)(h4:Γ flz=.dat true lz_G)
  (h5:Γ fup=.fresh 1 up_G) (h6:Γ frem=.own Jk) (h7:Γ fback=.own uv) (h8:Γ fdown=.dat false QL)
  (hc:check P f=some (158,(Zf fcmp ftrim fshort flz fup frem fback fdown).strip,[.tmp 4,.tmp 5])):Sound P f (.dat false zp):=by
 refine Va hc U0 hΓ (λargs K hcl hfi hG=>?_);match args,hG with
 | [a,b],hG=>
  obtain⟨x,rfl,hx,y,rfl,hy,hzx,hzy,hy0,hxl,hyl,hK⟩:=hG;refine⟨by simp,?_⟩
  have hn:0<y.length:=by cases y with | nil=>exact(hy0 rfl).elim | cons=>simp
  have ht0:y.getD (y.length-1) 0≠0:=by
   intro e;refine hzy ?_;rw [List.getLast?_eq_getElem?];rw [List.getD_eq_getElem?_getD,List.getElem?_eq_getElem (by omega)]at e
   rw [List.getElem?_eq_getElem (by omega)]
   simpa using e
  have htB:=Ub hy (y.length-1);obtain⟨s,hs32,hs,hs1,hs2⟩:=XaY (Nat.pos_of_ne_zero ht0) htB;have hlast:((y.length:Int)-1).toNat=y.length-1:=by omega
  have hle:(y.length<=y.length+1)=True:=eq_true (by omega)
  obtain⟨hV1,hV2⟩:=shifted hy hn hs1 hs2;by_cases hlt:val x<val y
  .simp only [go_sem,Zf,h1,h2,h3,h4,h5,h8,wL hlt];refine⟨hx,hy,hzx,hzy,λ_=>⟨hx,by omega,?_⟩,λh=>absurd (show(-1:Int)<0 by omega) h⟩
   rw [Nat.div_eq_of_lt hlt,Nat.mod_eq_of_lt hlt,Zb]at hK;exact hK
  have hlen:y.length<=x.length:=by
   rcases Nat.lt_or_ge x.length y.length with h | h
   .exact absurd (VB hx hzy h) hlt
   .exact h
  obtain⟨M,hM⟩:∃M,M=x.length+1-y.length:=⟨_,rfl⟩;have hM2:((x.length+1:Nat):Int)-(y.length:Int)=(M:Int):=by omega
  simp only [go_sem,Zf,h1,h2,h3,h4,h5,h8,hlast,hs,ka,UaM,hle,JaL hlt,hM2];refine⟨hx,hy,hzx,hzy,λ_=>⟨λhone=>?_,λhone=>?_⟩⟩
  .have hone:y.length=1:=by omega
   match y,hone with
   | [t],_=>
    simp only [List.length_singleton,Nat.sub_self,List.getD_cons_zero]at ht0 htB ⊢;refine⟨by omega,by omega,hx,by omega,by omega,by omega,qc.2 ⟨Nat.lt_trans (Nat.mod_lt _ (by omega)) htB,Wc⟩,?_⟩
    simpa [val] using hK
  have hone:2<=y.length:=by omega
  generalize hV:val y*2 ^ s=V at hV1 hV2;generalize hA:val x*2 ^ s=A;generalize hnn:y.length=n at *
  generalize hLL:x.length+1=L at *
  have hV0:0<V:=by have:=pow_pos n;omega
  have htop:(dig n V).getD (n-1) 0=V / 4294967296 ^ (n-1) % 4294967296:=wN _ _ _ (by omega)
  have hnext:(dig n V).getD ((n:Int)-2).toNat 0=V / 4294967296 ^ (n-2) % 4294967296:=by
   rw [show((n:Int)-2).toNat=n-2 by omega];exact wN _ _ _ (by omega)
  have hvv:val (dig n V)=V:=by rw [Qh,Nat.mod_eq_of_lt hV1]
  repeat first | refine q_Wk ?_ | intro _
  obtain⟨top,htd⟩:∃t,t=V / 4294967296 ^ (n-1) % 4294967296:=⟨_,rfl⟩;obtain⟨next,hnd⟩:∃t,t=V / 4294967296 ^ (n-2) % 4294967296:=⟨_,rfl⟩
  have htB:top<4294967296:=by rw [htd];exact Nat.mod_lt _ (by omega)
  have hnB:next<4294967296:=by rw [hnd];exact Nat.mod_lt _ (by omega)
  rw [htop,hnext,<-htd,<-hnd,Nat.mod_eq_of_lt (show top<18446744073709551616 by omega),Nat.mod_eq_of_lt (show next<18446744073709551616 by omega)]
  have hstart:=YaH hx hs32 (y:=y) (by rw [hnn,hV];exact hV2) (by omega)
  rw [hV,hA,hLL,hnn,<-hM]at hstart;refine Ua (λp:Nat×Nat×List Nat=>⟨mkV [(8,.one (.lit (.int .i64 s))),(9,wsA (dig n V)),(10,.one (.own 55 1 1 0 L)),(11,.one (.own 61 1 1 0 M)),(12,.one (.lit (.int .u64 top))),(13,.one (.lit (.int .u64 next))),(14,.one (.lit (.int .i64 ((p.1:Int)-1))))],
    mkH [(55,⟨1,some ⟨(dig L p.2.1).map wc,1,true⟩⟩),(61,⟨1,some ⟨(List.replicate p.1 0++p.2.2).map wc,1,true⟩⟩)]⟩)
   (λp=>p.1<=M/\p.2.1<V*4294967296 ^ p.1/\A=p.2.1+V*4294967296 ^ p.1*val p.2.2/\WL p.2.2/\p.2.2.length=M-p.1) (λp=>p.1) (M,A,[]) ?_ ?_ ?_
  .exact ja (by simp [bitvec_to_nat]) ⟨jb rfl,jb (by simp),trivial⟩
  .exact⟨Nat.le_refl _,hstart,by simp [val],Wc,by simp⟩
  .rintro⟨j1,X,qd⟩ ⟨hj,hX,hAX,hqd,hqdl⟩;simp only at hj hX hAX hqd hqdl;have hql:(List.replicate j1 0++qd).length=M:=by simp;omega
   rcases Nat.eq_zero_or_pos j1 with hj0 | hj0
   .subst hj0;simp only [Nat.pow_zero,Nat.mul_one]at hX hAX;have h0f:((0:Int)<=((0:Nat):Int)-1)=False:=eq_false (by omega)
    simp only [go_sem,h1,h2,h3,h4,h5,h8,ka,hql,h0f];refine⟨hqd,by omega,Uh _ _,by omega,by omega,?_⟩
    have hXL:X<4294967296 ^ L:=Nat.lt_trans hX (Nat.lt_of_lt_of_le hV1 (Nat.pow_le_pow_right (by omega) (by omega)))
    rw [Qh,Nat.mod_eq_of_lt hXL];have hs0:0<2 ^ s:=Nat.pow_pos (by omega)
    have hA2:=(Nat.div_mod_unique hV0 (a:=A) (c:=X) (d:=val qd)).2 ⟨hAX.symm,hX⟩;have e1:val x / val y=val qd:=by rw [<-hA2.1,<-hA,<-hV,Nat.mul_div_mul_right _ _ hs0]
    have e2:val x % val y=X / 2 ^ s:=by
     rw [<-hA2.2,<-hA,<-hV,Nat.mul_mod_mul_right,Nat.mul_div_cancel _ hs0]
    rw [e1,e2]at hK;exact hK
   .obtain⟨j,rfl⟩:∃j,j1=j+1:=⟨j1-1,by omega⟩
    have hj1:(((j+1:Nat):Int)-1)=(j:Int):=by omega
    simp only [hj1];generalize hPP:X / 4294967296 ^ j=P';have hPV:P' < V*4294967296:=by
     rw [<-hPP,Nat.div_lt_iff_lt_mul (pow_pos _),Nat.mul_assoc,Nat.mul_comm 4294967296,<-Nat.pow_succ];exact hX
    have hPL:P' < 4294967296 ^ (n+1):=by
     have:=(Nat.mul_lt_mul_right (show 0<4294967296 by omega)).2 hV1
     rw [Nat.pow_succ];exact Nat.lt_trans hPV this
    have st:=va0 hone hV1 hV2 hPV;rw [<-htd,<-hnd]at st;have hread:∀k,k<=n->(dig L X).getD (j+k) 0=P' / 4294967296 ^ k % 4294967296:=by
     intro k hk;rw [wN _ _ _ (by omega),Nat.pow_add,<-Nat.div_div_eq_div_mul,hPP]
    have hr0:=hread n (Nat.le_refl _);have hr1:=hread (n-1) (by omega)
    have hr2:=hread (n-2) (by omega)
    obtain⟨a,ha⟩:∃a,a=P' / 4294967296 ^ n % 4294967296:=⟨_,rfl⟩;obtain⟨b,hb⟩:∃b,b=P' / 4294967296 ^ (n-1) % 4294967296:=⟨_,rfl⟩;obtain⟨u2,hu⟩:∃u2,u2=P' / 4294967296 ^ (n-2) % 4294967296:=⟨_,rfl⟩;rw [<-ha]at hr0 st;rw [<-hb]at hr1 st;rw [<-hu]at hr2 st;have haB:a<4294967296:=by rw [ha];exact Nat.mod_lt _ (by omega)
    have hbB:b<4294967296:=by rw [hb];exact Nat.mod_lt _ (by omega)
    have huB:u2<4294967296:=by rw [hu];exact Nat.mod_lt _ (by omega)
    have htop0:0<top:=by have:=st.half;omega
    have hsub:j+n+1-j=n+1:=by omega
    have hsub1:((n:Int)-1).toNat=n-1:=by omega
    have hsub2:((n:Int)-2).toNat=n-2:=by omega
    have ea1:a % 18446744073709551616=a:=by omega
    have ea2:a*4294967296 % 18446744073709551616=a*4294967296:=by omega
    have eb1:b % 18446744073709551616=b:=by omega
    have eu1:u2 % 18446744073709551616=u2:=by omega
    have eor:=or32 a b hbB;simp only [go_sem,h1,h2,h3,h4,h5,h8,ka,hql,hsub,hsub1,hsub2,hr0,hr1,hr2,ea1,ea2,eb1,eor];repeat first | refine q_Wk ?_ | intro _
    obtain⟨q1,q2⟩:=st.first
    generalize hhead:a*4294967296+b=head at *
    have hqB:=st.quot;rw [Nat.mod_eq_of_lt (show head / top<18446744073709551616 by omega)]
    refine Ua (λp:Nat×Nat=>⟨mkV [(8,.one (.lit (.int .i64 s))),(9,wsA (dig n V)),(10,.one (.own 55 1 1 0 L)),(11,.one (.own 61 1 1 0 M)),(12,.one (.lit (.int .u64 top))),(13,.one (.lit (.int .u64 next))),(14,.one (.lit (.int .i64 j))),(15,.one (.own 55 1 1 j (n+1))),(17,.one (.lit (.int .u64 p.1))),(18,.one (.lit (.int .u64 p.2)))],
      mkH [(55,⟨1,some ⟨(dig L X).map wc,1,true⟩⟩),(61,⟨1,some ⟨(List.replicate (j+1) 0++qd).map wc,1,true⟩⟩)]⟩)
     (λp=>p.1*top+p.2=head/\P' / V<=p.1/\p.1<=4294967297/\p.2<8589934592/\(4294967296<p.1->p.2<4294967296)) (λp=>p.1) (head / top,head % top) ?_ ?_ ?_
    .exact ja (by simp [bitvec_to_nat]) ⟨jb rfl,jb rfl,trivial⟩
    .have m1:=Nat.mod_lt head htop0;exact⟨Nat.div_add_mod' head top,q2,q1,by simp only;omega,λ_=>by simp only;omega⟩
    .rintro⟨g,r⟩ ⟨hg,hqg,hgB,hrB,hgr⟩;simp only at hg hqg hgB hrB hgr;rcases Nat.lt_or_ge r 4294967296 with hr | hr
     .have hr' : ((r:Int)<4294967296)=True:=eq_true (by omega)
      rcases Nat.lt_or_ge g 4294967296 with hgl | hgl
      .have hg' : ((4294967296:Int)<=(g:Int))=False:=eq_false (by omega)
       have hm:g*next<18446744073709551616:=xaC hgl hnB
       have em:g*next % 18446744073709551616=g*next:=by rw [Nat.mod_eq_of_lt hm]
       have er:=va4 hr;have eo:=or32 r u2 huB;by_cases hcmp:r*4294967296+u2<g*next
       .simp only [go_sem,h1,h2,h3,h4,h5,h6,h7,h8,ka,hql,hsub,hsub1,hsub2,hr0,hr1,hr2,eu1,hr',hg',em,er,eo,hcmp];repeat first | refine q_Wk ?_ | intro _
        have hdown:4294967296<=g∨r*4294967296+u2<g*next:=.inr hcmp
        have hdn:=st.down hg hdown;have hg0:1<=g:=Nat.lt_of_le_of_lt (Nat.zero_le _) hdn;have hqg1:P' / V<=g-1:=Nat.le_sub_one_of_lt hdn;have hg1:sub64 g 1=g-1:=Jr hg0 (by omega)
        refine⟨(g-1,r+top),ja (by simp [bitvec_to_nat,hg1];omega) ⟨jb rfl,jb rfl,trivial⟩,⟨?_,hqg1,by simp only;omega,by simp only;omega,λ_=>by simp only at *;omega⟩,by simp only;omega⟩
        simp only;obtain⟨g',rfl⟩:∃g',g=g' + 1:=⟨g-1,by omega⟩
        rw [Nat.add_sub_cancel,<-hg,Nat.add_mul];omega
       .simp only [go_sem,h1,h2,h3,h4,h5,h6,h7,h8,ka,hql,hsub,hsub1,hsub2,hr0,hr1,hr2,eu1,hr',hg',em,er,eo,hcmp];repeat first | refine q_Wk ?_ | intro _
        have hstop:4294967296<=r∨(g<4294967296/\g*next<=r*4294967296+u2):=.inr ⟨hgl,by omega⟩
        have hgB2:g<=4294967296:=by omega
        have hle:=st.stop hg hgB2 hstop;obtain⟨l1,l2⟩:=st.left hqg hle;have hgV:g*V<4294967296 ^ (n+1):=by
         have a1:=Nat.mul_le_mul_right V hgB2;have a2:=(Nat.mul_lt_mul_left (show 0<4294967296 by omega)).2 hV1
         rw [Nat.pow_succ,Nat.mul_comm (4294967296 ^ n)];exact Nat.lt_of_le_of_lt a1 a2
        have hsplit:=YE (L:=L) (j:=j) (n:=n) (X:=X) (by omega) (by rw [hPP];exact hPL)
        rw [hPP]at hsplit;have hvp:val (dig (n+1) P')=P':=by rw [Qh,Nat.mod_eq_of_lt hPL]
        have hrl:P' % V<4294967296 ^ (n+1):=Nat.lt_of_le_of_lt (Nat.mod_le _ _) hPL;have hjoin:=kaf (L:=L) (j:=j) (n:=n) (X:=X) (by omega) hrl
        have hdiv:=yad (j:=j) (q:=P' / V) hV0 hAX (by rw [hPP])
        rw [hPP]at hdiv;simp only [Jk,wF];refine⟨Uh _ _,dig j X,dig (n+1) P',List.replicate (L-(j+(n+1))) 0,g,(ka _ _).symm,(ka _ _).symm,rfl,by simp only [Qb,↓reduceIte,Nat.reduceEqDiff];rw [hsplit],Uh _ _,hgB2,by rw [ka,ka];omega,by rw [hvv,ka];exact hgV,by rw [ka];omega,?_⟩
        rw [hvp,hvv,ka];by_cases hb:P' < g*V
        .have hgq:=l1 hb;simp only [go_sem,h1,h2,h3,h4,h5,h7,h8,hb,hql];simp only [uv,wF];refine⟨Uh _ _,dig j X,dig (n+1) (P' + 4294967296 ^ (n+1)-g*V),List.replicate (L-(j+(n+1))) 0,(ka _ _).symm,(ka _ _).symm,by simp only [Qb,↓reduceIte,Nat.reduceEqDiff],Uh _ _,by rw [ka,ka];omega,by rw [ka];omega,?_⟩
         rw [ka,hvv,jaU hgq hb hgV,hjoin];have hg1:sub64 g 1=P' / V:=by rw [hgq];exact YH hqB
         simp only [go_sem,h1,h2,h3,h4,h5,h7,h8,hql,hg1];rw [Nat.mod_eq_of_lt hqB];have hset:=zl (n:=j+1) qd (P' / V) (by omega)
         rw [Nat.add_sub_cancel]at hset;rw [hset];repeat first | refine q_Wk ?_ | intro _
         exact⟨(j,X % 4294967296 ^ j+4294967296 ^ j*(P' % V),P' / V::qd),ja (by simp [bitvec_to_nat]) ⟨jb rfl,jb rfl,trivial⟩,⟨by simp only;omega,hdiv.2,hdiv.1,qc.2 ⟨hqB,hqd⟩,by simp only [List.length_cons];omega⟩,by simp only;omega⟩
        .have hgq:=l2 hb;rw [QaP hgq,hjoin];simp only [go_sem,h1,h2,h3,h4,h5,h7,h8,hb,hql];rw [hgq,Nat.mod_eq_of_lt hqB];have hset:=zl (n:=j+1) qd (P' / V) (by omega)
         rw [Nat.add_sub_cancel]at hset;rw [hset];repeat first | refine q_Wk ?_ | intro _
         exact⟨(j,X % 4294967296 ^ j+4294967296 ^ j*(P' % V),P' / V::qd),ja (by simp [bitvec_to_nat]) ⟨jb rfl,jb rfl,trivial⟩,⟨by simp only;omega,hdiv.2,hdiv.1,qc.2 ⟨hqB,hqd⟩,by simp only [List.length_cons];omega⟩,by simp only;omega⟩
      .have hg' : ((4294967296:Int)<=(g:Int))=True:=eq_true (by omega)
       simp only [go_sem,h1,h2,h3,h4,h5,h6,h7,h8,ka,hql,hsub,hsub1,hsub2,hr0,hr1,hr2,eu1,hr',hg'];repeat first | refine q_Wk ?_ | intro _
       have hdown:4294967296<=g∨r*4294967296+u2<g*next:=.inl hgl
       have hdn:=st.down hg hdown;have hg0:1<=g:=Nat.lt_of_le_of_lt (Nat.zero_le _) hdn;have hqg1:P' / V<=g-1:=Nat.le_sub_one_of_lt hdn;have hg1:sub64 g 1=g-1:=Jr hg0 (by omega)
       refine⟨(g-1,r+top),ja (by simp [bitvec_to_nat,hg1];omega) ⟨jb rfl,jb rfl,trivial⟩,⟨?_,hqg1,by simp only;omega,by simp only;omega,λ_=>by simp only at *;omega⟩,by simp only;omega⟩
       simp only;obtain⟨g',rfl⟩:∃g',g=g' + 1:=⟨g-1,by omega⟩
       rw [Nat.add_sub_cancel,<-hg,Nat.add_mul];omega
     .have hr' : ((r:Int)<4294967296)=False:=eq_false (by omega)
      simp only [go_sem,h1,h2,h3,h4,h5,h6,h7,h8,ka,hql,hsub,hsub1,hsub2,hr0,hr1,hr2,eu1,hr'];repeat first | refine q_Wk ?_ | intro _
      have hstop:4294967296<=r∨(g<4294967296/\g*next<=r*4294967296+u2):=.inl hr
      have hgB2:g<=4294967296:=by omega
      have hle:=st.stop hg hgB2 hstop;obtain⟨l1,l2⟩:=st.left hqg hle;have hgV:g*V<4294967296 ^ (n+1):=by
       have a1:=Nat.mul_le_mul_right V hgB2;have a2:=(Nat.mul_lt_mul_left (show 0<4294967296 by omega)).2 hV1
       rw [Nat.pow_succ,Nat.mul_comm (4294967296 ^ n)];exact Nat.lt_of_le_of_lt a1 a2
      have hsplit:=YE (L:=L) (j:=j) (n:=n) (X:=X) (by omega) (by rw [hPP];exact hPL)
      rw [hPP]at hsplit;have hvp:val (dig (n+1) P')=P':=by rw [Qh,Nat.mod_eq_of_lt hPL]
      have hrl:P' % V<4294967296 ^ (n+1):=Nat.lt_of_le_of_lt (Nat.mod_le _ _) hPL;have hjoin:=kaf (L:=L) (j:=j) (n:=n) (X:=X) (by omega) hrl
      have hdiv:=yad (j:=j) (q:=P' / V) hV0 hAX (by rw [hPP])
      rw [hPP]at hdiv;simp only [Jk,wF];refine⟨Uh _ _,dig j X,dig (n+1) P',List.replicate (L-(j+(n+1))) 0,g,(ka _ _).symm,(ka _ _).symm,rfl,by simp only [Qb,↓reduceIte,Nat.reduceEqDiff];rw [hsplit],Uh _ _,hgB2,by rw [ka,ka];omega,by rw [hvv,ka];exact hgV,by rw [ka];omega,?_⟩
      rw [hvp,hvv,ka];by_cases hb:P' < g*V
      .have hgq:=l1 hb;simp only [go_sem,h1,h2,h3,h4,h5,h7,h8,hb,hql];simp only [uv,wF];refine⟨Uh _ _,dig j X,dig (n+1) (P' + 4294967296 ^ (n+1)-g*V),List.replicate (L-(j+(n+1))) 0,(ka _ _).symm,(ka _ _).symm,by simp only [Qb,↓reduceIte,Nat.reduceEqDiff],Uh _ _,by rw [ka,ka];omega,by rw [ka];omega,?_⟩
       rw [ka,hvv,jaU hgq hb hgV,hjoin];have hg1:sub64 g 1=P' / V:=by rw [hgq];exact YH hqB
       simp only [go_sem,h1,h2,h3,h4,h5,h7,h8,hql,hg1];rw [Nat.mod_eq_of_lt hqB];have hset:=zl (n:=j+1) qd (P' / V) (by omega)
       rw [Nat.add_sub_cancel]at hset;rw [hset];repeat first | refine q_Wk ?_ | intro _
       exact⟨(j,X % 4294967296 ^ j+4294967296 ^ j*(P' % V),P' / V::qd),ja (by simp [bitvec_to_nat]) ⟨jb rfl,jb rfl,trivial⟩,⟨by simp only;omega,hdiv.2,hdiv.1,qc.2 ⟨hqB,hqd⟩,by simp only [List.length_cons];omega⟩,by simp only;omega⟩
      .have hgq:=l2 hb;rw [QaP hgq,hjoin];simp only [go_sem,h1,h2,h3,h4,h5,h7,h8,hb,hql];rw [hgq,Nat.mod_eq_of_lt hqB];have hset:=zl (n:=j+1) qd (P' / V) (by omega)
       rw [Nat.add_sub_cancel]at hset;rw [hset];repeat first | refine q_Wk ?_ | intro _
       exact⟨(j,X % 4294967296 ^ j+4294967296 ^ j*(P' % V),P' / V::qd),ja (by simp [bitvec_to_nat]) ⟨jb rfl,jb rfl,trivial⟩,⟨by simp only;omega,hdiv.2,hdiv.1,qc.2 ⟨hqB,hqd⟩,by simp only [List.length_cons];omega⟩,by simp only;omega⟩
end Go.Abs
end
section
namespace Go.Abs
open Go.Num
variable {P:Program} {Γ:Nat->Spec}
def Wg:AC:=(.o [.K 1 2 0,.m 2 .fa] [1] (.f (.o [.A 3 1 1,.F 4 1 3,.Z 5 4,.I 6 .eql 5 0] [1,6] (.cond (.t 6) (.seq (.p [.A 7 0 1,.F 8 1 7,.u 9 (.un .not (.t 8)),.M 2 9]) .ret) .skip)) [1] (.seq (.p [.A 10 1 1,.F 11 1 10,.A 12 1 1,.F 13 1 12,.Z 14 13,.I 15 .sub 14 1,.J 16 1 11 15,.F 17 1 16,.u 18 (.bin .neq (.t 17) (.c (.one (.lit (.int .u32 0))))),.M 2 18]) .ret)))
def ui(f0:Nat):AC:=(.o [.K 1 2 0,.m 2 (.c (.one .emp))] [1] (.f (.o [.L 3 2 1,.H 4 f0 3,.u 5 (.un .not (.t 4))] [1,5] (.cond (.t 5) (.seq (.p [.m 2 (.c (.one .emp))]) .ret) .skip)) [1] (.seq (.p [.A 6 1 1,.F 7 1 6,.M 2 7]) .ret)))
def Ui(f0:Nat):AC:=(.o [.K 1 2 0,.m 2 .fa] [1] (.seq (.p [.L 3 2 1,.H 4 f0 3,.M 5 4,.T 6 5 true 0 1,.U 7 5 true 1 false 6,.P 8 5 7,.M 2 8]) .ret))
def uj(f0:Nat):AC:=(.o [.G 4 [.z,.emp]] [0,1,4] (.o [.M 5 1,.H 6 f0 5,.M 1 6] [0,1,4] (.seq (.p [.M 7 0,.M 8 7,.V 9 8 true 1,.w 10 8 true (.len (.t 9)),.w 11 8 true (.bin .gtr (.t 10) (.i 0)),.P 12 8 11,.M 13 1,.u 14 (.build [.x 1 (.t 12),.x 1 (.t 13)]),.S 2 4 14]) .ret)))
def vk(f0:Nat):AC:=(.o [.G 2 [.z,.emp]] [0,2] (.o [.M 4 0,.u 5 (.conv .u64 (.t 4)),.M 3 5] [0,2,3] (.f (.o [.M 6 0,.I 7 .lss 6 0] [0,2,3,7] (.cond (.t 7) (.p [.M 8 3,.u 9 (.un .neg (.t 8)),.M 3 9]) .skip)) [0,2,3] (.seq (.p [.M 10 0,.I 11 .lss 10 0,.M 12 3,.u 13 (.conv .u32 (.t 12)),.M 14 3,.u 15 (.bin .shr (.t 14) (.c (.one (.lit (.int .u64 32))))),.u 16 (.conv .u32 (.t 15)),.u 17 (.row 1 [[.x 1 (.t 13)],[.x 1 (.t 16)]]),.D 18 f0 11 17,.S 2 2 18]) .ret))))
def Yl(f0:Nat):AC:=(.o [.K 1 2 0,.N 2 0] [1] (.f (.block 0 (.o [.L 4 2 1,.H 5 f0 4,.Z 6 5,.I 7 .eql 6 0,.M 3 7] [1,3] (.cond (.t 3) (.seq (.p [.N 2 0]) .ret) (.o [.A 9 0 1,.F 10 1 9,.M 8 10] [8] (.cond (.t 8) (.seq (.p [.N 2 (-1)]) .ret) .skip))))) [] (.seq (.p [.N 2 1]) .ret)))
def Wm(f0 f1 f2 f3:Nat):AC:=(.o [.K 2 2 0,.K 3 2 1,.N 4 0] [2,3] (.f (.f (.y [.L 8 2 2,.H 9 f0 8,.L 10 2 3,.H 11 f0 10,.M 5 9,.M 6 11]) [2,3,5,6] (.o [.M 12 5,.M 13 6,.B 14 .neq 12 13] [2,3,5,6,14] (.cond (.t 14) (.f (.o [.M 15 5,.M 16 6,.B 17 .lss 15 16] [17] (.cond (.t 17) (.seq (.p [.N 4 (-1)]) .ret) .skip)) [] (.seq (.p [.N 4 1]) .ret)) .skip))) [2,3] (.f (.y [.L 18 2 2,.H 19 f1 18,.L 20 2 3,.H 21 f1 20,.D 22 f2 19 21,.M 7 22]) [2,7] (.f (.o [.L 23 2 2,.H 24 f3 23] [7,24] (.cond (.t 24) (.seq (.p [.M 25 7,.u 26 (.un .neg (.t 25)),.M 4 26]) .ret) .skip)) [7] (.seq (.p [.M 27 7,.M 4 27]) .ret)))))
def xi(f0 f1 f2:Nat):AC:=(.o [.K 1 2 0,.G 2 [.z,.emp]] [1,2] (.seq (.y [.L 3 2 1,.H 4 f0 3,.u 5 (.un .not (.t 4)),.L 6 2 1,.H 7 f1 6,.D 8 f2 5 7,.S 2 2 8]) .ret))
def Qn(f0 f1 f2 f3 f4 f5:Nat):AC:=(.o [.K 2 2 0,.K 3 2 1,.G 4 [.z,.emp]] [2,3,4] (.f (.y [.L 7 2 2,.H 8 f0 7,.L 9 2 3,.H 10 f0 9,.M 5 8,.M 6 10]) [2,3,4,5,6] (.f (.block 0 (.f (.y [.L 12 2 2,.H 13 f1 12,.L 14 2 3,.H 15 f1 14,.u 16 (.binb .eql (.t 13) (.t 15)),.M 11 16]) [2,3,4,5,6,11] (.cond (.t 11) (.seq (.p [.L 17 2 2,.H 18 f1 17,.M 19 5,.M 20 6,.D 21 f2 19 20,.D 22 f3 18 21,.S 2 4 22]) .ret) (.o [.M 24 5,.M 25 6,.D 26 f4 24 25,.I 27 .geq 26 0,.M 23 27] [2,3,4,5,6,23] (.cond (.t 23) (.seq (.p [.L 28 2 2,.H 29 f1 28,.M 30 5,.M 31 6,.D 32 f5 30 31,.D 33 f3 29 32,.S 2 4 33]) .ret) .skip))))) [3,4,5,6] (.seq (.p [.L 34 2 3,.H 35 f1 34,.M 36 6,.M 37 5,.D 38 f5 36 37,.D 39 f3 35 38,.S 2 4 39]) .ret))))
def Um(f0 f1 f2 f3:Nat):AC:=(.o [.K 2 2 0,.K 3 2 1,.G 4 [.z,.emp]] [2,3,4] (.seq (.y [.L 5 2 2,.H 6 f0 5,.L 7 2 3,.H 8 f0 7,.u 9 (.binb .neq (.t 6) (.t 8)),.L 10 2 2,.H 11 f1 10,.L 12 2 3,.H 13 f1 12,.D 14 f2 11 13,.D 15 f3 9 14,.S 2 4 15]) .ret))
def ym(f0 f1 f2:Nat):AC:=(.o [.K 2 2 0,.K 3 2 1,.G 4 [.z,.emp]] [2,3,4] (.f (.y [.L 9 2 2,.H 10 f0 9,.L 11 2 3,.H 12 f0 11,.M 5 10,.M 6 12]) [4,5,6] (.f (.block 0 (.loop (.f (.o [.M 13 6,.Z 14 13,.I 15 .gtr 14 0] [4,5,6,15] (.cond (.t 15) .skip (.exit 0))) [4,5,6] (.block 1 (.o [.M 17 5,.M 18 6,.D 19 f1 17 18,.M 16 19,.X 20 0 16,.X 21 1 16,.M 7 20,.M 8 21] [4,6,8] (.p [.M 22 6,.M 23 8,.M 5 22,.M 6 23])))))) [4,5] (.seq (.p [.M 24 5,.u 25 (.call f2 [.fa,(.t 24)]),.S 2 4 25]) .ret))))
def wm(f0 f1 f2 f3 f4 f5 tE:Nat):AC:=(.o [.K 2 2 0,.K 3 2 1,.G 4 [.z,.emp],.G 5 [.z,.emp],.m 6 (.c (.one (.lit .nilIface)))] [2,3,4,5] (.o [.L 10 2 3,.H 11 f0 10,.M 7 11] [2,3,4,5,7] (.f (.o [.M 12 7,.Z 13 12,.I 14 .eql 13 0] [2,3,4,5,7,14] (.cond (.t 14) (.seq (.p [.u 15 (.build [.z [.z,.emp]]),.u 16 (.build [.z [.z,.emp]]),.u 17 (.iface tE (.i 8)),.S 2 4 15,.S 2 5 16,.M 6 17]) .ret) .skip)) [2,3,4,5,7] (.o [.L 19 2 2,.H 20 f0 19,.M 21 7,.D 22 f1 20 21,.M 18 22,.X 23 0 18,.X 24 1 18,.M 8 23,.M 9 24] [2,3,4,5,7,8,9] (.f (.o [.L 25 2 2,.H 26 f2 25,.M 27 26,.V 28 27 true 9,.w 29 27 true (.len (.t 28)),.w 30 27 true (.bin .gtr (.t 29) (.i 0)),.P 31 27 30] [2,3,4,5,7,8,9,31] (.cond (.t 31) (.p [.M 32 8,.u 33 (.row 1 [[.x 1 (.c (.one (.lit (.int .u32 1))))]]),.D 34 f3 32 33,.M 35 7,.M 36 9,.D 37 f4 35 36,.M 8 34,.M 9 37]) .skip)) [2,3,4,5,8,9] (.seq (.y [.L 38 2 2,.H 39 f2 38,.L 40 2 3,.H 41 f2 40,.u 42 (.binb .neq (.t 39) (.t 41)),.M 43 8,.D 44 f5 42 43,.M 45 9,.u 46 (.call f5 [.fa,(.t 45)]),.S 2 4 44,.S 2 5 46,.m 6 (.c (.one (.lit .nilIface)))]) .ret))))))
theorem uy(hΓ:Holds P Γ){f:Nat}(hc:check P f=some (19,Wg.strip,[.tmp 2])):Sound P f (.dat true qj):=by
 refine Va hc W2 hΓ (λargs K hcl hfi hG=>?_);match args,hG with
 | [a],hG=>
  obtain⟨w,rfl,hw,hK⟩:=hG;refine⟨by simp,?_⟩
  simp only [go_sem,Wg,qbg,kaL];unfold vldW at hK;intro hlen;refine⟨λh=>?_,λh _=>?_⟩
  .rw [if_pos (List.length_eq_zero_iff.1 h)]at hK;exact hK
  .have hn:w.2≠[]:=λe=>h (by rw [e];rfl)
   rw [if_neg hn]at hK;refine⟨⟨by omega,by omega⟩,by omega,by omega,?_⟩
   have e1:((w.2.length:Int)-1).toNat=w.2.length-1:=by omega
   rw [e1];have e2:(!decide (w.2.getD (w.2.length-1) 0=0))=decide (NZ w.2):=by
    rw [<-decide_not,decide_eq_decide];unfold NZ;rw [List.getLast?_eq_getElem?,List.getElem?_eq_getElem (by omega),List.getD_eq_getElem?_getD,List.getElem?_eq_getElem (by omega)]
    simp
   rw [e2];exact hK
theorem jH(hΓ:Holds P Γ){f fv:Nat}(hv:Γ fv=.dat true qj)(hc:check P f=some (8,(ui fv).strip,[.tmp 2])):Sound P f (.dat false kj):=by
 refine Va hc Xat hΓ (λargs K hcl hfi hG=>?_);match args,hG with
 | [a],hG=>
  obtain⟨w,rfl,hw,hK⟩:=hG;refine⟨by simp,?_⟩
  simp only [go_sem,ui,hv,hw];rw [<-Vbd hw]at hK;refine⟨λh=>?_,λh=>?_⟩
  .rw [if_pos h]at hK;exact hK
  .rw [if_neg (by rw [h];simp)]at hK;exact hK
theorem QC(hΓ:Holds P Γ){f fv:Nat}(hv:Γ fv=.dat true qj)(hc:check P f=some (9,(Ui fv).strip,[.tmp 2])):Sound P f (.dat true yh):=by
 refine Va hc uam hΓ (λargs K hcl hfi hG=>?_);match args,hG with
 | [a],hG=>
  obtain⟨w,rfl,hw,hK⟩:=hG;refine⟨by simp,?_⟩
  simp only [go_sem,Ui,hv,hw];rw [<-Xaz hw]at hK;refine⟨λh=>?_,λh=>?_⟩
  .rw [h,Bool.true_and]at hK;exact hK
  .rw [h,Bool.false_and]at hK;exact hK
theorem U4(hΓ:Holds P Γ){f ft:Nat}(ht:Γ ft=.dat false kp)(hc:check P f=some (15,(uj ft).strip,[.cell 4 2 true])):Sound P f (.dat false Yf):=by
 refine Va hc YK hΓ (λargs K hcl hfi hG=>?_);match args,hG with
 | [a,m],hG=>
  obtain⟨b,rfl,hG⟩:=Uq hG;obtain⟨l,rfl,hl,hlen,hK⟩:=hG;refine⟨by simp,?_⟩
  simp only [go_sem,uj,ht];rw [<-zK]at hK;refine⟨hl,hlen,λh _=>?_,λh=>?_⟩
  .rw [h,Bool.true_and]at hK;exact hK
  .rw [h,Bool.false_and]at hK;exact hK
theorem xX(hΓ:Holds P Γ){f fw:Nat}(hw:Γ fw=.dat false Yf)(hc:check P f=some (19,(vk fw).strip,[.cell 2 2 true])):Sound P f (.dat false wO):=by
 refine Va hc WaI hΓ (λargs K hcl hfi hG=>?_);match args,hG with
 | [a],hG=>
  obtain⟨k,n,rfl,rfl,hn1,hn2,hK⟩:=Qc hG;refine⟨by simp,?_⟩
  simp only [go_sem,vk,hw];have e0:(18446744073709551616:Int)=((18446744073709551616:Nat):Int):=rfl;have key:∀(x:Nat) (b:Bool),x<18446744073709551616->sg b x=n->
    onWs (λl=>l.length<=68719476736/\K (AV.agg [zb (zcan (sg b (val l))),zm (zcan (sg b (val l)))]))
     (AV.one (C.slice [[C.lit (Value.int IntKind.u32 ((x:Int) % 4294967296))],[C.lit (Value.int IntKind.u32 ((x:Int) / 2 ^ 32 % 4294967296))]])):=by
   intro x b hx hs;have e1:((x:Int) % 4294967296)=((x % 4294967296:Nat):Int):=by omega
   have e2:((x:Int) / 2 ^ 32 % 4294967296)=((x / 4294967296:Nat):Int):=by omega
   rw [e1,e2,Yay];refine⟨?_,by simp,?_⟩
   .rw [qc,qc];exact⟨by omega,by omega,Wc⟩
   .have:val [x % 4294967296,x / 4294967296]=x:=by
     simp only [Vg,Uj];omega
    rw [this,hs];exact hK
  refine⟨λh=>⟨⟨by omega,by omega,by decide⟩,?_⟩,λh=>⟨⟨by omega,by omega,by decide⟩,?_⟩⟩
  .have e:(-(n % 18446744073709551616) % 18446744073709551616:Int)=((-n).toNat:Int):=by omega
   rw [e];refine key _ _ (by omega) ?_
   rw [decide_eq_true h];unfold sg;rw [if_pos rfl];omega
  .have e:(n % 18446744073709551616:Int)=(n.toNat:Int):=by omega
   rw [e];refine key _ _ (by omega) ?_
   rw [decide_eq_false h];unfold sg;rw [if_neg (by simp)];omega
theorem QZ(hΓ:Holds P Γ){f fm:Nat}(hm:Γ fm=.dat false kj)(hc:check P f=some (11,(Yl fm).strip,[.tmp 2])):Sound P f (.dat true Wi):=by
 refine Va hc JI hΓ (λargs K hcl hfi hG=>?_);match args,hG with
 | [a],hG=>
  obtain⟨w,rfl,hw,hK⟩:=hG;refine⟨by simp,?_⟩
  simp only [go_sem,Yl,hm,hw,qbg,kaL];intro _;show((digs (zv w).natAbs).length=0->_)/\(¬(digs (zv w).natAbs).length=0->_);have h0:(digs (zv w).natAbs).length=0↔zv w=0:=Wr;rw [h0];refine⟨λh=>?_,λh=>⟨λhb=>?_,λhb=>?_⟩⟩
  .rw [h]at hK;exact hK
  .have:zv w<0:=by
    have:=Xaz hw;rw [hb,Bool.and_true]at this;have hv:vldW w=true:=by
     cases hv:vldW w with
     | true=>rfl
     | false=>exact absurd (W3 hv) h
    rw [hv]at this;simpa using this.symm
   rw [Int.sign_eq_neg_one_of_neg this]at hK;exact hK
  .have:¬zv w<0:=by
    have:=Xaz hw;rw [hb,Bool.and_false]at this;simpa using this.symm
   rw [Int.sign_eq_one_of_pos (by omega)]at hK;exact hK
theorem Xak(hΓ:Holds P Γ){f fs fm fc fn:Nat}(hs:Γ fs=.dat true Wi)(hm:Γ fm=.dat false kj)(hc' : Γ fc=.dat false Jj)(hn:Γ fn=.dat true yh)
  (hc:check P f=some (28,(Wm fs fm fc fn).strip,[.tmp 4])):Sound P f (.dat true zE):=by
 refine Va hc kax hΓ (λargs K hcl hfi hG=>?_);match args,hG with
 | [a,b],hG=>
  obtain⟨v,rfl,hv,w,rfl,hw,hK⟩:=hG;refine⟨by simp,?_⟩
  simp only [go_sem,Wm,hs,hm,hc',hn,hv,hw];simp only [Ya];have hs:∀n:Int,Int.sign n=if n<0 then -1 else if n=0 then 0 else 1:=by
   intro n;split
   .exact Int.sign_eq_neg_one_of_neg ‹_›
   .split
    .rename_i h;rw [h];rfl
    .exact Int.sign_eq_one_of_pos (by omega)
  rw [hs,hs];generalize zv v=x at hK ⊢;generalize zv w=y at hK ⊢;refine⟨λh=>⟨Wa _,Wa _,Vm _,Vm _,λhx=>⟨?_,?_⟩,λhx=>?_⟩,λh=>⟨λh'=>?_,λh'=>?_⟩⟩
  .unfold ordN;split <;> (try split) <;> omega
  .have e:-ordN x.natAbs y.natAbs=ordI x y:=by
    unfold ordN ordI;rw [if_pos hx]at h;have hy:y<0:=by
     split at h
     .assumption
     .split at h <;> omega
    split <;> (try split) <;> (try split) <;> (try split) <;> omega
   rw [e];exact hK
  .have e:ordN x.natAbs y.natAbs=ordI x y:=by
    unfold ordN ordI;rw [if_neg hx]at h;have hy:¬y<0:=by
     intro hy;rw [if_pos hy]at h;split at h <;> omega
    split <;> (try split) <;> (try split) <;> (try split) <;> omega
   rw [e];exact hK
  .have e:ordI x y = -1:=QaW (by
    split at h' <;> split at h' <;> (try split at h') <;> (try split at h') <;> omega)
   rw [e]at hK;exact hK
  .have e:ordI x y=1:=za5 (by
    split at h' <;> split at h' <;> (try split at h') <;> (try split at h') <;> (try split at h) <;> (try split at h) <;> (try split at h) <;> (try split at h) <;> omega)
   rw [e]at hK;exact hK
theorem uI(hΓ:Holds P Γ){f fn fm fw:Nat}(hn:Γ fn=.dat true yh)(hm:Γ fm=.dat false kj)(hw' : Γ fw=.dat false Yf)(hc:check P f=some (9,(xi fn fm fw).strip,[.cell 2 2 true])):Sound P f (.dat false Vs):=by
 refine Va hc XaC hΓ (λargs K hcl hfi hG=>?_);match args,hG with
 | [a],hG=>
  obtain⟨w,rfl,hw,hz,hK⟩:=hG;refine⟨by simp,?_⟩
  simp only [go_sem,xi,hn,hm,hw',hw];rw [Ya];refine⟨Wa _,hz,?_⟩;have e:sg (!decide (zv w<0)) (zv w).natAbs = -zv w:=by
   unfold sg;by_cases h:zv w<0 <;> simp [h] <;> omega
  rw [e];exact hK
theorem Jam(hΓ:Holds P Γ){f fn fm ft fw:Nat}(hn:Γ fn=.dat true yh)(hm:Γ fm=.dat false kj)(ht:Γ ft=.dat false yw)(hw' : Γ fw=.dat false Yf)(hc:check P f=some (16,(Um fn fm ft fw).strip,[.cell 4 2 true])):Sound P f (.dat false jv):=by
 refine Va hc vax hΓ (λargs K hcl hfi hG=>?_);match args,hG with
 | [a,b],hG=>
  obtain⟨v,rfl,hv,w,rfl,hw,hz,hz',hK⟩:=hG;refine⟨by simp,?_⟩
  simp only [go_sem,Um,hn,hm,ht,hw',hw,hv];simp only [Ya];have e:sg (!(decide (zv v<0) == decide (zv w<0))) ((zv v).natAbs*(zv w).natAbs)=zv v*zv w:=ka9 _ _;rw [e];refine⟨Wa _,Wa _,hz,hz',Wa _,?_,hK⟩;have:=Yk (zv v) (zv w);unfold zs at *
  rw [<-Int.natAbs_mul];omega
theorem van(hΓ:Holds P Γ){f fn fm fp fw fc fl:Nat}(hn:Γ fn=.dat true yh)(hm:Γ fm=.dat false kj)(hp:Γ fp=.dat false vp)(hw' : Γ fw=.dat false Yf)(hc' : Γ fc=.dat false Jj)(hl:Γ fl=.dat false Yp)(hc:check P f=some (40,(Qn fm fn fp fw fc fl).strip,[.cell 4 2 true])):Sound P f (.dat false Qs):=by
 refine Va hc vR hΓ (λargs K hcl hfi hG=>?_);match args,hG with
 | [a,b],hG=>
  obtain⟨v,rfl,hv,w,rfl,hw,hz,hz',hK⟩:=hG;refine⟨by simp,?_⟩
  simp only [go_sem,Qn,hn,hm,hp,hw',hc',hl,hw,hv];simp only [Ya];have hsz:=qK (zv v) (zv w);refine⟨λh=>⟨Wa _,Wa _,hz,hz',Wa _,?_,?_⟩,λh=>⟨Wa _,Wa _,Vm _,Vm _,λho=>⟨Wa _,Wa _,by unfold zs at hz;omega,?_,Wa _,?_,?_⟩,λho=>⟨Wa _,Wa _,by unfold zs at hz';omega,?_,Wa _,?_,?_⟩⟩⟩
  .have e:=Vo (vf h);rw [show(zv v).natAbs+(zv w).natAbs=(zv v+zv w).natAbs by have:=vf h;omega]
   unfold zs at *;omega
  .rw [Vo (vf h)];exact hK
  .exact(wq.1 ho)
  .have:=wa (Nat.sub_le (zv v).natAbs (zv w).natAbs);unfold zs at *;omega
  .have h1:=wq.1 ho;rw [Vae (wk h) h1];exact hK
  .have:=mt wq.2 ho;omega
  .have:=wa (Nat.sub_le (zv w).natAbs (zv v).natAbs);unfold zs at *;omega
  .have h1:=mt wq.2 ho;rw [Vae (λe=>wk h e.symm) (by omega),Int.add_comm];exact hK
theorem wam(hΓ:Holds P Γ){f fn fm fp fw fd fl tE:Nat}(hn:Γ fn=.dat true yh)(hm:Γ fm=.dat false kj)(hp:Γ fp=.dat false vp)(hw' : Γ fw=.dat false Yf)(hd:Γ fd=.dat false zp)(hl:Γ fl=.dat false Yp)(hc:check P f=some (47,(wm fm fd fn fp fl fw tE).strip,[.cell 4 2 true,.cell 5 2 true,.tmp 6])):Sound P f (.dat false yJ):=by
 refine Va hc Vas hΓ (λargs K hcl hfi hG=>?_);match args,hG with
 | [a,b],hG=>
  obtain⟨v,rfl,hv,w,rfl,hw,hz,hz',h0,hK⟩:=hG;refine⟨by simp,?_⟩
  simp only [go_sem,wm,hn,hm,hp,hw',hd,hl,hw,hv];simp only [Ya];have hne:¬(digs (zv w).natAbs).length=0:=λe=>h0 (Wr.1 e);intro _;refine⟨λe=>absurd e hne,λ_=>⟨Wa _,Wa _,Vm _,Vm _,λe=>hne (by rw [e];rfl),hz,hz',?_⟩⟩
  have hq:(digs ((zv v).natAbs / (zv w).natAbs)).length<=17179869184:=Nat.le_trans (wa (Nat.div_le_self _ _)) hz;have hr:(digs ((zv v).natAbs % (zv w).natAbs)).length<=17179869184:=Nat.le_trans (wa (Nat.mod_le _ _)) hz;have hz'' : (digs (zv w).natAbs).length<=17179869184:=hz';have hlt:=Nat.mod_lt (zv v).natAbs (show 0<(zv w).natAbs by omega)
  have hfin:(0<=zv v∨(zv v).natAbs % (zv w).natAbs=0)->K (AV.tup
    [AV.agg [zb (zcan (sg (!(decide (zv v<0) == decide (zv w<0))) ((zv v).natAbs / (zv w).natAbs))),zm (zcan (sg (!(decide (zv v<0) == decide (zv w<0))) ((zv v).natAbs / (zv w).natAbs)))],
     AV.agg [zb (zcan (sg false ((zv v).natAbs % (zv w).natAbs))),zm (zcan (sg false ((zv v).natAbs % (zv w).natAbs)))],AV.one (C.lit Value.nilIface)]):=by
   intro h;obtain⟨e1,e2⟩:=WaL h0 h;have e1' : sg (!(decide (zv v<0) == decide (zv w<0))) ((zv v).natAbs / (zv w).natAbs)=zv v / zv w:=e1;have e2' : sg false ((zv v).natAbs % (zv w).natAbs)=zv v % zv w:=e2;rw [e1',e2'];exact hK
  refine⟨λhneg _=>⟨λhp=>⟨Wa _,(Qau _ 1).mpr ⟨qc.2 ⟨by decide,Wc⟩,hq,by decide,Wa _,Wa _,by omega,by omega,Wa _,?_,Wa _,?_,?_⟩⟩,λhp=>⟨Wa _,by omega,Wa _,by omega,hfin (.inr ?_)⟩⟩,λhneg=>⟨Wa _,by omega,Wa _,by omega,hfin (.inl (by omega))⟩⟩
  .have hv1:val [1]=1:=rfl;rw [hv1];have h1:zs 1<=2:=waw (by decide)
   have:=qK (((zv v).natAbs / (zv w).natAbs:Nat):Int) 1;have e:(((zv v).natAbs / (zv w).natAbs:Nat):Int)+1=(((zv v).natAbs / (zv w).natAbs+1:Nat):Int):=by omega
   rw [e]at this;have h3:zs (((zv v).natAbs / (zv w).natAbs:Nat):Int)=(digs ((zv v).natAbs / (zv w).natAbs)).length:=rfl;have h4:zs (((zv v).natAbs / (zv w).natAbs+1:Nat):Int)=(digs ((zv v).natAbs / (zv w).natAbs+1)).length:=rfl;rw [h3,h4]at this;omega
  .have:=wa (Nat.sub_le (zv w).natAbs ((zv v).natAbs % (zv w).natAbs));omega
  .have hv1:val [1]=1:=rfl;rw [hv1];have hne' : (zv v).natAbs % (zv w).natAbs≠0:=by
    intro e;rw [e,Zb]at hp;simp at hp
   obtain⟨e1,e2⟩:=uaJ h0 hneg hne';have e1' : sg (!(decide (zv v<0) == decide (zv w<0))) ((zv v).natAbs / (zv w).natAbs+1)=zv v / zv w:=e1;have e2' : sg false ((zv w).natAbs-(zv v).natAbs % (zv w).natAbs)=zv v % zv w:=e2;rw [e1',e2'];exact hK
  .have:digs ((zv v).natAbs % (zv w).natAbs)=[]:=List.eq_nil_of_length_eq_zero (by omega)
   exact Ud.1 this
theorem Qal(hΓ:Holds P Γ){f fm fd fw:Nat}(hm:Γ fm=.dat false kj)(hw' : Γ fw=.dat false Yf)(hd:Γ fd=.dat false zp)(hc:check P f=some (26,(ym fm fd fw).strip,[.cell 4 2 true])):Sound P f (.dat false xq):=by
 refine Va hc wT hΓ (λargs K hcl hfi hG=>?_);match args,hG with
 | [a,b],hG=>
  obtain⟨v,rfl,hv,w,rfl,hw,hz,hz',hK⟩:=hG;refine⟨by simp,?_⟩
  simp only [go_sem,ym,hm,hw',hd,hw,hv];refine Ua (λp:Nat×Nat=>⟨mkV [(4,.one (.ptr 4 1 0 0)),(5,.one (ws (digs p.1))),(6,.one (ws (digs p.2)))],mkH [(4,⟨1,some ⟨[[.lit (.bool false),.emp]],2,true⟩⟩)]⟩)
   (λp=>(digs p.1).length<=17179869184/\(digs p.2).length<=17179869184/\Nat.gcd p.1 p.2=Int.gcd (zv v) (zv w)) (λp=>p.2) ((zv v).natAbs,(zv w).natAbs) ?_ ?_ ?_
  .exact ja (by simp [bitvec_to_nat]) ⟨⟨⟨rfl,rfl⟩,.inr ⟨⟨rfl,trivial,trivial⟩,trivial⟩⟩,trivial⟩
  .exact⟨hz,hz',rfl⟩
  .rintro⟨a,b⟩ ⟨ha,hb,hg⟩;simp only at ha hb hg;simp only [go_sem,hm,hw',hd,ws];simp only [Ya];refine λ_=>⟨λh=>⟨Wa _,Wa _,Vm _,Vm _,λe=>by rw [e]at h;simp at h,ha,hb,?_⟩,λh=>⟨Wa _,by omega,?_⟩⟩
   .have hb0:0<b:=by
     rcases Nat.eq_zero_or_pos b with e | e
     .rw [e,Zb]at h;simp at h
     .exact e
    refine⟨(b,a % b),ja (by simp [bitvec_to_nat]) ⟨⟨⟨rfl,rfl⟩,.inr ⟨⟨rfl,trivial,trivial⟩,trivial⟩⟩,trivial⟩,⟨hb,Nat.le_trans (wa (Nat.mod_le _ _)) ha,?_⟩,Nat.mod_lt _ hb0⟩
    rw [<-hg];show Nat.gcd b (a % b)=_;rw [Nat.gcd_comm b,<-Nat.gcd_rec,Nat.gcd_comm]
   .have:digs b=[]:=List.eq_nil_of_length_eq_zero (by omega)
    rw [Ud.1 this,Nat.gcd_zero_right]at hg;rw [hg];exact hK
end Go.Abs
end
section
namespace Go.Abs
noncomputable section
inductive Tr where
 | e
 | l (a:AV)
 | n (x y:Tr)
 deriving Inhabited
def sel{α:Type}(b:Bool)(x y:α):α:=@Bool.rec (λ_=>α) y x b
def obind{α β:Type}(x:Option α)(f:α->Option β):Option β:=@Option.rec α (λ_=>Option β) none f x
def omap{α β:Type}(f:α->β)(x:Option α):Option β:=@Option.rec α (λ_=>Option β) none (λa=>some (f a)) x
def guardE{α:Type}(b:Bool)(x:Option α):Option α:=@Bool.rec (λ_=>Option α) none x b
def Tr.get(t:Tr):Nat->AV:=@Tr.rec (λ_=>Nat->AV) (λ_=>.any) (λa _=>a)
 (λ_ _ gx gy k=>sel (Nat.beq (Nat.mod k 2) 0) (gx (Nat.div k 2)) (gy (Nat.div k 2))) t
def Tr.lef(t:Tr):Tr:=@Tr.rec (λ_=>Tr) .e (λa=>.l a) (λx _ _ _=>x) t
def Tr.rig(t:Tr):Tr:=@Tr.rec (λ_=>Tr) .e (λa=>.l a) (λ_ y _ _=>y) t
def Tr.set(d:Nat):Tr->Nat->AV->Tr:=@Nat.rec (λ_=>Tr->Nat->AV->Tr) (λ_ _ a=>.l a)
 (λ_ st t k a=>sel (Nat.beq (Nat.mod k 2) 0) (.n (st t.lef (Nat.div k 2) a) t.rig) (.n t.lef (st t.rig (Nat.div k 2) a))) d
def dep:Nat:=8
def top:Nat:=256
structure T where
 v:Tr
 x:List Tr
 h:List (Nat×HB)
 n:Nat
 deriving Inhabited
def hget(h:List (Nat×HB))(t:Nat):HB:=@List.rec (Nat×HB) (λ_=>HB) ⟨0,none⟩ (λp _ g=>sel (Nat.beq t p.1) p.2 g) h
def hset(h:List (Nat×HB))(t:Nat)(c:HB):List (Nat×HB):=@List.rec (Nat×HB) (λ_=>List (Nat×HB)) [(t,c)]
 (λp r g=>sel (Nat.beq t p.1) ((t,c)::r) (p::g)) h
def farV(l:List Tr):Nat->AV:=@List.rec Tr (λ_=>Nat->AV) (λ_=>.any) (λv _ g k=>sel (Nat.ble k 255) (v.get k) (sel (Nat.ble pinA k) (g (k-pinA)) .any)) l
def T.get(t:T)(k:Nat):AV:=sel (Nat.ble k 255) (t.v.get k) (farV (t.v::t.x) k)
def T.ev(t:T):Opd->AV
 | .t n=>t.get n
 | .c a=>a
def T.put(t:T)(d:Option Nat)(x:AV):T:=@Option.rec Nat (λ_=>T) t (λd=>⟨t.v.set dep d x,t.x,t.h,t.n⟩) d
def HB.of(b:HB)(ver:Nat):Option Blk:=sel (Nat.beq b.ver ver) b.blk none
def T.hat(t:T)(r ver:Nat):Option Blk:=(hget t.h r).of ver
def T.setB(t:T)(r ver:Nat)(b:Blk):T:={ t with h:=hset t.h r ⟨ver,some b⟩ }
section
variable {α:Type}
def fNat(k:Nat->α):Nat->α
 | 0=>k 0
 | n+1=>k (n+1)
def fInt(k:Int->α):Int->α
 | .ofNat n=>fNat (λn=>k (.ofNat n)) n
 | .negSucc n=>fNat (λn=>k (.negSucc n)) n
def fBool(k:Bool->α):Bool->α
 | true=>k true
 | false=>k false
def fKind(k:IntKind->α):IntKind->α
 | .i8=>k .i8
 | .i16=>k .i16
 | .i32=>k .i32
 | .i64=>k .i64
 | .u8=>k .u8
 | .u16=>k .u16
 | .u32=>k .u32
 | .u64=>k .u64
def fVal(k:Value->α):Value->α
 | .int i n=>fKind (λi=>fInt (λn=>k (.int i n)) n) i
 | .bool b=>fBool (λb=>k (.bool b)) b
 | v=>k v
mutual
def fC:C->(C->α)->α
 | .lit v,k=>fVal (λv=>k (.lit v)) v
 | .slice es,k=>fR es λes=>k (.slice es)
 | .full es,k=>fR es λes=>k (.full es)
 | .emp,k=>k .emp
 | .ref cs,k=>fL cs λcs=>k (.ref cs)
 | .clo f cs,k=>fL cs λcs=>k (.clo f cs)
 | c,k=>k c
def fL:List C->(List C->α)->α
 | [],k=>k []
 | c::l,k=>fC c λc=>fL l λl=>k (c::l)
def fR:List (List C)->(List (List C)->α)->α
 | [],k=>k []
 | e::l,k=>fL e λe=>fR l λl=>k (e::l)
end
mutual
def fA:AV->(AV->α)->α
 | .one c,k=>fC c λc=>k (.one c)
 | .agg cs,k=>fL cs λcs=>k (.agg cs)
 | .tup l,k=>fAs l λl=>k (.tup l)
 | .any,k=>k .any
def fAs:List AV->(List AV->α)->α
 | [],k=>k []
 | a::l,k=>fA a λa=>fAs l λl=>k (a::l)
end
end
mutual
def deepC(h:List (Nat×HB)):Nat->C->Option C
 | 0,_=>none
 | n+1,.own r ver _ off len=>
  match hget h r with
  | ⟨v,some b⟩=>cond (Nat.beq v ver && Nat.ble (off+len) b.es.length) ((deepR h n ((b.es.drop off).take len)).map .slice) none
  | ⟨_,none⟩=>none
 | n+1,.ptr r ver i off=>
  match hget h r with
  | ⟨v,some b⟩=>match b.es[i]? with
   | some e=>cond (Nat.beq v ver && Nat.ble off e.length) ((deepL h n (e.drop off)).map .ref) none
   | none=>none
  | ⟨_,none⟩=>none
 | n+1,.clo f cs=>(deepL h n cs).map (.clo f)
 | _+1,.emp=>some (.slice [])
 | _+1,.full es=>some (.slice es)
 | _+1,c=>some c
def deepL(h:List (Nat×HB)):Nat->List C->Option (List C)
 | 0,_=>none
 | _+1,[]=>some []
 | n+1,c::l=>match deepC h n c with
  | some c'=>(deepL h n l).map (c'::·)
  | none=>none
def deepR(h:List (Nat×HB)):Nat->List (List C)->Option (List (List C))
 | 0,_=>none
 | _+1,[]=>some []
 | n+1,e::l=>match deepL h n e with
  | some e'=>(deepR h n l).map (e'::·)
  | none=>none
end
def deepF:Nat:=4096
def deepA(h:List (Nat×HB)):AV->Option AV
 | .one c=>(deepC h deepF c).map .one
 | .agg cs=>(deepL h deepF cs).map .agg
 | .any=>some .any
 | .tup _=>none
def deepAs(h:List (Nat×HB)):List AV->Option (List AV)
 | []=>some []
 | a::l=>match deepA h a with
  | some a'=>(deepAs h l).map (a'::·)
  | none=>none
def frzH:List Nat->List (Nat×HB)->List (Nat×HB)
 | [],h=>h
 | r::l,h=>frzH l (match hget h r with
  | ⟨v,some b⟩=>hset h r ⟨v,some { b with live:=false }⟩
  | ⟨_,none⟩=>h)
def spF(f:Nat):Bool:=Nat.beq f 260
def sameK:IntKind->IntKind->Bool
 | .i8,.i8 | .i16,.i16 | .i32,.i32 | .i64,.i64 | .u8,.u8 | .u16,.u16 | .u32,.u32 | .u64,.u64=>true
 | _,_=>false
def litE(v:Value):Option AV:=some (.one (.lit v))
def intE(k:IntKind)(n:Int):Option AV:=some (.one (.lit (.int k n)))
def boolE(b:Bool):Option AV:=some (.one (.lit (.bool b)))
def ile:Int->Int->Bool
 | .ofNat a,.ofNat b=>Nat.ble a b
 | .negSucc _,.ofNat _=>true
 | .ofNat _,.negSucc _=>false
 | .negSucc a,.negSucc b=>Nat.ble b a
def ilt(a b:Int):Bool:=!ile b a
def ieq:Int->Int->Bool
 | .ofNat a,.ofNat b=>Nat.beq a b
 | .negSucc a,.negSucc b=>Nat.beq a b
 | _,_=>false
def i64:Int->Bool
 | .ofNat a=>Nat.ble a 9223372036854775807
 | .negSucc a=>Nat.ble a 9223372036854775807
def numE:IntKind->Int->Option AV
 | .i64,n=>guardE (i64 n) (intE .i64 n)
 | .u64,n=>intE .u64 (n % 18446744073709551616)
 | .u32,n=>intE .u32 (n % 4294967296)
 | .u8,n=>intE .u8 (n % 256)
 | _,_=>none
def arithE:BinOp->IntKind->Int->Int->Option AV
 | .add,k,a,b=>numE k (a+b)
 | .sub,k,a,b=>numE k (a-b)
 | .mul,k,a,b=>numE k (a*b)
 | .quo,k,a,b=>guardE (ile 0 a && ilt 0 b) (numE k (a / b))
 | .rem,k,a,b=>guardE (ile 0 a && ilt 0 b) (intE k (a % b))
 | .eql,_,a,b=>boolE (ieq a b)
 | .neq,_,a,b=>boolE (!ieq a b)
 | .lss,_,a,b=>boolE (ilt a b)
 | .leq,_,a,b=>boolE (ile a b)
 | .gtr,_,a,b=>boolE (ilt b a)
 | .geq,_,a,b=>boolE (ile b a)
 | _,_,_,_=>none
def binE(op:BinOp):AV->AV->Option AV
 | .one (.lit (.int k a)),.one (.lit (.int k' b))=>
  match op with
  | .shl=>guardE (ile 0 a && ile 0 b && ile b k.bits) (numE k (a*2 ^ b.toNat))
  | .shr=>guardE (ile 0 a && ile 0 b && ile b k.bits) (intE k (a / 2 ^ b.toNat))
  | op=>guardE (sameK k k') (arithE op k a b)
 | _,_=>none
def binbE:BinOp->AV->AV->Option AV
 | .eql,.one (.lit (.bool a)),.one (.lit (.bool b))=>boolE (a == b)
 | .neq,.one (.lit (.bool a)),.one (.lit (.bool b))=>boolE (!(a == b))
 | _,_,_=>none
def nilE:Value->Bool->Option AV
 | .nilIface,neg=>boolE (!neg)
 | .iface _ _,neg=>boolE neg
 | _,_=>none
def binnE:BinOp->Bool->AV->AV->Option AV
 | .eql,true,.one (.lit a),.one (.lit .nilIface)=>nilE a false
 | .neq,true,.one (.lit a),.one (.lit .nilIface)=>nilE a true
 | _,_,_,_=>none
def unE:UnOp->AV->Option AV
 | .not,.one (.lit (.bool b))=>boolE (!b)
 | .neg,.one (.lit (.int k a))=>numE k (-a)
 | _,_=>none
def convE(k:IntKind):AV->Option AV
 | .one (.lit (.int _ a))=>numE k a
 | _=>none
def ifaceE(t:TypeId):AV->Option AV
 | .one (.lit (.int k n))=>litE (.iface t (.int k n))
 | _=>none
def cellsE:AV->Option (List C)
 | .one c=>some [c]
 | .agg cs=>some cs
 | _=>none
def segsE(t:T)(l:List Seg):Option (List C):=@List.rec Seg (λ_=>Option (List C)) (some [])
 (λsg _ g=>@Seg.rec (λ_=>Option (List C)) (λcs=>omap (cs++·) g) (λn o=>obind (cellsE (t.ev o)) λcs=>guardE (Nat.beq cs.length n) (omap (cs++·) g)) sg) l
def rowsE(t:T)(z:Nat)(l:List (List Seg)):Option (List (List C)):=@List.rec (List Seg) (λ_=>Option (List (List C))) (some [])
 (λsg _ g=>obind (segsE t sg) λcs=>guardE (Nat.beq cs.length z) (omap (cs::·) g)) l
def oneE:AV->Option C
 | .one c=>some c
 | _=>none
def capE(t:T)(l:List Opd):Option (List C):=@List.rec Opd (λ_=>Option (List C)) (some []) (λo _ g=>obind (oneE (t.ev o)) λc=>omap (c::·) g) l
def ldE(n:Nat):Bool->List C->Option AV
 | true,cs=>guardE (Nat.ble n cs.length) (some (.agg (cs.take n)))
 | false,c::_=>some (.one c)
 | false,[]=>none
def loadE(n:Nat)(g:Bool)(t:T):AV->Option AV
 | .one (.ref cs)=>ldE n g cs
 | .one (.ptr r ver i off)=>match t.hat r ver with
  | some b=>match b.es[i]? with
   | some e=>ldE n g (e.drop off)
   | none=>none
  | none=>none
 | _=>none
def baseE:Option Nat->AV->Bool
 | none,_=>true
 | some b,.one (.ptr r _ _ _)=>Nat.beq r b
 | some _,.one (.ref _)=>true
 | _,_=>false
def stE(n:Nat)(t:T)(x:AV):AV->Option T
 | .one (.ptr r ver i off)=>match cellsE x,t.hat r ver with
  | some xs,some b=>match b.es[i]? with
   | some e=>guardE (b.live && Nat.beq xs.length n && Nat.ble (off+n) e.length) (some (t.setB r ver ⟨b.es.set i (splice e off n xs),b.z,b.live⟩))
   | none=>none
  | _,_=>none
 | _=>none
def newE(t:T)(b:Blk)(a:Nat->Nat->AV):Option Nat->Option T
 | some d=>match hget t.h d with
  | ⟨ver,none⟩=>some (({ t with h:=hset t.h d ⟨ver+1,some b⟩ }).put (some d) (a d (ver+1)))
  | ⟨_,some _⟩=>none
 | none=>none
def idxE(z:Nat):AV->AV->Option AV
 | .one (.lit (.int _ i)),.one (.slice es)=>match es[i.toNat]? with
  | some e=>guardE (ile 0 i && Nat.beq e.length z) (some (.one (.ref e)))
  | none=>none
 | .one (.lit (.int _ i)),.one (.full es)=>match es[i.toNat]? with
  | some e=>guardE (ile 0 i && Nat.beq e.length z) (some (.one (.ref e)))
  | none=>none
 | .one (.lit (.int _ i)),.one (.own r ver z' off len)=>guardE (ile 0 i && ilt i len && Nat.beq z z') (some (.one (.ptr r ver (off+i.toNat) 0)))
 | _,_=>none
def bndE(n:Nat)(x:Option AV):Option AV:=guardE (Nat.ble n maxLenA) x
def lenE:AV->Option AV
 | .one (.slice es)=>bndE es.length (intE .i64 es.length)
 | .one (.full es)=>bndE es.length (intE .i64 es.length)
 | .one .emp=>intE .i64 0
 | .one (.own _ _ _ _ len)=>bndE len (intE .i64 len)
 | _=>none
def snilE(neg:Bool):AV->Option AV
 | .one (.slice (_::_))=>boolE neg
 | .one (.full (_::_))=>boolE neg
 | .one (.own _ _ _ _ (_+1))=>boolE neg
 | _=>none
def bE(t:T)(dflt:Nat):Option Opd->Option Nat
 | none=>some dflt
 | some a=>match t.ev a with
  | .one (.lit (.int _ i))=>guardE (ile 0 i) (some i.toNat)
  | _=>none
def allLen(z:Nat):List (List C)->Bool
 | []=>true
 | e::l=>Nat.beq e.length z && allLen z l
def sliceE(z:Nat)(t:T)(lo hi:Option Opd):AV->Option AV
 | .one (.slice es)=>match bE t es.length hi,bE t 0 lo with
  | some h,some l=>guardE (Nat.ble l h && Nat.ble h es.length && allLen z es) (some (.one (.slice ((es.drop l).take (h-l)))))
  | _,_=>none
 | .one (.full es)=>match bE t es.length hi,bE t 0 lo with
  | some h,some l=>guardE (Nat.ble l h && Nat.ble h es.length && allLen z es) (some (.one (.slice ((es.drop l).take (h-l)))))
  | _,_=>none
 | .one (.own r ver z' off len)=>match bE t len hi,bE t 0 lo with
  | some h,some l=>guardE (Nat.ble l h && Nat.ble h len && Nat.beq z z') (some (.one (.own r ver z (off+l) (h-l))))
  | _,_=>none
 | .one .emp=>match bE t 0 hi,bE t 0 lo with
  | some h,some l=>guardE (Nat.beq l 0 && Nat.beq h 0) (some (.one .emp))
  | _,_=>none
 | _=>none
def elemsE(t:T):AV->Option (List (List C))
 | .one (.slice es)=>some es
 | .one (.full es)=>some es
 | .one .emp=>some []
 | .one (.own r ver _ off len)=>match t.hat r ver with
  | some b=>guardE (Nat.ble (off+len) b.es.length) (some ((b.es.drop off).take len))
  | none=>none
 | _=>none
def appE(z:Nat)(d:Option Nat)(t:T)(x y:AV):Option T:=
 match elemsE t y with
 | none=>none
 | some ys=>guardE (allLen z ys) (match x with
  | .one .emp=>guardE (Nat.ble ys.length roomA) (newE t ⟨ys,z,true⟩ (λd ver=>.one (.own d ver z 0 ys.length)) d)
  | .one (.full es)=>match ys with
   | []=>newE t ⟨[],z,true⟩ (λ_ _=>.one (.full es)) d
   | y::ys=>guardE (Nat.ble (es.length+(y::ys).length) roomA && allLen z es) (newE t ⟨es++y::ys,z,true⟩ (λd ver=>.one (.own d ver z 0 (es.length+(y::ys).length))) d)
  | .one (.own r ver z' 0 len)=>match t.hat r ver with
   | some b=>guardE (b.live && Nat.beq z z' && Nat.beq z b.z && Nat.ble len b.es.length && Nat.ble (len+ys.length) roomA && Nat.ble (r+1) pinA)
     (some ((t.setB r (ver+1) ⟨b.es.take len++ys,z,true⟩).put d (.one (.own r (ver+1) z 0 (len+ys.length)))))
   | none=>none
  | _=>none)
def sopE(k:Nat)(l:List AV):Option AV:=
 match (l.mapM litV).bind (sopV k) with
 | some v=>litE v
 | none=>none
def fldE(n:Nat)(g:Bool)(off:Nat):AV->Option AV
 | .agg cs=>guardE (Nat.ble off cs.length) (ldE n g (cs.drop off))
 | _=>none
def faE(off:Nat):AV->Option AV
 | .one (.ptr r ver i o)=>some (.one (.ptr r ver i (o+off)))
 | .one (.ref cs)=>guardE (Nat.ble off cs.length) (some (.one (.ref (cs.drop off))))
 | _=>none
def nilckE:AV->Option AV
 | .one (.ptr r ver i off)=>some (.one (.ptr r ver i off))
 | .one (.ref cs)=>some (.one (.ref cs))
 | _=>none
def extE(i:Nat):AV->Option AV
 | .tup l=>l[i]?
 | _=>none
def tassE(t:TypeId)(zero:AV):AV->Option AV
 | .one (.lit (.iface t' u))=>cond (Nat.beq t' t) (guardE (isCell u) (some (.tup [.one (.lit u),.one (.lit (.bool true))]))) (some (.tup [zero,.one (.lit (.bool false))]))
 | .one (.lit .nilIface)=>some (.tup [zero,.one (.lit (.bool false))])
 | _=>none
def atE(n:Nat):AV->Option Nat
 | .one (.lit (.int _ j))=>guardE (ile 0 j && ilt j n) (some j.toNat)
 | _=>none
def rslE(z n:Nat):AV->Option AV
 | .one (.ref cs)=>guardE (Nat.beq cs.length (n*z) && Nat.ble n roomA) (some (.one (.full (chunk z n cs))))
 | _=>none
def clrE(z:Nat)(t:T):AV->AV->Option T
 | .one (.own r ver z' off len),.agg zs=>match t.hat r ver with
  | some b=>guardE (b.live && Nat.beq z z' && Nat.beq z b.z && Nat.beq zs.length z && Nat.ble (off+len) b.es.length)
    (some (t.setB r ver ⟨b.es.take off++(List.replicate len zs++b.es.drop (off+len)),z,true⟩))
  | none=>none
 | _,_=>none
def cpyE(z:Nat)(t:T)(ys:List (List C)):AV->Option T
 | .one (.own r ver z' off len)=>match t.hat r ver with
  | some b=>guardE (b.live && Nat.beq z z' && Nat.beq z b.z && Nat.ble ys.length len && Nat.ble (off+len) b.es.length)
    (some (t.setB r ver ⟨nrmR (b.es.take off++(ys++b.es.drop (off+ys.length))),z,true⟩))
  | none=>none
 | _=>none
def maxE(pick:Int->Int->Int)(t:T):List Opd->IntKind->Int->Option AV
 | [],k,a=>intE k a
 | y::r,k,a=>match t.ev y with
  | .one (.lit (.int k' b))=>guardE (sameK k k') (maxE pick t r k (pick a b))
  | _=>none
def mmE(pick:Int->Int->Int)(t:T):List Opd->Option AV
 | []=>none
 | x::r=>match t.ev x with
  | .one (.lit (.int k a))=>maxE pick t r k a
  | _=>none
def appIsE(b:Nat)(d:Option Nat):AV->AV->Bool
 | .one (.own r _ _ _ _),.one (.full _)=>Nat.beq r b
 | .one .emp,.one (.full _)=>match d with
  | some d=>Nat.beq d b
  | none=>false
 | _,_=>false
structure Lv where
 dat:Nat->List AV->Option AV
 inl:Nat->List AV->T->Option (AV×T)
 look:Nat->List (List C)->List AV->Option AV
 fresh:Nat->List AV->Option (List (List C))
 z:Nat->Nat
def flatC:C->Option C
 | .own ..=>none
 | .ptr ..=>none
 | .emp=>some (.slice [])
 | .full es=>some (.slice es)
 | .clo f []=>some (.clo f [])
 | .clo _ _=>none
 | c=>some c
def flatL:List C->Option (List C)
 | []=>some []
 | c::l=>match flatC c with
  | some c'=>(flatL l).map (c'::·)
  | none=>none
def flatA:AV->Option AV
 | .one c=>(flatC c).map .one
 | .agg cs=>(flatL cs).map .agg
 | _=>none
def flatAs:List AV->Option (List AV)
 | []=>some []
 | a::l=>match flatA a with
  | some a'=>(flatAs l).map (a'::·)
  | none=>none
def ownE:List C->List Nat
 | []=>[]
 | c::l=>ownC c++ownE l
def ownEs:List (List C)->List Nat
 | []=>[]
 | e::l=>ownE e++ownEs l
def cleanE:Nat->C->Bool
 | 0,_=>false
 | _+1,.own ..=>false
 | _+1,.ptr ..=>false
 | n+1,.slice es=>es.all λe=>e.all (cleanE n)
 | n+1,.full es=>es.all λe=>e.all (cleanE n)
 | n+1,.ref cs=>cs.all (cleanE n)
 | n+1,.clo _ cs=>cs.all (cleanE n)
 | n+1,.lit (.chan _)=>Nat.ble 3 n
 | _+1,_=>true
def dataC(h:List (Nat×HB)):C->Option C
 | .own r ver z off len=>
  match hget h r with
  | ⟨v,some b⟩=>
   let es:=(b.es.drop off).take len
   cond (Nat.beq v ver && Nat.ble (off+len) b.es.length && es.all λe=>e.all (cleanE 32)) (some (.slice es)) none
  | ⟨_,none⟩=>none
 | .ptr r ver i off=>
  match hget h r with
  | ⟨v,some b⟩=>match b.es[i]? with
   | some e=>cond (Nat.beq v ver && Nat.ble off e.length && (e.drop off).all (cleanE 32)) (some (.ref (e.drop off))) none
   | none=>none
  | ⟨_,none⟩=>none
 | c=>flatC c
def callE(L:Lv)(dr:Bool)(d:Option Nat)(t:T)(f:Nat)(args:List AV):Option T:=
 match flatAs args with
 | some as=>fAs as λas=>match L.dat f as with
  | some r=>fA r λr=>some (t.put d r)
  | none=>none
 | none=>cond dr none (match L.inl f args t with
  | some (r,t1)=>some (t1.put d r)
  | none=>none)
def whoE:AV->List AV->Option (Nat×List AV)
 | .one (.lit (.func (.func f) ⟨[]⟩ ⟨[]⟩)),args=>some (f,args)
 | .one (.clo f (.lit (.agg ⟨[]⟩)::l)),args=>some (f,l.map .one++args)
 | .one (.clo f caps),args=>some (f,args++caps.map .one)
 | _,_=>none
def lookE(L:Lv)(t:T)(f:Nat):List AV->Option AV
 | .one (.ptr r ver 0 0)::rest=>match t.hat r ver with
  | some b=>guardE (b.live && b.es.all λe=>e.all (cleanE 32)) (match flatAs rest with
   | some as=>L.look f b.es as
   | none=>none)
  | none=>none
 | _=>none
def dataE(h:List (Nat×HB)):AV->Option AV
 | .one .emp=>some (.one .emp)
 | .one (.full es)=>some (.one (.full es))
 | .one c=>(dataC h c).map .one
 | .agg cs=>(cs.mapM (dataC h)).map .agg
 | _=>none
def freshE(L:Lv)(dr:Bool)(d:Option Nat)(t:T)(f:Nat)(args:List AV):Option T:=
 let os:=args.flatMap ownA
 guardE (!dr || os.isEmpty) (match args.mapM (dataE t.h) with
 | some as=>match L.fresh f as with
  | some es=>newE { t with h:=frzH os t.h } ⟨es,L.z f,true⟩ (λd ver=>.one (.own d ver (L.z f) 0 es.length)) d
  | none=>none
 | none=>none)
def rows2(h:List (Nat×HB)):List (List C)->Option (List (List C))
 | []=>some []
 | e::l=>match e.mapM (dataC h) with
  | some e'=>(rows2 h l).map (e'::·)
  | none=>none
section ops
variable (L:Lv) (dr:Bool) (d:Option Nat) (t:T)
def lbE:AV->Option Bool
 | .one (.lit (.bool b))=>some b
 | _=>none
def liE:AV->Option Int
 | .one (.lit (.int _ n))=>some n
 | _=>none
def empE:AV->Option Unit
 | .one .emp=>some ()
 | _=>none
def pu(d:Option Nat)(t:T)(x:Option AV):Option T:=@Option.rec AV (λ_=>Option T) none (λa=>some (t.put d a)) x
def pt(d:Option Nat)(x:Option T):Option T:=@Option.rec T (λ_=>Option T) none (λt=>some (t.put d (.tup []))) x
def oneRow(z len:Nat):Nat->Nat->AV:=λd ver=>.one (.own d ver z 0 len)
def onePtr:Nat->Nat->AV:=λd ver=>.one (.ptr d ver 0 0)
def xMv(x:Opd):Option T:=some (t.put d (t.ev x))
def xPick(c x y:Opd):Option T:=obind (lbE (t.ev c)) λb=>some (t.put d (sel b (t.ev x) (t.ev y)))
def xAlloc(zs:List C):Option T:=newE t ⟨[zs],zs.length,true⟩ onePtr d
def xBox(n:Nat)(x:Opd):Option T:=obind (cellsE (t.ev x)) λcs=>guardE (Nat.beq cs.length n) (newE t ⟨[cs],n,true⟩ onePtr d)
def xBuild(sg:List Seg):Option T:=obind (segsE t sg) λcs=>some (t.put d (.agg cs))
def xRow2(es es' : List (List C))(os:List Nat):Option T:=guardE (!dr || os.isEmpty) (some ((⟨t.v,t.x,frzH os t.h,t.n⟩:T).put d (.one (.full es'))))
def xRow(z:Nat)(l:List (List Seg)):Option T:=obind (rowsE t z l) λes=>obind (rows2 t.h es) λes'=>xRow2 dr d t es es' (ownEs es)
def xRowd(z:Nat)(l:List (List Seg)):Option T:=obind (rowsE t z l) λes=>newE t ⟨es,z,true⟩ (oneRow z es.length) d
def xRowo(z:Nat)(l:List (List Seg)):Option T:=guardE (!dr) (xRowd d t z l)
def xLd(b:Option Nat)(n:Nat)(g:Bool)(a:Opd):Option T:=guardE (baseE b (t.ev a)) (pu d t (loadE n g t (t.ev a)))
def xSt(b:Option Nat)(n:Nat)(a x:Opd):Option T:=guardE (baseE b (t.ev a)) (pt d (stE n t (t.ev x) (t.ev a)))
def xNilck(x:Opd):Option T:=pu d t (nilckE (t.ev x))
def xBin(op:BinOp)(x y:Opd):Option T:=pu d t (binE op (t.ev x) (t.ev y))
def xBinb(op:BinOp)(x y:Opd):Option T:=pu d t (binbE op (t.ev x) (t.ev y))
def xBinn(op:BinOp)(x y:Opd):Option T:=pu d t (binnE op (isConst y) (t.ev x) (t.ev y))
def xUn(op:UnOp)(x:Opd):Option T:=pu d t (unE op (t.ev x))
def xConv(k:IntKind)(x:Opd):Option T:=pu d t (convE k (t.ev x))
def xIface(ty:TypeId)(x:Opd):Option T:=pu d t (ifaceE ty (t.ev x))
def xClo(f:FuncId)(l:List Opd):Option T:=obind (capE t l) λcs=>some (t.put d (.one (.clo f cs)))
def xMk2(z:Nat)(zs:List C)(l c:Int):Option T:=guardE (ile 0 l && ile l c && ile c roomA && Nat.beq zs.length z) (newE t ⟨List.replicate l.toNat zs,z,true⟩ (oneRow z l.toNat) d)
def xMk(z:Nat)(zs:List C)(l c:Opd):Option T:=obind (liE (t.ev l)) λl=>obind (liE (t.ev c)) λc=>xMk2 d t z zs l c
def xSl(z:Nat)(x:Opd)(lo hi:Option Opd):Option T:=pu d t (sliceE z t lo hi (t.ev x))
def xSl0(x:Opd):Option T:=obind (elemsE t (t.ev x)) λ_=>some (t.put d (.one .emp))
def xFa(off:Nat)(x:Opd):Option T:=pu d t (faE off (t.ev x))
def xFld(n:Nat)(g:Bool)(off:Nat)(x:Opd):Option T:=pu d t (fldE n g off (t.ev x))
def xIdx(z:Nat)(x i:Opd):Option T:=pu d t (idxE z (t.ev i) (t.ev x))
def xExt(i:Nat)(x:Opd):Option T:=pu d t (extE i (t.ev x))
def xTass(ty:TypeId)(zero:AV)(x:Opd):Option T:=pu d t (tassE ty zero (t.ev x))
def xLen(x:Opd):Option T:=pu d t (lenE (t.ev x))
def xApp(z:Nat)(x y:Opd):Option T:=appE z d t (t.ev x) (t.ev y)
def xApp0(z:Nat)(x y:Opd):Option T:=obind (empE (t.ev x)) λ_=>appE z d t (.one .emp) (t.ev y)
def xAppb(b z:Nat)(x y:Opd):Option T:=guardE (appIsE b d (t.ev x) (t.ev y)) (appE z d t (t.ev x) (t.ev y))
def xCopy(z:Nat)(x y:Opd):Option T:=guardE (!dr) (pt d (clrE z t (t.ev x) (t.ev y)))
def xCpy(z:Nat)(x y:Opd):Option T:=guardE (!dr) (obind (elemsE t (t.ev y)) λys=>guardE (allLen z ys) (obind (cpyE z t ys (t.ev x)) λt=>some (t.put d (.one (.lit (.int .i64 (ys.length:Nat)))))))
def xMax(l:List Opd):Option T:=pu d t (mmE mx t l)
def xMin(l:List Opd):Option T:=pu d t (mmE mn t l)
def xCall(f:FuncId)(l:List Opd):Option T:=callE L dr d t f (l.map t.ev)
def xCallv(f:Opd)(l:List Opd):Option T:=obind (whoE (t.ev f) (l.map t.ev)) λp=>guardE (!spF p.1) (callE L dr d t p.1 p.2)
def xCallf(f:FuncId)(l:List Opd):Option T:=freshE L dr d t f (l.map t.ev)
def xSnil(neg:Bool)(x:Opd):Option T:=pu d t (snilE neg (t.ev x))
def xCap(x:Opd):Option T:=obind (empE (t.ev x)) λ_=>some (t.put d (.one (.lit (.int .i64 0))))
def xAppz(z:Nat)(zs:List C)(x n:Opd):Option T:=obind (empE (t.ev x)) λ_=>obind (liE (t.ev n)) λl=>guardE (ile 0 l && ile l roomA && Nat.beq zs.length z) (newE t ⟨List.replicate l.toNat zs,z,true⟩ (oneRow z l.toNat) d)
def xSop(k:Nat)(l:List Opd):Option T:=pu d t (sopE k (l.map t.ev))
def xAi(z n:Nat)(x i:Opd):Option T:=obind (atE n (t.ev i)) λj=>pu d t (faE (j*z) (t.ev x))
def xAix(z:Nat)(g:Bool)(n:Nat)(x i:Opd):Option T:=obind (atE n (t.ev i)) λj=>pu d t (fldE z g (j*z) (t.ev x))
def xRsl(z n:Nat)(x:Opd):Option T:=pu d t (rslE z n (t.ev x))
def xCallr(f:FuncId)(l:List Opd):Option T:=pu d t (lookE L t f (l.map t.ev))
def xRsb(z n:Nat)(x:Opd)(lo hi:Option Opd):Option T:=obind (rslE z n (t.ev x)) λr=>pu d t (sliceE z t lo hi r)
def xBad:Option T:=none
def xRowf(_:Nat)(_:Opd):Option T:=none
def xCalli(f:FuncId)(l:List Opd):Option T:=obind (L.inl f (l.map t.ev) t) λp=>some (p.2.put d p.1)
end ops
abbrev OpR:=Lv->Bool->Option Nat->T->Option T
def opE(op:AOp):OpR:=@AOp.rec (λ_=>OpR)
 (λx _ _ d t=>xMv d t x) (λc x y _ _ d t=>xPick d t c x y) (λzs _ _ d t=>xAlloc d t zs) (λn x _ _ d t=>xBox d t n x) (λsg _ _ d t=>xBuild d t sg)
 (λz l _ dr d t=>xRow dr d t z l) (λz l _ dr d t=>xRowo dr d t z l) (λb n g a _ _ d t=>xLd d t b n g a) (λb n a x _ _ d t=>xSt d t b n a x)
 (λx _ _ d t=>xNilck d t x) (λop x y _ _ d t=>xBin d t op x y) (λop x y _ _ d t=>xBinb d t op x y) (λop x y _ _ d t=>xBinn d t op x y)
 (λop x _ _ d t=>xUn d t op x) (λk x _ _ d t=>xConv d t k x) (λty x _ _ d t=>xIface d t ty x) (λf l _ _ d t=>xClo d t f l)
 (λz zs l c _ _ d t=>xMk d t z zs l c) (λz x lo hi _ _ d t=>xSl d t z x lo hi) (λx _ _ d t=>xSl0 d t x) (λoff x _ _ d t=>xFa d t off x)
 (λn g off x _ _ d t=>xFld d t n g off x) (λz x i _ _ d t=>xIdx d t z x i) (λi x _ _ d t=>xExt d t i x) (λty zero x _ _ d t=>xTass d t ty zero x)
 (λx _ _ d t=>xLen d t x) (λz x y _ _ d t=>xApp d t z x y) (λz x y _ _ d t=>xApp0 d t z x y) (λb z x y _ _ d t=>xAppb d t b z x y)
 (λz x y _ dr d t=>xCopy dr d t z x y) (λz x y _ dr d t=>xCpy dr d t z x y) (λl _ _ d t=>xMax d t l) (λl _ _ d t=>xMin d t l)
 (λf l L dr d t=>xCall L dr d t f l) (λf l L dr d t=>xCallv L dr d t f l) (λf l L dr d t=>xCallf L dr d t f l) (λneg x _ _ d t=>xSnil d t neg x)
 (λx _ _ d t=>xCap d t x) (λz zs x n _ _ d t=>xAppz d t z zs x n) (λk l _ _ d t=>xSop d t k l) (λz n x i _ _ d t=>xAi d t z n x i)
 (λz g n x i _ _ d t=>xAix d t z g n x i) (λz n x _ _ d t=>xRsl d t z n x) (λf l L _ d t=>xCallr L d t f l) (λz n x lo hi _ _ d t=>xRsb d t z n x lo hi)
 (λ_ _ _ _=>xBad) (λz x _ _ _ _=>xRowf z x) (λf l L _ d t=>xCalli L d t f l) (λz l _ _ d t=>xRowd d t z l) op
def wantE(want:Bool):AV->Option Bool
 | .one (.lit (.bool b))=>some (b == want)
 | .tup []=>some false
 | _=>none
def aoE(o:AO)(L:Lv)(dr:Bool)(t:T):Option T:=@AO.rec (λ_=>Option T)
 (λd g op=>@Option.rec (Nat×Bool) (λ_=>Option T) (opE op L dr d t) (λgw=>obind (wantE gw.2 (t.get gw.1)) λb=>sel b (opE op L dr d t) (some (t.put d (.tup [])))) g) o
def aosE(L:Lv)(dr:Bool)(l:List AO):T->Option T:=@List.rec AO (λ_=>T->Option T) some (λo _ g t=>obind (aoE o L dr t) g) l
mutual
def rnC(π:Nat->Nat):C->C
 | .own r ver z off len=>.own (π r) ver z off len
 | .ptr r ver i off=>.ptr (π r) ver i off
 | .clo f caps=>.clo f (rnCs π caps)
 | c=>c
def rnCs(π:Nat->Nat):List C->List C
 | []=>[]
 | c::l=>rnC π c::rnCs π l
end
mutual
def rnV(π:Nat->Nat):AV->AV
 | .one c=>.one (rnC π c)
 | .agg cs=>.agg (rnCs π cs)
 | .tup l=>.tup (rnVs π l)
 | .any=>.any
def rnVs(π:Nat->Nat):List AV->List AV
 | []=>[]
 | x::l=>rnV π x::rnVs π l
end
def rnT(π:Nat->Nat):Tr->Tr
 | .e=>.e
 | .l a=>.l (rnV π a)
 | .n x y=>.n (rnT π x) (rnT π y)
def rnK(π:Nat->Nat):List (Nat×HB)->List (Nat×HB)
 | []=>[]
 | (k,⟨v,b⟩)::r=>(π k,⟨v,b.map λb=>⟨b.es.map (rnCs π),b.z,b.live⟩⟩)::rnK π r
def swaps(h:List (Nat×HB)):List Nat->Nat->List (Nat×Nat)
 | [],_=>[]
 | d::l,n=>match (hget h d).blk with
  | some _=>sel (Nat.blt d pinA && Nat.blt n pinA) ((d,n)::swaps h l (n+1)) []
  | none=>swaps h l n
def swN(a b r:Nat):Nat:=sel (Nat.beq r a) b (sel (Nat.beq r b) a r)
def swp:List (Nat×Nat)->Nat->Nat
 | [],r=>r
 | p::l,r=>swp l (swN p.1 p.2 r)
def swq:List (Nat×Nat)->Nat->Nat
 | [],r=>r
 | p::l,r=>swN p.1 p.2 (swq l r)
def mades:List AO->List Nat
 | []=>[]
 | o::r=>match o.d,o.o with
  | some d,.alloc .. | some d,.box .. | some d,.rowo .. | some d,.rowd .. | some d,.mk .. | some d,.callf .. | some d,.appz .. | some d,.app .. | some d,.appb .. | some d,.app0 ..=>d::mades r
  | _,_=>mades r
def fPs{α:Type}:List (Nat×Nat)->(List (Nat×Nat)->α)->α
 | [],k=>k []
 | (a,b)::l,k=>fNat (λa=>fNat (λb=>fPs l λl=>k ((a,b)::l)) b) a
def T.move(t:T)(l:List (Nat×Nat)):T:=
 match l with
 | []=>t
 | l=>fPs l λl=>⟨rnT (swp l) t.v,t.x.map (rnT (swp l)),rnK (swp l) t.h,t.n+l.length⟩
def prep(t:T)(l:List AO):T:=t.move (swaps t.h (mades l) t.n)
abbrev CoR:=(AC->T->Option (Ex×T))->Lv->T->Option (Ex×T)
def cSkip:CoR:=λ_ _ t=>some (.nrm,t)
def cOps(dr:Bool)(l:List AO):CoR:=λ_ L t=>omap (λt=>(.nrm,t)) (aosE L dr l (prep t l))
def seqK(f:T->Option (Ex×T))(p:Ex×T):Option (Ex×T):=@Ex.rec (λ_=>Option (Ex×T)) (f p.2) (λi=>some (.exit i,p.2)) (some (.ret,p.2)) p.1
def cSeq(a b:AC):CoR:=λgo _ t=>obind (go a t) (seqK (go b))
def cCond(c:Opd)(a b:AC):CoR:=λgo _ t=>obind (lbE (t.ev c)) λw=>sel w (go a t) (go b t)
def blkK(id:Nat)(p:Ex×T):Option (Ex×T):=@Ex.rec (λ_=>Option (Ex×T)) (some (.nrm,p.2)) (λi=>sel (Nat.beq i id) (some (.nrm,p.2)) (some (.exit i,p.2))) (some (.ret,p.2)) p.1
def cBlock(id:Nat)(a:AC):CoR:=λgo _ t=>obind (go a t) (blkK id)
def cLoop(a:AC):CoR:=λgo _ t=>obind (go a t) (seqK (go (.loop a)))
def cExit(id:Nat):CoR:=λ_ _ t=>some (.exit id,t)
def cRet:CoR:=λ_ _ t=>some (.ret,t)
def cNo:CoR:=λ_ _ _=>none
def codeS(ac:AC):CoR:=@AC.rec (λ_=>CoR) cSkip cOps (λa b _ _=>cSeq a b) (λc a b _ _=>cCond c a b) (λid a _=>cBlock id a) (λa _=>cLoop a) cExit cRet
 (λ_ _ _=>cNo) (λ_ _ _=>cNo) ac
def codeE(L:Lv)(n:Nat):AC->T->Option (Ex×T):=@Nat.rec (λ_=>AC->T->Option (Ex×T)) (λ_ _=>none) (λ_ go ac t=>codeS ac go L t) n
def argT(l:List AV):Nat->Tr->Tr:=@List.rec AV (λ_=>Nat->Tr->Tr) (λ_ v=>v) (λa _ g k v=>g (k+1) (v.set dep k a)) l
def rawE(t:T)(l:List RV):Option (List AV):=@List.rec RV (λ_=>Option (List AV)) (some [])
 (λr _ g=>@RV.rec (λ_=>Option (List AV)) (λk=>omap (t.get k::·) g) (λk n b=>obind (loadE n b t (t.get k)) λx=>omap (x::·) g) r) l
def eqNs:List UInt8->List UInt8->Bool
 | [],[]=>true
 | a::l,b::m=>Nat.beq a.toNat b.toNat && eqNs l m
 | _,_=>false
def eqV:Value->Value->Bool
 | .int k a,.int l b=>sameK k l && ieq a b
 | .bool a,.bool b=>a == b
 | .string a,.string b=>eqNs a.data.toList b.data.toList
 | .nilIface,.nilIface=>true
 | .nilFunc,.nilFunc=>true
 | .agg ⟨[]⟩,.agg ⟨[]⟩=>true
 | .func (.func f) ⟨[]⟩ ⟨[]⟩,.func (.func g) ⟨[]⟩ ⟨[]⟩=>Nat.beq f g
 | .iface t (.int k a),.iface u (.int l b)=>Nat.beq t u && (sameK k l && ieq a b)
 | .chan (some a),.chan (some b)=>Nat.beq a b
 | _,_=>false
mutual
def eqC:C->C->Bool
 | .lit v,.lit w=>eqV v w
 | .slice es,.slice fs=>eqR es fs
 | .full es,.full fs=>eqR es fs
 | .emp,.emp=>true
 | .ref cs,.ref ds=>eqL cs ds
 | .clo f cs,.clo g ds=>Nat.beq f g && eqL cs ds
 | .own r v z o l,.own r' v' z' o' l'=>Nat.beq r r' && Nat.beq v v' && Nat.beq z z' && Nat.beq o o' && Nat.beq l l'
 | .ptr r v i o,.ptr r' v' i' o'=>Nat.beq r r' && Nat.beq v v' && Nat.beq i i' && Nat.beq o o'
 | _,_=>false
def eqL:List C->List C->Bool
 | [],[]=>true
 | c::l,d::m=>eqC c d && eqL l m
 | _,_=>false
def eqR:List (List C)->List (List C)->Bool
 | [],[]=>true
 | c::l,d::m=>eqL c d && eqR l m
 | _,_=>false
end
def eqA:AV->AV->Bool
 | .one c,.one d=>eqC c d
 | .agg l,.agg m=>eqL l m
 | _,_=>false
def eqAs:List AV->List AV->Bool
 | [],[]=>true
 | a::l,b::m=>eqA a b && eqAs l m
 | _,_=>false
def eqB:Option Blk->Option Blk->Bool
 | none,none=>true
 | some ⟨es,z,l⟩,some ⟨es',z',l'⟩=>eqR es es' && Nat.beq z z' && (l == l')
 | _,_=>false
def eqH:List (Nat×HB)->List (Nat×HB)->Bool
 | [],[]=>true
 | (k,⟨v,b⟩)::l,(k',⟨v',b'⟩)::m=>Nat.beq k k' && Nat.beq v v' && eqB b b' && eqH l m
 | _,_=>false
def endE:Ex->Bool
 | .exit _=>false
 | _=>true
def fuelC:Nat:=100000
section
variable (tab:Nat->Option (Nat×AC×List RV))
def datFE(L:Lv)(f:Nat)(args:List AV):Option AV:=
 match tab f with
 | some (n,ac,rv)=>guardE (Nat.ble n top && Nat.ble args.length n) (match codeE L fuelC ac ⟨argT args 0 .e,[],[],2048⟩ with
  | some (e,t)=>guardE (endE e) (match rawE t rv with
   | some l=>(deepAs t.h l).map resOf
   | none=>none)
  | none=>none)
 | none=>none
def freshF(L:Lv)(f:Nat)(args:List AV):Option (List (List C)):=
 match tab f with
 | some (n,ac,rv)=>guardE (Nat.ble n top && Nat.ble args.length n) (match codeE L fuelC ac ⟨argT args 0 .e,[],[],2048⟩ with
  | some (e,t)=>guardE (endE e) (match rawE t rv with
   | some [.one .emp]=>some []
   | some [.one (.own r ver z 0 len)]=>match t.hat r ver with
    | some b=>guardE (b.live && Nat.beq (L.z f) z && Nat.beq z b.z && Nat.ble len b.es.length && (b.es.take len).all λe=>e.all (cleanE 32)) (some (b.es.take len))
    | none=>none
   | _=>none)
  | none=>none)
 | none=>none
def lookF(L:Lv)(f:Nat)(es:List (List C))(args:List AV):Option AV:=
 match tab f with
 | some (n,ac,rv)=>guardE (Nat.ble n top && Nat.ble (args.length+1) n) (match codeE L fuelC ac ⟨argT (.one (.ptr pinA 0 0 0)::args) 0 .e,[],[(pinA,⟨0,some ⟨es,(es.headD []).length,true⟩⟩)],2048⟩ with
  | some (e,t)=>guardE (endE e) (match rawE t rv,t.hat pinA 0 with
   | some l,some b=>guardE (b.live && Nat.beq b.z (es.headD []).length && eqR b.es es && !es.isEmpty) ((deepAs (hset t.h pinA ⟨0,none⟩) l).map resOf)
   | _,_=>none)
  | none=>none)
 | none=>none
def lows:List (Nat×HB)->List Nat
 | []=>[]
 | (k,⟨_,some _⟩)::r=>cond (Nat.blt k top) (k::lows r) (lows r)
 | _::r=>lows r
def inlE(L:Lv)(f:Nat)(args:List AV)(t:T):Option (AV×T):=
 match tab f with
 | some (n,ac,rv)=>guardE (Nat.ble n top && Nat.ble args.length n) (match codeE L fuelC ac ⟨argT args 0 .e,t.v::t.x,t.h,t.n⟩ with
  | some (e,t1)=>guardE (endE e) (match rawE t1 rv,t1.x with
   | some l,v::x=>
    let sw:=swaps t1.h (lows t1.h) t1.n
    some (rnV (swp sw) (resOf l),({ t1 with v:=v,x:=x }:T).move sw)
   | _,_=>none)
  | none=>none)
 | none=>none
structure Base where
 dat:Nat->List AV->Option AV
 inl:Nat->List AV->T->Option (AV×T)
 fresh:Nat->List AV->Option (List (List C))
 z:Nat->Nat
 rk:Nat->Nat
def lvS(B:Base)(k:Nat)(L:Lv):Lv:=
 ⟨λf args=>sel (Nat.ble (B.rk f) k) (L.dat f args) (@Option.rec AV (λ_=>Option AV) (datFE tab L f args) some (B.dat f args)),
  λf args t=>@Option.rec (AV×T) (λ_=>Option (AV×T)) (inlE tab L f args t) some (B.inl f args t),
  lookF tab L,λf args=>@Option.rec (List (List C)) (λ_=>Option (List (List C))) (freshF tab L f args) some (B.fresh f args),B.z⟩
def lvE(B:Base)(n:Nat):Lv:=@Nat.rec (λ_=>Lv) ⟨B.dat,λ_ _ _=>none,λ_ _ _=>none,B.fresh,B.z⟩ (λk L=>lvS tab B k L) n
end
end
end Go.Abs
end
section
namespace Go.Abs
theorem nos{α:Type}{y:α}{G:Prop}(h:(none:Option α)=some y):G:=by cases h
theorem qbl{α:Type}(x y:α):sel true x y=x:=rfl
theorem Qbm{α:Type}(x y:α):sel false x y=y:=rfl
theorem jj{α:Type}(b:Bool)(x y:α):sel b x y=if b=true then x else y:=by cases b <;> rfl
theorem Za{α:Type}{b:Bool}{x:Option α}{y:α}(h:guardE b x=some y):b=true/\x=some y:=by
 cases b
 .exact nos h
 .exact⟨rfl,h⟩
theorem qa{α β:Type}{x:Option α}{f:α->Option β}{y:β}(h:obind x f=some y):∃a,x=some a/\f a=some y:=by
 cases x with
 | none=>exact nos h
 | some a=>exact⟨a,rfl,h⟩
theorem yb{α β:Type}{x:Option α}{f:α->β}{y:β}(h:omap f x=some y):∃a,x=some a/\f a=y:=by
 cases x with
 | none=>exact nos h
 | some a=>exact⟨a,rfl,Option.some.inj h⟩
theorem beq_eq{a b:Nat}(h:Nat.beq a b=true):a=b:=Nat.eq_of_beq_eq_true h
theorem ua{a b:Nat}(h:Nat.ble a b=true):a<=b:=Nat.le_of_ble_eq_true h
theorem zM{a b:Int}:ile a b=true↔a<=b:=by
 cases a <;> cases b <;> simp only [ile,Nat.ble_eq,Int.ofNat_eq_natCast,Int.negSucc_eq,true_iff,false_iff,Bool.false_eq_true] <;> omega
theorem Ug{a b:Int}(h:ile a b=true):a<=b:=zM.1 h
theorem Uag{a b:Int}(h:ilt a b=true):a<b:=by
 unfold ilt at h;have:¬ile b a=true:=by simpa using h
 rw [zM]at this;omega
theorem QY(a b:Int):ile a b=decide (a<=b):=by
 rw [Bool.eq_iff_iff,zM];simp
theorem JaB(a b:Int):ilt a b=decide (a<b):=by
 unfold ilt;rw [QY];by_cases h:a<b
 .have:¬b<=a:=by omega
  simp [h,this]
 .have:b<=a:=by omega
  simp [h,this]
theorem yB(a b:Int):ieq a b=decide (a=b):=by
 cases a <;> cases b <;> simp only [ieq] <;> first | (rw [Bool.eq_iff_iff,Nat.beq_eq];simp;done) | (rw [Bool.eq_iff_iff,Nat.beq_eq];simp only [Int.ofNat_eq_natCast,decide_eq_true_eq];omega) | simp
theorem YaZ{n:Int}(h:i64 n=true):-9223372036854775808<=n/\n<=9223372036854775807:=by
 cases n <;> (have:=ua h;simp only [Int.ofNat_eq_natCast,Int.negSucc_eq];omega)
theorem yA{a b:IntKind}(h:sameK a b=true):a=b:=by cases a <;> cases b <;> first | rfl | exact Bool.noConfusion h
theorem Tr.get_set:∀(D:Nat) (v:Tr) (d k:Nat) (a:AV),d<2 ^ D->k<2 ^ D->(v.set D d a).get k=if k=d then a else v.get k:=by
 intro D
 induction D with
 | zero=>
  intro v d k a hd hk;have h1:d=0:=by simp at hd;exact hd
  have h2:k=0:=by simp at hk;exact hk
  rw [if_pos (by omega)]
  rfl
 | succ D ih=>
  intro v d k a hd hk;have hd2:d / 2<2 ^ D:=by rw [Nat.pow_succ]at hd;omega
  have hk2:k / 2<2 ^ D:=by rw [Nat.pow_succ]at hk;omega
  have hget:∀(x y:Tr),(Tr.n x y).get k=if k % 2=0 then x.get (k / 2) else y.get (k / 2):=by
   intro x y;show sel (Nat.beq (k % 2) 0) (x.get (k / 2)) (y.get (k / 2))=_;rw [jj];by_cases h:k % 2=0
   .rw [if_pos (by rw [h];rfl),if_pos h]
   .rw [if_neg (λe=>h (beq_eq e)),if_neg h]
  have hset:v.set (D+1) d a=if d % 2=0 then .n (v.lef.set D (d / 2) a) v.rig else .n v.lef (v.rig.set D (d / 2) a):=by
   show sel (Nat.beq (d % 2) 0) (Tr.n (v.lef.set D (d / 2) a) v.rig) (Tr.n v.lef (v.rig.set D (d / 2) a))=_;rw [jj];by_cases h:d % 2=0
   .rw [if_pos (by rw [h];rfl),if_pos h]
   .rw [if_neg (λe=>h (beq_eq e)),if_neg h]
  have hv:v.get k=if k % 2=0 then v.lef.get (k / 2) else v.rig.get (k / 2):=by
   cases v with
   | e=>split <;> rfl
   | l b=>split <;> rfl
   | n x y=>exact hget x y
  rw [hset];by_cases h:d % 2=0
  .rw [if_pos h,hget];by_cases h' : k % 2=0
   .rw [if_pos h',ih _ _ _ _ hd2 hk2,hv,if_pos h'];by_cases e:k=d
    .rw [if_pos e,if_pos (by rw [e])]
    .rw [if_neg e,if_neg (by omega)]
   .rw [if_neg h',hv,if_neg h',if_neg (by intro e;rw [e]at h';exact h' h)]
  .rw [if_neg h,hget];by_cases h' : k % 2=0
   .rw [if_pos h',hv,if_pos h',if_neg (by intro e;rw [e]at h';exact h h')]
   .rw [if_neg h',ih _ _ _ _ hd2 hk2,hv,if_neg h'];by_cases e:k=d
    .rw [if_pos e,if_pos (by rw [e])]
    .rw [if_neg e,if_neg (by omega)]
theorem ku(r:Nat):hget [] r=⟨0,none⟩:=rfl
theorem Xd(p:Nat×HB)(h:List (Nat×HB))(r:Nat):hget (p::h) r=if r=p.1 then p.2 else hget h r:=by
 show sel (Nat.beq r p.1) p.2 (hget h r)=_;rw [jj];by_cases e:r=p.1
 .rw [if_pos e,if_pos (by rw [e];exact Nat.beq_refl _)]
 .rw [if_neg e,if_neg (λx=>e (beq_eq x))]
theorem UL(t:Nat)(c:HB):∀(h:List (Nat×HB)) (r:Nat),hget (hset h t c) r=if r=t then c else hget h r
 | [],r=>by
  show hget [(t,c)] r=_;rw [Xd]
 | p::h,r=>by
  have e:hset (p::h) t c=if t=p.1 then (t,c)::h else p::hset h t c:=by
   show sel (Nat.beq t p.1) ((t,c)::h) (p::hset h t c)=_;rw [jj];by_cases e:t=p.1
   .rw [if_pos e,if_pos (by rw [e];exact Nat.beq_refl _)]
   .rw [if_neg e,if_neg (λx=>e (beq_eq x))]
  rw [e];by_cases e:t=p.1
  .rw [if_pos e,Xd,Xd];simp only;by_cases e2:r=t
   .rw [if_pos e2,if_pos e2]
   .rw [if_neg e2,if_neg e2,if_neg (by rw [<-e];exact e2)]
  .rw [if_neg e,Xd,Xd,UL t c h r];by_cases e2:r=p.1
   .rw [if_pos e2,if_neg (by rw [e2];exact λx=>e x.symm),if_pos e2]
   .rw [if_neg e2,if_neg e2]
theorem uN(h:List (Nat×HB))(t:Nat)(c:HB):hget (hset h t c)=upd (hget h) t c:=by
 funext r
 rw [UL];rfl
noncomputable def T.den(t:T):S:=⟨farV (t.v::t.x),hget t.h⟩
theorem zf(v:Tr)(l:List Tr)(k:Nat):farV (v::l) k=if k<256 then v.get k else if pinA<=k then farV l (k-pinA) else .any:=by
 show sel (Nat.ble k 255) (v.get k) (sel (Nat.ble pinA k) (farV l (k-pinA)) .any)=_;rw [jj,jj];by_cases h:k<256
 .rw [if_pos h,if_pos (by rw [Nat.ble_eq];omega)]
 .rw [if_neg h,if_neg (by rw [Nat.ble_eq];omega)]
  by_cases h2:pinA<=k
  .rw [if_pos h2,if_pos (by rw [Nat.ble_eq];exact h2)]
  .rw [if_neg h2,if_neg (by rw [Nat.ble_eq];exact h2)]
theorem T.get_den(t:T)(k:Nat):t.get k=t.den.v k:=by
 show sel (Nat.ble k 255) (t.v.get k) (farV (t.v::t.x) k)=farV (t.v::t.x) k;rw [zf,jj];by_cases h:k<256
 .rw [if_pos h,if_pos (by rw [Nat.ble_eq];omega)]
 .rw [if_neg h,if_neg (by rw [Nat.ble_eq];omega)]
theorem T.ev_den(t:T)(x:Opd):t.ev x=t.den.ev x:=by
 cases x with
 | t n=>exact t.get_den n
 | c a=>rfl
theorem T.evs_den(t:T)(l:List Opd):l.map t.ev=l.map t.den.ev:=List.map_congr_left λx _=>t.ev_den x
def Low(d:Option Nat):Prop:=∀k,d=some k->k<256
theorem T.put_den(t:T){d:Option Nat}(hd:Low d)(x:AV):(t.put d x).den=t.den.put d x:=by
 cases d with
 | none=>rfl
 | some d=>
  have h:=hd d rfl;show S.mk (farV (t.v.set dep d x::t.x)) (hget t.h)=⟨upd (farV (t.v::t.x)) d x,hget t.h⟩;congr 1
  funext k
  rw [zf];unfold upd;rw [zf];by_cases hk:k<256
  .rw [if_pos hk,Tr.get_set dep t.v d k x h hk,if_pos hk]
  .rw [if_neg hk,if_neg (show ¬k=d by omega),if_neg hk]
theorem T.hat_den(t:T)(r ver:Nat):t.hat r ver=(t.den.h r).at ver:=by
 show sel (Nat.beq (hget t.h r).ver ver) (hget t.h r).blk none=_;rw [jj];unfold HB.at;show _=if (hget t.h r).ver=ver then (hget t.h r).blk else none
 by_cases e:(hget t.h r).ver=ver
 .rw [if_pos e,if_pos (by rw [e];exact Nat.beq_refl _)]
 .rw [if_neg e,if_neg (λx=>e (beq_eq x))]
theorem T.setB_den(t:T)(r ver:Nat)(b:Blk):(t.setB r ver b).den=t.den.setH (upd t.den.h r ⟨ver,some b⟩):=by
 show S.mk (farV (t.v::t.x)) (hget (hset t.h r ⟨ver,some b⟩))=_;rw [uN];rfl
theorem ZM:∀(l:List Nat) (h:List (Nat×HB)),hget (frzH l h)=frz l (hget h)
 | [],h=>rfl
 | r::l,h=>by
  show hget (frzH l _)=frz l (upd (hget h) r (hget h r).dead);rw [ZM l];congr 1;cases e:hget h r with
  | mk v b=>
   cases b with
   | none=>
    simp only
    funext k
    unfold upd;by_cases e2:k=r
    .rw [if_pos e2,e2,e];rfl
    .rw [if_neg e2]
   | some b=>
    simp only;rw [uN];rfl
section vals
variable {K:AV->Prop} {r:AV}
theorem Zl{k:IntKind}{n:Int}(h:intE k n=some r)(hk:K r):intR K k n:=by cases h;exact hk
theorem We{b:Bool}(h:boolE b=some r)(hk:K r):boolR K b:=by cases h;exact hk
theorem Ws{k:IntKind}{n:Int}(h:numE k n=some r)(hk:K r):numR K k n:=by
 unfold numE at h;split at h
 .obtain⟨h1,h2⟩:=Za h;exact⟨YaZ h1,Zl h2 hk⟩
 .exact Zl h hk
 .exact Zl h hk
 .exact Zl h hk
 .exact nos h
theorem kau{op:BinOp}{k:IntKind}{a b:Int}(h:arithE op k a b=some r)(hk:K r):arith K op k a b:=by
 unfold arithE at h;split at h
 .exact Ws h hk
 .exact Ws h hk
 .exact Ws h hk
 .obtain⟨h1,h2⟩:=Za h;simp only [zBA]at h1;exact⟨⟨Ug h1.1,Uag h1.2⟩,Ws h2 hk⟩
 .obtain⟨h1,h2⟩:=Za h;simp only [zBA]at h1;exact⟨⟨Ug h1.1,Uag h1.2⟩,Zl h2 hk⟩
 .rw [yB]at h;exact We h hk
 .rw [yB]at h;exact We h hk
 .rw [JaB]at h;exact We h hk
 .rw [QY]at h;exact We h hk
 .rw [JaB]at h;exact We h hk
 .rw [QY]at h;exact We h hk
 .exact nos h
theorem Wa5{op:BinOp}{x y:AV}(h:binE op x y=some r)(hk:K r):binA K op x y:=by
 unfold binE at h;split at h
 .split at h
  .obtain⟨h1,h2⟩:=Za h;simp only [zBA]at h1;exact⟨⟨Ug h1.1.1,Ug h1.1.2,Ug h1.2⟩,Ws h2 hk⟩
  .obtain⟨h1,h2⟩:=Za h;simp only [zBA]at h1;exact⟨⟨Ug h1.1.1,Ug h1.1.2,Ug h1.2⟩,Zl h2 hk⟩
  .rename_i n1 n2;obtain⟨h1,h2⟩:=Za h;simp only [binA];unfold binI;split
   .exact(n1 rfl).elim
   .exact(n2 rfl).elim
   .exact⟨yA h1,kau h2 hk⟩
 .exact nos h
theorem qaM{op:BinOp}{x y:AV}(h:binbE op x y=some r)(hk:K r):binbA K op x y:=by
 unfold binbE at h;split at h
 .exact We h hk
 .exact We h hk
 .exact nos h
theorem WaC{v:Value}{neg:Bool}(h:nilE v neg=some r)(hk:K r):nilR (λb=>boolR K (b != neg)) (isNilV v):=by
 unfold nilE at h;split at h
 .cases neg <;> exact We h hk
 .cases neg <;> exact We h hk
 .exact nos h
theorem kaH{op:BinOp}{c:Bool}{x y:AV}(h:binnE op c x y=some r)(hk:K r):binnA K op c x y:=by
 unfold binnE at h;split at h
 .rename_i a;have:=WaC h hk;simp only [binnA];cases e:isNilV a with
  | none=>rw [e]at this;exact this
  | some b=>rw [e]at this;cases b <;> exact this
 .rename_i a;have:=WaC h hk;simp only [binnA];cases e:isNilV a with
  | none=>rw [e]at this;exact this
  | some b=>rw [e]at this;cases b <;> exact this
 .exact nos h
theorem jba{op:UnOp}{x:AV}(h:unE op x=some r)(hk:K r):unA K op x:=by
 unfold unE at h;split at h
 .exact We h hk
 .exact Ws h hk
 .exact nos h
theorem uaH{k:IntKind}{x:AV}(h:convE k x=some r)(hk:K r):convA K k x:=by
 unfold convE at h;split at h
 .exact Ws h hk
 .exact nos h
theorem ZaE{t:TypeId}{x:AV}(h:ifaceE t x=some r)(hk:K r):ifaceA K t x:=by
 unfold ifaceE at h;split at h
 .cases h;exact hk
 .exact nos h
theorem jao{n:Nat}{g:Bool}{cs:List C}(h:ldE n g cs=some r)(hk:K r):ldK K n g cs:=by
 unfold ldE at h;split at h
 .obtain⟨h1,h2⟩:=Za h;cases h2
  exact⟨ua h1,hk⟩
 .cases h;exact hk
 .exact nos h
theorem Vk{t:T}{r ver:Nat}{b:Blk}(h:t.hat r ver=some b):(t.den.h r).at ver=some b:=by rw [<-T.hat_den];exact h
theorem Jab{n:Nat}{g:Bool}{t:T}{x:AV}(h:loadE n g t x=some r)(hk:K r):ldA K n g t.den.h x:=by
 unfold loadE at h;split at h
 .exact jao h hk
 .split at h
  .rename_i b hb;split at h
   .rename_i e he;exact⟨b,Vk hb,(List.getElem?_eq_some_iff.1 he).1,λe' he'=>by rw [he]at he';cases he';exact jao h hk⟩
   .exact nos h
  .exact nos h
 .exact nos h
theorem Zad{b:Option Nat}{x:AV}(h:baseE b x=true):baseIs b x:=by
 unfold baseE at h;split at h
 .exact trivial
 .exact beq_eq h
 .exact trivial
 .exact Bool.noConfusion h
theorem Jav{x:AV}(h:nilckE x=some r)(hk:K r):nilckA K x:=by
 unfold nilckE at h;split at h
 .cases h;exact hk
 .cases h;exact hk
 .exact nos h
theorem ZaS{off:Nat}{x:AV}(h:faE off x=some r)(hk:K r):faA K off x:=by
 unfold faE at h;split at h
 .cases h;exact hk
 .obtain⟨h1,h2⟩:=Za h;cases h2
  exact⟨ua h1,hk⟩
 .exact nos h
theorem jaq{n:Nat}{g:Bool}{off:Nat}{x:AV}(h:fldE n g off x=some r)(hk:K r):fldA K n g off x:=by
 unfold fldE at h;split at h
 .obtain⟨h1,h2⟩:=Za h;exact⟨ua h1,jao h2 hk⟩
 .exact nos h
theorem ua3{z:Nat}{i x:AV}(h:idxE z i x=some r)(hk:K r):idxA K z i x:=by
 unfold idxE at h;split at h
 .split at h
  .rename_i e he;obtain⟨h1,h2⟩:=Za h;simp only [zBA]at h1;cases h2
   exact⟨Ug h1.1,(List.getElem?_eq_some_iff.1 he).1,λe' he'=>by rw [he]at he';cases he';exact⟨beq_eq h1.2,hk⟩⟩
  .exact nos h
 .split at h
  .rename_i e he;obtain⟨h1,h2⟩:=Za h;simp only [zBA]at h1;cases h2
   exact⟨Ug h1.1,(List.getElem?_eq_some_iff.1 he).1,λe' he'=>by rw [he]at he';cases he';exact⟨beq_eq h1.2,hk⟩⟩
  .exact nos h
 .obtain⟨h1,h2⟩:=Za h;simp only [zBA]at h1;cases h2
  exact⟨⟨Ug h1.1.1,Uag h1.1.2,beq_eq h1.2⟩,hk⟩
 .exact nos h
theorem JY{n:Nat}{x:Option AV}{dr:Bool}{Kp:Prop}(h:bndE n x=some r)(hk:x=some r->Kp):bndK dr n Kp:=by
 obtain⟨h1,h2⟩:=Za h;exact⟨λ_=>ua h1,λ_=>hk h2⟩
theorem Xa2{dr:Bool}{x:AV}(h:lenE x=some r)(hk:K r):lenA K dr x:=by
 unfold lenE at h;split at h
 .exact JY h λh=>Zl h hk
 .exact JY h λh=>Zl h hk
 .exact Zl h hk
 .exact JY h λh=>Zl h hk
 .exact nos h
theorem WaJ{neg:Bool}{x:AV}(h:snilE neg x=some r)(hk:K r):snilA K neg x:=by
 unfold snilE at h;split at h
 .exact⟨λe=>by simp at e,We h hk⟩
 .exact⟨λe=>by simp at e,We h hk⟩
 .exact⟨λe=>by simp at e,We h hk⟩
 .exact nos h
theorem yU{t:T}{dflt n:Nat}{x:Option Opd}{Kn:Nat->Prop}(h:bE t dflt x=some n)(hk:Kn n):bnd Kn t.den.ev dflt x:=by
 unfold bE at h;split at h
 .cases h;exact hk
 .split at h
  .rename_i e;obtain⟨h1,h2⟩:=Za h;cases h2
   rw [T.ev_den]at e;simp only [bnd,e];exact⟨Ug h1,hk⟩
  .exact nos h
theorem xl{z:Nat}:∀{es:List (List C)},allLen z es=true->∀e∈es,e.length=z
 | [],_,e,he=>by simp at he
 | x::l,h,e,he=>by
  simp only [allLen,zBA]at h;rcases List.mem_cons.1 he with rfl | he
  .exact beq_eq h.1
  .exact xl h.2 e he
theorem US{z:Nat}{t:T}{lo hi:Option Opd}{x:AV}(h:sliceE z t lo hi x=some r)(hk:K r):slA K z t.den.ev lo hi x:=by
 unfold sliceE at h;unfold slA;split at h
 .split at h
  .rename_i e1 e2;obtain⟨h1,h2⟩:=Za h;simp only [zBA]at h1;cases h2
   refine yU e1 ?_;refine yU e2 ?_;exact⟨⟨ua h1.1.1,ua h1.1.2,xl h1.2⟩,hk⟩
  .exact nos h
 .split at h
  .rename_i e1 e2;obtain⟨h1,h2⟩:=Za h;simp only [zBA]at h1;cases h2
   refine yU e1 ?_;refine yU e2 ?_;exact⟨⟨ua h1.1.1,ua h1.1.2,xl h1.2⟩,hk⟩
  .exact nos h
 .split at h
  .rename_i e1 e2;obtain⟨h1,h2⟩:=Za h;simp only [zBA]at h1;cases h2
   refine yU e1 ?_;refine yU e2 ?_;exact⟨⟨ua h1.1.1,ua h1.1.2,beq_eq h1.2⟩,hk⟩
  .exact nos h
 .split at h
  .rename_i e1 e2;obtain⟨h1,h2⟩:=Za h;simp only [zBA]at h1;cases h2
   refine yU e1 ?_;refine yU e2 ?_;exact⟨⟨beq_eq h1.1,beq_eq h1.2⟩,hk⟩
  .exact nos h
 .exact nos h
theorem vE{t:T}{x:AV}{es:List (List C)}{Ke:List (List C)->Prop}(h:elemsE t x=some es)(hk:Ke es):elemsA Ke t.den.h x:=by
 unfold elemsE at h;split at h
 .cases h;exact hk
 .cases h;exact hk
 .cases h;exact hk
 .split at h
  .rename_i b hb;obtain⟨h1,h2⟩:=Za h;cases h2
   exact⟨b,Vk hb,ua h1,hk⟩
  .exact nos h
 .exact nos h
theorem kE{x:AV}{cs:List C}{Kc:List C->Prop}(h:cellsE x=some cs)(hk:Kc cs):asCells Kc x:=by
 unfold cellsE at h;split at h
 .cases h;exact hk
 .cases h;exact hk
 .exact nos h
theorem JaY{x:AV}{c:C}{Kc:C->Prop}(h:oneE x=some c)(hk:Kc c):asOne Kc x:=by
 unfold oneE at h;split at h
 .cases h;exact hk
 .exact nos h
theorem xz{t:T}:∀{l:List Seg} {cs:List C} {Kc:List C->Prop},segsE t l=some cs->Kc cs->segA t.den.ev l Kc
 | [],cs,Kc,h,hk=>by cases h;exact hk
 | .z zs::l,cs,Kc,h,hk=>by
  obtain⟨cs',h1,rfl⟩:=yb (show omap (zs++·) (segsE t l)=some cs from h);exact xz (Kc:=λl=>Kc (zs++l)) h1 hk
 | .x n o::l,cs,Kc,h,hk=>by
  obtain⟨xs,h1,h2⟩:=qa (show obind (cellsE (t.ev o)) (λcs=>guardE (Nat.beq cs.length n) (omap (cs++·) (segsE t l)))=some cs from h);obtain⟨h3,h4⟩:=Za h2;obtain⟨cs',h5,rfl⟩:=yb h4;rw [T.ev_den]at h1;exact kE (Kc:=λcs=>cs.length=n/\segA t.den.ev l λl=>Kc (cs++l)) h1 ⟨beq_eq h3,xz h5 hk⟩
theorem Yz{t:T}{z:Nat}:∀{l:List (List Seg)} {es:List (List C)} {Ke:List (List C)->Prop},rowsE t z l=some es->Ke es->rowA t.den.ev z l Ke
 | [],es,Ke,h,hk=>by cases h;exact hk
 | sg::l,es,Ke,h,hk=>by
  obtain⟨cs,h1,h2⟩:=qa (show obind (segsE t sg) (λcs=>guardE (Nat.beq cs.length z) (omap (cs::·) (rowsE t z l)))=some es from h);obtain⟨h3,h4⟩:=Za h2;obtain⟨es',h5,rfl⟩:=yb h4;exact xz h1 ⟨beq_eq h3,Yz h5 hk⟩
theorem QaB{t:T}:∀{l:List Opd} {cs:List C} {Kc:List C->Prop},capE t l=some cs->Kc cs->capA t.den.ev l Kc
 | [],cs,Kc,h,hk=>by cases h;exact hk
 | o::l,cs,Kc,h,hk=>by
  obtain⟨c,h1,h2⟩:=qa (show obind (oneE (t.ev o)) (λc=>omap (c::·) (capE t l))=some cs from h);obtain⟨cs',h5,rfl⟩:=yb h2;rw [T.ev_den]at h1;exact JaY h1 (QaB h5 hk)
theorem qa0{k:Nat}{l:List AV}(h:sopE k l=some r)(hk:K r):sopA K k l:=by
 unfold sopE at h;unfold sopA;cases e:(l.mapM litV).bind (sopV k) with
 | none=>rw [e]at h;exact nos h
 | some v=>rw [e]at h;cases h;exact hk
theorem Ya2{i:Nat}{x:AV}(h:extE i x=some r)(hk:K r):extA K i x:=by
 unfold extE at h;split at h
 .exact⟨(List.getElem?_eq_some_iff.1 h).1,λa ha=>by rw [h]at ha;cases ha;exact hk⟩
 .exact nos h
theorem zaN{ty:TypeId}{zero x:AV}(h:tassE ty zero x=some r)(hk:K r):tassA K ty zero x:=by
 unfold tassE at h;split at h
 .rename_i t' u;by_cases e:t' = ty
  .subst e;have hb:Nat.beq t' t' = true:=Nat.beq_refl _;rw [hb]at h;obtain⟨h1,h2⟩:=Za (show guardE (isCell u) (some (.tup [.one (.lit u),.one (.lit (.bool true))]))=some r from h);cases h2
   exact⟨λ_=>⟨h1,hk⟩,λe=>(e rfl).elim⟩
  .have hb:Nat.beq t' ty=false:=by
    cases hx:Nat.beq t' ty with
    | false=>rfl
    | true=>exact(e (beq_eq hx)).elim
   rw [hb]at h;cases h
   exact⟨λe'=>(e e').elim,λ_=>hk⟩
 .cases h;exact hk
 .exact nos h
theorem zaT{n j:Nat}{x:AV}{Kj:Nat->Prop}(h:atE n x=some j)(hk:Kj j):asInt (λ_ i=>(0<=i/\i<(n:Int))/\Kj i.toNat) x:=by
 unfold atE at h;split at h
 .obtain⟨h1,h2⟩:=Za h;simp only [zBA]at h1;cases h2
  exact⟨⟨Ug h1.1,Uag h1.2⟩,hk⟩
 .exact nos h
theorem wao{z n:Nat}{x:AV}(h:rslE z n x=some r)(hk:K r):rslA K z n x:=by
 unfold rslE at h;split at h
 .obtain⟨h1,h2⟩:=Za h;simp only [zBA]at h1;cases h2
  exact⟨⟨beq_eq h1.1,ua h1.2⟩,hk⟩
 .exact nos h
theorem Wao{pick:Int->Int->Int}{t:T}:∀{l:List Opd} {k:IntKind} {n:Int},maxE pick t l k n=some r->K r->maxK pick t.den.ev K l k n
 | [],k,n,h,hk=>Zl h hk
 | y::l,k,n,h,hk=>by
  simp only [maxE]at h;split at h
  .rename_i e;obtain⟨h1,h2⟩:=Za h;rw [T.ev_den]at e;simp only [maxK,e];exact⟨yA h1,Wao h2 hk⟩
  .exact nos h
theorem kaT{pick:Int->Int->Int}{t:T}{l:List Opd}(h:mmE pick t l=some r)(hk:K r):maxA pick t.den.ev K l:=by
 cases l with
 | nil=>exact nos h
 | cons x l=>
  simp only [mmE]at h;split at h
  .rename_i e;rw [T.ev_den]at e;simp only [maxA,e];exact Wao h hk
  .exact nos h
theorem kaw{b:Nat}{d:Option Nat}{x y:AV}(h:appIsE b d x y=true):appIs b d x y:=by
 unfold appIsE at h;split at h
 .exact beq_eq h
 .split at h
  .show some _=some b;rw [beq_eq h]
  .exact Bool.noConfusion h
 .exact Bool.noConfusion h
theorem zaF{x:AV}{b:Bool}(h:lbE x=some b):x=.one (.lit (.bool b)):=by
 unfold lbE at h;split at h
 .cases h;rfl
 .exact nos h
theorem Yaq{x:AV}{n:Int}{Kn:IntKind->Int->Prop}(h:liE x=some n)(hk:∀k,Kn k n):asInt Kn x:=by
 unfold liE at h;split at h
 .cases h;exact hk _
 .exact nos h
theorem Y0{x:AV}{u:Unit}(h:empE x=some u):x=.one .emp:=by
 unfold empE at h;split at h
 .rfl
 .exact nos h
end vals
section ops
variable {K:S->Prop} {t t' : T} {d:Option Nat}
theorem zaC{x:Option AV}(h:pu d t x=some t'):∃a,x=some a/\t' = t.put d a:=by
 cases x with
 | none=>exact nos h
 | some a=>exact⟨a,rfl,(Option.some.inj h).symm⟩
theorem jY{x:Option T}(h:pt d x=some t'):∃a,x=some a/\t' = a.put d (.tup []):=by
 cases x with
 | none=>exact nos h
 | some a=>exact⟨a,rfl,(Option.some.inj h).symm⟩
theorem qn{b:Blk}{a:Nat->Nat->AV}(hd:Low d)(h:newE t b a d=some t')(hk:K t'.den):newA K t.den b a d:=by
 cases d with
 | none=>exact nos h
 | some d=>
  simp only [newE]at h;split at h
  .rename_i ver e;cases h
   rw [T.put_den _ hd]at hk;have e:t.den.h d=⟨ver,none⟩:=e;simp only [newA,e,newB];have e2:(T.mk t.v t.x (hset t.h d ⟨ver+1,some b⟩) t.n).den=⟨t.den.v,upd t.den.h d ⟨ver+1,some b⟩⟩:=by
    show S.mk (farV (t.v::t.x)) (hget (hset t.h d ⟨ver+1,some b⟩))=_;rw [uN];rfl
   rw [e2]at hk;exact hk
  .exact nos h
theorem wa7{n:Nat}{x y:AV}{Kh:(Nat->HB)->Prop}(h:stE n t x y=some t')(hk:∀h',t'.den=t.den.setH h'->Kh h'):stA Kh n t.den.h x y:=by
 unfold stE at h;split at h
 .split at h
  .rename_i xs b e1 e2;split at h
   .rename_i e he;obtain⟨h1,h2⟩:=Za h;simp only [zBA]at h1;cases h2
    simp only [stA];refine kE e1 ?_;refine⟨b,Vk e2,⟨h1.1.1,beq_eq h1.1.2⟩,(List.getElem?_eq_some_iff.1 he).1,λe' he'=>?_⟩;rw [he]at he';cases he'
    exact⟨ua h1.2,hk _ (T.setB_den ..)⟩
   .exact nos h
  .exact nos h
 .exact nos h
theorem XY{z:Nat}{x y:AV}(hd:Low d)(h:appE z d t x y=some t')(hk:K t'.den):appA K z d t.den x y:=by
 unfold appE at h;split at h
 .exact nos h
 .rename_i ys e;obtain⟨h1,h⟩:=Za h;unfold appA;refine vE (Ke:=λys=>(∀e∈ys,e.length=z)/\appK K z d t.den ys x) e ?_;refine⟨xl h1,?_⟩;split at h
  .obtain⟨h2,h⟩:=Za h;exact⟨ua h2,qn hd h hk⟩
  .split at h
   .exact qn hd h hk
   .obtain⟨h2,h⟩:=Za h;simp only [zBA]at h2;exact⟨⟨ua h2.1,xl h2.2⟩,qn hd h hk⟩
  .split at h
   .rename_i b hb;obtain⟨h2,h⟩:=Za h;simp only [zBA]at h2;cases h
    obtain⟨⟨⟨⟨⟨q1,q2⟩,q3⟩,q4⟩,q5⟩,q6⟩:=h2;refine⟨b,Vk hb,⟨q1,beq_eq q2,beq_eq q3,ua q4,ua q5,ua q6⟩,?_⟩;rw [T.put_den _ hd,T.setB_den]at hk;exact hk
   .exact nos h
  .exact nos h
theorem xaY{z:Nat}{x y:AV}{Kh:(Nat->HB)->Prop}(h:clrE z t x y=some t')(hk:∀h',t'.den=t.den.setH h'->Kh h'):clrK Kh z t.den.h x y:=by
 unfold clrE at h;split at h
 .split at h
  .rename_i b hb;obtain⟨h1,h2⟩:=Za h;simp only [zBA]at h1;cases h2
   obtain⟨⟨⟨⟨q1,q2⟩,q3⟩,q4⟩,q5⟩:=h1;exact⟨b,Vk hb,⟨q1,beq_eq q2,beq_eq q3,beq_eq q4,ua q5⟩,hk _ (T.setB_den ..)⟩
  .exact nos h
 .exact nos h
theorem jaV{z:Nat}{x:AV}{ys:List (List C)}{Kh:(Nat->HB)->Prop}(h:cpyE z t ys x=some t')(hk:∀h',t'.den=t.den.setH h'->Kh h'):cpyK Kh z t.den.h ys x:=by
 unfold cpyE at h;split at h
 .split at h
  .rename_i b hb;obtain⟨h1,h2⟩:=Za h;simp only [zBA]at h1;cases h2
   obtain⟨⟨⟨⟨q1,q2⟩,q3⟩,q4⟩,q5⟩:=h1;exact⟨b,Vk hb,⟨q1,beq_eq q2,beq_eq q3,ua q4,ua q5⟩,hk _ (T.setB_den ..)⟩
  .exact nos h
 .exact nos h
end ops
end Go.Abs
end
section
namespace Go.Abs
section hand
variable {α:Type}
theorem xo(k:Nat->α)(n:Nat):fNat k n=k n:=by cases n <;> rfl
theorem uaZ(k:Int->α)(n:Int):fInt k n=k n:=by cases n <;> simp only [fInt,xo]
theorem J7(k:Bool->α)(n:Bool):fBool k n=k n:=by cases n <;> rfl
theorem QaH(k:IntKind->α)(n:IntKind):fKind k n=k n:=by cases n <;> rfl
theorem Yar(k:Value->α)(v:Value):fVal k v=k v:=by
 unfold fVal;split
 .rw [QaH,uaZ]
 .rw [J7]
 .rfl
mutual
theorem Qa9:∀(c:C) (k:C->α),fC c k=k c
 | .lit v,k=>by simp only [fC,Yar]
 | .slice es,k=>by simp only [fC,ka3]
 | .full es,k=>by simp only [fC,ka3]
 | .emp,k=>by simp only [fC]
 | .ref cs,k=>by simp only [fC,wat]
 | .clo f cs,k=>by simp only [fC,wat]
 | .own ..,k=>by simp only [fC]
 | .ptr ..,k=>by simp only [fC]
 | .any,k=>by simp only [fC]
theorem wat:∀(l:List C) (k:List C->α),fL l k=k l
 | [],k=>by simp only [fL]
 | c::l,k=>by simp only [fL,Qa9,wat]
theorem ka3:∀(l:List (List C)) (k:List (List C)->α),fR l k=k l
 | [],k=>by simp only [fR]
 | c::l,k=>by simp only [fR,wat,ka3]
end
mutual
theorem xaF:∀(a:AV) (k:AV->α),fA a k=k a
 | .one c,k=>by simp only [fA,Qa9]
 | .agg cs,k=>by simp only [fA,wat]
 | .tup l,k=>by simp only [fA,zR]
 | .any,k=>by simp only [fA]
theorem zR:∀(l:List AV) (k:List AV->α),fAs l k=k l
 | [],k=>by simp only [fAs]
 | a::l,k=>by simp only [fAs,xaF,zR]
end
end hand
theorem XM{c c' : C}(h:flatC c=some c'):ownC c=[]/\∀H,datC H c=c':=by
 unfold flatC at h;split at h
 .exact nos h
 .exact nos h
 .cases h;exact⟨rfl,λ_=>rfl⟩
 .cases h;exact⟨rfl,λ_=>rfl⟩
 .cases h;exact⟨rfl,λ_=>rfl⟩
 .exact nos h
 .rename_i n1 n2 n3 n4 n5 n6;cases h
  cases c with
  | own=>exact(n1 _ _ _ _ _ rfl).elim
  | ptr=>exact(n2 _ _ _ _ rfl).elim
  | emp=>exact(n3 rfl).elim
  | full es=>exact(n4 _ rfl).elim
  | clo f cs=>exact(n6 _ _ rfl).elim
  | lit v=>exact⟨rfl,λ_=>rfl⟩
  | slice es=>exact⟨rfl,λ_=>rfl⟩
  | ref cs=>exact⟨rfl,λ_=>rfl⟩
  | any=>exact⟨rfl,λ_=>rfl⟩
theorem xah:∀{cs cs' : List C},flatL cs=some cs'->cs.flatMap ownC=[]/\∀H,cs.map (datC H)=cs'
 | [],cs',h=>by cases h;exact⟨rfl,λ_=>rfl⟩
 | c::l,cs',h=>by
  simp only [flatL]at h;split at h
  .rename_i c' hc;simp only [zOM]at h;obtain⟨l',hl,rfl⟩:=h;obtain⟨h1,h2⟩:=XM hc;obtain⟨h3,h4⟩:=xah hl;exact⟨by rw [List.flatMap_cons,h1,h3];rfl,λH=>by rw [List.map_cons,h2,h4]⟩
  .exact nos h
theorem xaJ{a a' : AV}(h:flatA a=some a'):ownA a=[]/\∀H,datA H a=a':=by
 unfold flatA at h;split at h
 .simp only [zOM]at h;obtain⟨c',hc,rfl⟩:=h;obtain⟨h1,h2⟩:=XM hc;exact⟨h1,λH=>by show AV.one (datC H _)=_;rw [h2]⟩
 .simp only [zOM]at h;obtain⟨c',hc,rfl⟩:=h;obtain⟨h1,h2⟩:=xah hc;exact⟨h1,λH=>by show AV.agg (List.map (datC H) _)=_;rw [h2]⟩
 .exact nos h
theorem jG:∀{as as' : List AV},flatAs as=some as'->as.flatMap ownA=[]/\∀H,as.map (datA H)=as'
 | [],as',h=>by cases h;exact⟨rfl,λ_=>rfl⟩
 | a::l,as',h=>by
  simp only [flatAs]at h;split at h
  .rename_i a' ha;simp only [zOM]at h;obtain⟨l',hl,rfl⟩:=h;obtain⟨h1,h2⟩:=xaJ ha;obtain⟨h3,h4⟩:=jG hl;exact⟨by rw [List.flatMap_cons,h1,h3];rfl,λH=>by rw [List.map_cons,h2,h4]⟩
  .exact nos h
theorem Yn:∀(n:Nat) {c:C},cleanE n c=true->Clean c
 | 0,c,h=>Bool.noConfusion h
 | n+1,c,h=>by
  cases c with
  | own=>exact Bool.noConfusion h
  | ptr=>exact Bool.noConfusion h
  | emp=>exact .emp
  | any=>exact .any
  | lit v=>exact .lit v
  | slice es=>
   simp only [cleanE,List.all_eq_true]at h;exact .slice es λe he c hc=>Yn n (h e he c hc)
  | full es=>
   simp only [cleanE,List.all_eq_true]at h;exact .full es λe he c hc=>Yn n (h e he c hc)
  | ref cs=>
   simp only [cleanE,List.all_eq_true]at h;exact .ref cs λc hc=>Yn n (h c hc)
  | clo f cs=>
   simp only [cleanE,List.all_eq_true]at h;exact .clo f cs λc hc=>Yn n (h c hc)
theorem qx{n:Nat}{es:List (List C)}(h:(es.all λe=>e.all (cleanE n))=true):CleanR es:=by
 simp only [List.all_eq_true]at h;exact λe he c hc=>Yn n (h e he c hc)
theorem jan{n:Nat}{cs:List C}(h:cs.all (cleanE n)=true):CleanL cs:=by
 simp only [List.all_eq_true]at h;exact λc hc=>Yn n (h c hc)
theorem Qab{h:List (Nat×HB)}{c c' : C}(hc:dataC h c=some c'):datC (hget h) c=c':=by
 unfold dataC at hc;split at hc
 .rename_i r ver z off len;split at hc
  .rename_i v b e;simp only at hc;cases hb:(Nat.beq v ver && Nat.ble (off+len) b.es.length && ((b.es.drop off).take len).all λe=>e.all (cleanE 32)) with
   | false=>rw [hb]at hc;exact nos hc
   | true=>
    rw [hb]at hc;simp only [cond_true,zOI]at hc;simp only [zBA]at hb;have hv:=beq_eq hb.1.1;subst hv;show datV (hget h) r v off len=c';unfold datV viewOf;rw [e];simp only [HB.at,if_true,if_pos (ua hb.1.2),if_pos (qx hb.2)];exact hc
  .exact nos hc
 .rename_i r ver i off;split at hc
  .rename_i v b e;split at hc
   .rename_i e' he;cases hb:(Nat.beq v ver && Nat.ble off e'.length && (e'.drop off).all (cleanE 32)) with
    | false=>rw [hb]at hc;exact nos hc
    | true=>
     rw [hb]at hc;simp only [cond_true,zOI]at hc;simp only [zBA]at hb;have hv:=beq_eq hb.1.1;subst hv;show datP (hget h) r v i off=c';unfold datP;rw [e];simp only [HB.at,if_true,he,if_pos (show off<=e'.length/\CleanL (e'.drop off) from ⟨ua hb.1.2,jan hb.2⟩)];exact hc
   .exact nos hc
  .exact nos hc
 .exact(XM hc).2 _
theorem wG{h:List (Nat×HB)}:∀{cs cs' : List C},cs.mapM (dataC h)=some cs'->cs.map (datC (hget h))=cs'
 | [],cs',hc=>by simp at hc;subst hc;rfl
 | c::l,cs',hc=>by
  simp only [List.mapM_cons,Option.bind_eq_bind,zOB,Option.pure_def,zOI]at hc;obtain⟨c',h1,l',h2,rfl⟩:=hc;rw [List.map_cons,Qab h1,wG h2]
theorem vaa{h:List (Nat×HB)}:∀{es es' : List (List C)},rows2 h es=some es'->es.map (·.map (datC (hget h)))=es'
 | [],es',hc=>by cases hc;rfl
 | e::l,es',hc=>by
  simp only [rows2]at hc;split at hc
  .rename_i e' he;simp only [zOM]at hc;obtain⟨l',hl,rfl⟩:=hc;rw [List.map_cons,wG he,vaa hl]
  .exact nos hc
theorem QaD:∀(e:List C),ownE e=e.flatMap ownC
 | []=>rfl
 | c::l=>by rw [ownE,QaD l,List.flatMap_cons]
theorem JM:∀(e:List (List C)),ownEs e=e.flatMap (·.flatMap ownC)
 | []=>rfl
 | c::l=>by rw [ownEs,JM l,QaD,List.flatMap_cons]
theorem QaG{h:List (Nat×HB)}{a a' : AV}(hc:dataE h a=some a'):Abs.datE (hget h) a=a':=by
 unfold dataE at hc;unfold Abs.datE;split at hc
 .cases hc;rfl
 .cases hc;rfl
 .rename_i c n1 n2;simp only [zOM]at hc;obtain⟨c',h1,rfl⟩:=hc;split
  .rename_i e;cases e;exact(n1 rfl).elim
  .rename_i e;cases e;exact(n2 _ rfl).elim
  .show AV.one (datC _ _)=_;rw [Qab h1]
 .simp only [zOM]at hc;obtain⟨c',h1,rfl⟩:=hc;show AV.agg (List.map (datC _) _)=_;rw [wG h1]
 .exact nos hc
theorem vH{h:List (Nat×HB)}:∀{cs cs' : List AV},cs.mapM (dataE h)=some cs'->cs.map (Abs.datE (hget h))=cs'
 | [],cs',hc=>by simp at hc;subst hc;rfl
 | c::l,cs',hc=>by
  simp only [List.mapM_cons,Option.bind_eq_bind,zOB,Option.pure_def,zOI]at hc;obtain⟨c',h1,l',h2,rfl⟩:=hc;rw [List.map_cons,QaG h1,vH h2]
def datG(L:Lv)(f:Nat)(args:List AV)(K:AV->Prop):Prop:=∃r,L.dat f args=some r/\K r
def lokG(L:Lv)(f:Nat)(es:List (List C))(args:List AV)(K:AV->Prop):Prop:=∃r,L.look f es args=some r/\K r
def freG(L:Lv)(f:Nat)(args:List AV)(K:List (List C)->Prop):Prop:=∃es,L.fresh f args=some es/\K es
def inlG(L:Lv)(f:Nat)(_:Option Nat)(args:List AV)(s:S)(K:AV->S->Prop):Prop:=∃t r t',s=t.den/\L.inl f args t=some (r,t')/\K r t'.den
def iodG(L:Lv)(f:Nat)(_:Option Nat)(args:List AV)(s:S)(K:AV->S->Prop):Prop:=args.flatMap ownA=[]/\datG L f (args.map (datA s.h)) λr=>K r s
def bothG(L:Lv)(f:Nat)(d:Option Nat)(args:List AV)(s:S)(K:AV->S->Prop):Prop:=inlG L f d args s K∨iodG L f d args s K
theorem ze{α β:Type}(F:α->Option β):∀(as:α),(∀{K K' : β->Prop},(∀r,K r->K' r)->(∃r,F as=some r/\K r)->∃r,F as=some r/\K' r)/\
  (∀{K:β->Prop},(∃r,F as=some r/\K r)->∃r,K r)/\(∀{K:β->Prop},(∃r,F as=some r/\K r)->∃r,F as=some r/\∀K:β->Prop,(∃r,F as=some r/\K r)->K r):=λas=>
 ⟨λhm ⟨r,h1,h2⟩=>⟨r,h1,hm r h2⟩,λ⟨r,_,h2⟩=>⟨r,h2⟩,λ⟨r,h1,h2⟩=>⟨r,h1,λK ⟨r',h3,h4⟩=>by rw [h1]at h3;cases h3;exact h4⟩⟩
theorem xQ(L:Lv)(f:Nat):Good (datG L f):=by
 constructor
 .intro as K K' hm h;exact(ze (L.dat f) as).1 hm h
 .intro as K h;exact(ze (L.dat f) as).2.1 h
 .intro as K h;exact(ze (L.dat f) as).2.2 h
theorem waF(L:Lv)(f:Nat)(es:List (List C)):Good (lokG L f es):=by
 constructor
 .intro as K K' hm h;exact(ze (L.look f es) as).1 hm h
 .intro as K h;exact(ze (L.look f es) as).2.1 h
 .intro as K h;exact(ze (L.look f es) as).2.2 h
theorem vaz(L:Lv)(f:Nat):Good (freG L f):=by
 constructor
 .intro as K K' hm h;exact(ze (L.fresh f) as).1 hm h
 .intro as K h;exact(ze (L.fresh f) as).2.1 h
 .intro as K h;exact(ze (L.fresh f) as).2.2 h
structure LvOk (P:Program) (L:Lv):Prop where
 en:∀f args r,L.dat f args=some r->Enters P f
 eni:∀f args t r,L.inl f args t=some r->Enters P f
 enl:∀f es args r,L.look f es args=some r->Enters P f
 enf:∀f args r,L.fresh f args=some r->Enters P f
 dat:∀f,DSound P f (datG L f)
 inl:∀f,ISound P f (inlG L f)
 look:∀f,OSound P f (lookG (lokG L f))
 fresh:∀f,FSound P f (L.z f) (freG L f)
theorem RAs.any_map{m:M}{I:Nat->Prop}{H:Array Obj}{as:List AV}{vs:List Value}(h:RAs m I H as vs)(hc:∀a∈as,CleanV a)(m' : M):RAs m' I H as vs:=
 ⟨h.1,λi a v ha hv=>(h.2 i a v ha hv).any_mapV (hc a (List.mem_of_getElem? ha)) m'⟩
theorem vam{P:Program}{f:FuncId}{G:List AV->(AV->Prop)->Prop}(h:DSound P f G):ISound P f λ_ args s K=>args.flatMap ownA=[]/\G (args.map (datA s.h)) λr=>K r s:=by
 intro E args vals s a w m I d K hs hargs ⟨hown,hG⟩;obtain⟨_,hx1⟩:=hs.heap.ret (w':=w) (I':=I) (Nat.le_refl _) (λ_ _=>rfl) (λ_ h=>h) (λ_ h=>.inl h) hs.heap.imb rfl rfl rfl;have free:∀x∈args,ownA x=[]:=by simpa only [List.flatMap_eq_nil_iff] using hown
 have each:∀x v,x∈args->RA m I w.heap x v->RA m I w.heap (datA s.h x) v/\CleanV (datA s.h x):=λx v hx hv=>
  jt hs.heap hx1 hv (λr hr'=>by rw [free x hx]at hr';simp at hr')
 have hcl:∀x∈args.map (datA s.h),CleanV x:=by
  intro x hx;simp only [List.mem_map]at hx;obtain⟨x0,hx0,rfl⟩:=hx;obtain⟨i,hi⟩:=List.getElem?_of_mem hx0;have hlt:i<vals.length:=by rw [<-hargs.1];exact(List.getElem?_eq_some_iff.1 hi).1
  exact(each x0 _ hx0 (hargs.2 i x0 _ hi (List.getElem?_eq_getElem hlt))).2
 have hra:RAs M0 I w.heap (args.map (datA s.h)) vals:=by
  refine RAs.any_map (m:=m) ⟨by simp [hargs.1],λi x v hx hv=>?_⟩ hcl M0
  simp only [List.getElem?_map,zOM]at hx;obtain⟨x0,hx0,rfl⟩:=hx;exact(each x0 v (List.mem_of_getElem? hx0) (hargs.2 i x0 v hx0 hv)).1
 refine Calls.mono (h _ vals w I _ hs.heap.imb hra hcl hG) λe w' ⟨v,r,I',h1,h2,h3,h4,ht⟩=>?_;obtain⟨hh2,hx2⟩:=hs.heap.ret (w':=w') (I':=I') ht.grow ht.keep ht.sub ht.new ht.imb ht.os ht.tape ht.out;have:=hs.move hx2 hh2;exact⟨v,r,s,m,I',h1,h2,h3.any_map h4 m,this⟩
def crs:List AO->List Nat
 | []=>[]
 | o::l=>match o.o with
  | .callr f _=>f::crs l
  | _=>crs l
def cfs:List AO->List Nat
 | []=>[]
 | o::l=>match o.o with
  | .callf f _=>f::cfs l
  | _=>cfs l
def cis:List AO->List Nat
 | []=>[]
 | o::l=>match o.o with
  | .calli f _=>f::cis l
  | _=>cis l
open Classical in
noncomputable def gam(P:Program)(L:Lv)(dr:Bool)(l:List AO)(f:Nat):Spec:=
 if Enters P f then
  if (crs l).contains f then .look (lokG L f) else
  if (cfs l).contains f then .fresh (L.z f) (freG L f) else
  if (cis l).contains f then .inl (inlG L f) else
  if dr then .dat false (datG L f) else .inl (bothG L f)
 else .none
theorem Vag{L:Lv}{f:Nat}{d:Option Nat}{args:List AV}{s:S}{K K' : AV->S->Prop}(hm:∀r s,K r s->K' r s):inlG L f d args s K->inlG L f d args s K':=
 λ⟨t,r,t',h1,h2,h3⟩=>⟨t,r,t',h1,h2,hm _ _ h3⟩
theorem ut{P:Program}{L:Lv}(hL:LvOk P L)(dr:Bool)(l:List AO):Holds P (gam P L dr l):=by
 intro f;unfold gam;split
 rotate_left
 .trivial
 rename_i hent;split
 .exact⟨hent,waF L f,hL.look f⟩
 split
 .exact⟨hent,vaz L f,hL.fresh f⟩
 split
 .exact⟨hent,λhm=>Vag hm,hL.inl f⟩
 split
 .exact⟨hent,xQ L f,hL.dat f⟩
 .refine⟨hent,λhm h=>?_,λE args vals s a w m I d K hs hargs hG=>?_⟩
  .rcases h with h | ⟨h1,h2⟩
   .exact .inl (Vag hm h)
   .exact .inr ⟨h1,(xQ L f).mono (λr=>hm r _) h2⟩
  .rcases hG with hG | hG
   .exact hL.inl f E args vals s a w m I d K hs hargs hG
   .exact vam (hL.dat f) E args vals s a w m I d K hs hargs hG
def okAO(l:List AO)(o:AO):Bool:=
 (match o.d with | some d=>Nat.blt d 256 | none=>true) &&
 match o.o with
 | .call f _=>!(crs l).contains f && !(cfs l).contains f && !(cis l).contains f
 | .callv _ _=>(crs l).all spF && (cfs l).all spF && (cis l).all spF
 | .callr f _=>(crs l).contains f
 | .callf f _=>!(crs l).contains f && (cfs l).contains f
 | .calli f _=>!(crs l).contains f && !(cfs l).contains f && (cis l).contains f
 | _=>true
section
variable {P:Program} {L:Lv} {K:S->Prop} {t t' : T} {d:Option Nat} {dr:Bool} {l:List AO}
theorem jab(hL:LvOk P L)(hd:Low d){f:Nat}{args:List AV}(h1:(crs l).contains f=false)(h2:(cfs l).contains f=false)(h3:(cis l).contains f=false)
  (h:callE L dr d t f args=some t') (hk:K t'.den):callS K dr d args t.den (gam P L dr l f):=by
 unfold callE at h;split at h
 .rename_i as e;obtain⟨g1,g2⟩:=jG e;rw [zR]at h;split at h
  .rename_i r e2;rw [xaF]at h;cases h
   rw [T.put_den _ hd]at hk;have hent:=hL.en f as r e2;unfold gam;rw [if_pos hent,h1,h2,h3];simp only [Bool.false_eq_true,if_false];cases dr with
   | true=>
    refine⟨λ_=>g1,?_⟩;rw [g2,g1];exact⟨r,e2,hk⟩
   | false=>
    refine⟨rfl,.inr ⟨g1,?_⟩⟩;rw [g2];exact⟨r,e2,hk⟩
  .exact nos h
 .cases dr with
  | true=>exact nos h
  | false=>
   simp only [cond_false]at h;split at h
   .rename_i r t1 e2;cases h
    rw [T.put_den _ hd]at hk;have hent:=hL.eni f args t _ e2;unfold gam;rw [if_pos hent,h1,h2,h3];simp only [Bool.false_eq_true,if_false];exact⟨rfl,.inl ⟨t,r,t1,rfl,e2,hk⟩⟩
   .exact nos h
theorem waM(hL:LvOk P L){f:Nat}{args:List AV}{r:AV}{Kv:AV->Prop}(h1:(crs l).contains f=true)(h:lookE L t f args=some r)(hk:Kv r):callR Kv args t.den.h (gam P L dr l f):=by
 unfold lookE at h;split at h
 .rename_i r0 ver rest;split at h
  .rename_i b hb;obtain⟨g1,g2⟩:=Za h;simp only [zBA]at g1;split at g2
   .rename_i as e;obtain⟨q1,q2⟩:=jG e;have hent:=hL.enl f _ _ _ g2;unfold gam;rw [if_pos hent,if_pos h1];refine⟨b,Vk hb,⟨g1.1,qx g1.2⟩,q1,?_⟩;rw [q2];exact⟨r,g2,hk⟩
   .exact nos g2
  .exact nos h
 .exact nos h
theorem jav(hL:LvOk P L)(hd:Low d){f:Nat}{args:List AV}(h1:(crs l).contains f=false)(h2:(cfs l).contains f=true)
  (h:freshE L dr d t f args=some t') (hk:K t'.den):callF K dr d args t.den (gam P L dr l f):=by
 unfold freshE at h;simp only at h;obtain⟨g1,g2⟩:=Za h;split at g2
 .rename_i as e;split at g2
  .rename_i es e2;have hent:=hL.enf f _ _ e2;unfold gam;rw [if_pos hent,h1,if_neg Bool.false_ne_true,if_pos h2];refine⟨λhdr=>?_,?_⟩
   .subst hdr;simpa using g1
   .show freG L f (args.map (Abs.datE (hget t.h))) _;rw [vH e];refine⟨es,e2,?_⟩;have:=qn hd g2 hk;have e3:(T.mk t.v t.x (frzH (args.flatMap ownA) t.h) t.n).den=t.den.setH (frz (args.flatMap ownA) t.den.h):=by
     show S.mk (farV (t.v::t.x)) (hget (frzH (args.flatMap ownA) t.h))=_;rw [ZM];rfl
    rw [e3]at this;exact this
  .exact nos g2
 .exact nos g2
theorem Xa0{x:AV}{args:List AV}{p:Nat×List AV}{Kc:Nat->List AV->Prop}(h:whoE x args=some p)(hk:Kc p.1 p.2):callVA Kc args x:=by
 unfold whoE at h;split at h
 .cases h;exact hk
 .cases h;exact hk
 .rename_i n;cases h
  simp only [callVA];unfold cloA;split
  .exact(n _ rfl).elim
  .exact hk
 .exact nos h
theorem JaT(hL:LvOk P L)(op:AOp)(hd:Low d)(hok:okAO l ⟨d,none,op⟩=true)(h:opE op L dr d t=some t')(hk:K t'.den):wpO (gam P L dr l) dr d t.den K op:=by
 have pu:∀{x:Option AV} {Q:(AV->Prop)->Prop},pu d t x=some t'->(∀a,x=some a->K (t.den.put d a)->Q (λr=>K (t.den.put d r)))->Q (λr=>K (t.den.put d r)):=by
  intro x Q h hq;obtain⟨a,h1,rfl⟩:=zaC h;rw [T.put_den _ hd]at hk;exact hq a h1 hk
 unfold okAO at hok;simp only [zBA]at hok;obtain⟨_,hok⟩:=hok;cases op with
 | mv x=>
  cases (show some (t.put d (t.ev x))=some t' from h)
  rw [T.put_den _ hd,T.ev_den]at hk;exact hk
 | pick c x y=>
  obtain⟨b,h1,h2⟩:=qa (show obind (lbE (t.ev c)) (λb=>some (t.put d (sel b (t.ev x) (t.ev y))))=some t' from h);cases h2
  have:=zaF h1;rw [T.ev_den]at this;rw [T.put_den _ hd,T.ev_den,T.ev_den]at hk;simp only [wpO,this,asBool];cases b
  .exact⟨λe=>Bool.noConfusion e,λ_=>hk⟩
  .exact⟨λ_=>hk,λe=>Bool.noConfusion e⟩
 | alloc zs=>exact qn hd h hk
 | box n x=>
  obtain⟨cs,h1,h2⟩:=qa (show obind (cellsE (t.ev x)) _=some t' from h);obtain⟨h3,h4⟩:=Za h2;rw [T.ev_den]at h1;exact kE (Kc:=λcs=>cs.length=n/\newA K t.den ⟨[cs],n,true⟩ (λd ver=>.one (.ptr d ver 0 0)) d) h1 ⟨beq_eq h3,qn hd h4 hk⟩
 | build sg=>
  obtain⟨cs,h1,h2⟩:=qa (show obind (segsE t sg) (λcs=>some (t.put d (.agg cs)))=some t' from h);cases h2
  rw [T.put_den _ hd]at hk;exact xz h1 hk
 | row z l=>
  obtain⟨es,h1,h2⟩:=qa (show obind (rowsE t z l) _=some t' from h);obtain⟨es',h3,h4⟩:=qa h2;obtain⟨h5,h6⟩:=Za (show guardE (!dr || (ownEs es).isEmpty) _=some t' from h4)
  cases h6
  rw [T.put_den _ hd]at hk;refine Yz h1 ⟨λhdr=>?_,?_⟩
  .subst hdr;rw [<-JM];simpa using h5
  .rw [<-JM];have e3:(T.mk t.v t.x (frzH (ownEs es) t.h) t.n).den=t.den.setH (frz (ownEs es) t.den.h):=by
    show S.mk (farV (t.v::t.x)) (hget (frzH (ownEs es) t.h))=_;rw [ZM];rfl
   rw [e3,<-vaa h3]at hk;exact hk
 | rowo z l=>
  obtain⟨h0,h⟩:=Za (show guardE (!dr) (xRowd d t z l)=some t' from h);obtain⟨es,h1,h2⟩:=qa (show obind (rowsE t z l) _=some t' from h);exact⟨by simpa using h0,Yz h1 (qn hd h2 hk)⟩
 | ld b n g a=>
  obtain⟨h0,h⟩:=Za (show guardE (baseE b (t.ev a)) _=some t' from h);rw [T.ev_den]at h0 h;exact⟨Zad h0,pu (Q:=λKv=>ldA Kv n g t.den.h (t.den.ev a)) h λr h1 hk=>Jab h1 hk⟩
 | st b n a x=>
  obtain⟨h0,h⟩:=Za (show guardE (baseE b (t.ev a)) _=some t' from h);rw [T.ev_den]at h0 h;rw [T.ev_den]at h;obtain⟨t1,h1,rfl⟩:=jY h;rw [T.put_den _ hd]at hk;exact⟨Zad h0,wa7 h1 λh' e=>by rw [e]at hk;exact hk⟩
 | nilck x=>exact pu (x:=nilckE (t.ev x)) (Q:=λKv=>nilckA Kv (t.den.ev x)) h λr h1 hk=>by rw [T.ev_den]at h1;exact Jav h1 hk
 | bin o x y=>exact pu (x:=binE o (t.ev x) (t.ev y)) (Q:=λKv=>binA Kv o (t.den.ev x) (t.den.ev y)) h λr h1 hk=>by rw [T.ev_den,T.ev_den]at h1;exact Wa5 h1 hk
 | binb o x y=>exact pu (x:=binbE o (t.ev x) (t.ev y)) (Q:=λKv=>binbA Kv o (t.den.ev x) (t.den.ev y)) h λr h1 hk=>by rw [T.ev_den,T.ev_den]at h1;exact qaM h1 hk
 | binn o x y=>exact pu (x:=binnE o (isConst y) (t.ev x) (t.ev y)) (Q:=λKv=>binnA Kv o (isConst y) (t.den.ev x) (t.den.ev y)) h λr h1 hk=>by rw [T.ev_den,T.ev_den]at h1;exact kaH h1 hk
 | un o x=>exact pu (x:=unE o (t.ev x)) (Q:=λKv=>unA Kv o (t.den.ev x)) h λr h1 hk=>by rw [T.ev_den]at h1;exact jba h1 hk
 | conv k x=>exact pu (x:=convE k (t.ev x)) (Q:=λKv=>convA Kv k (t.den.ev x)) h λr h1 hk=>by rw [T.ev_den]at h1;exact uaH h1 hk
 | iface ty x=>exact pu (x:=ifaceE ty (t.ev x)) (Q:=λKv=>ifaceA Kv ty (t.den.ev x)) h λr h1 hk=>by rw [T.ev_den]at h1;exact ZaE h1 hk
 | clo f l=>
  obtain⟨cs,h1,h2⟩:=qa (show obind (capE t l) (λcs=>some (t.put d (.one (.clo f cs))))=some t' from h);cases h2
  rw [T.put_den _ hd]at hk;exact QaB h1 hk
 | mk z zs a c=>
  obtain⟨i,h1,h2⟩:=qa (show obind (liE (t.ev a)) _=some t' from h);obtain⟨j,h3,h4⟩:=qa h2;obtain⟨h5,h6⟩:=Za (show guardE (ile 0 i && ile i j && ile j roomA && Nat.beq zs.length z) _=some t' from h4);simp only [zBA]at h5;rw [T.ev_den]at h1 h3;refine Yaq h1 λ_=>?_;refine Yaq h3 λ_=>?_;exact⟨⟨Ug h5.1.1.1,Ug h5.1.1.2,Ug h5.1.2,beq_eq h5.2⟩,qn hd h6 hk⟩
 | sl z x lo hi=>exact pu (x:=sliceE z t lo hi (t.ev x)) (Q:=λKv=>slA Kv z t.den.ev lo hi (t.den.ev x)) h λr h1 hk=>by rw [T.ev_den]at h1;exact US h1 hk
 | sl0 x=>
  obtain⟨es,h1,h2⟩:=qa (show obind (elemsE t (t.ev x)) (λ_=>some (t.put d (.one .emp)))=some t' from h);cases h2
  rw [T.put_den _ hd]at hk;rw [T.ev_den]at h1;exact vE (Ke:=λ_=>K (t.den.put d (.one .emp))) h1 hk
 | fa off x=>exact pu (x:=faE off (t.ev x)) (Q:=λKv=>faA Kv off (t.den.ev x)) h λr h1 hk=>by rw [T.ev_den]at h1;exact ZaS h1 hk
 | fld n g off x=>exact pu (x:=fldE n g off (t.ev x)) (Q:=λKv=>fldA Kv n g off (t.den.ev x)) h λr h1 hk=>by rw [T.ev_den]at h1;exact jaq h1 hk
 | idx z x i=>exact pu (x:=idxE z (t.ev i) (t.ev x)) (Q:=λKv=>idxA Kv z (t.den.ev i) (t.den.ev x)) h λr h1 hk=>by rw [T.ev_den,T.ev_den]at h1;exact ua3 h1 hk
 | ext i x=>exact pu (x:=extE i (t.ev x)) (Q:=λKv=>extA Kv i (t.den.ev x)) h λr h1 hk=>by rw [T.ev_den]at h1;exact Ya2 h1 hk
 | tass ty zero x=>exact pu (x:=tassE ty zero (t.ev x)) (Q:=λKv=>tassA Kv ty zero (t.den.ev x)) h λr h1 hk=>by rw [T.ev_den]at h1;exact zaN h1 hk
 | len x=>exact pu (x:=lenE (t.ev x)) (Q:=λKv=>lenA Kv dr (t.den.ev x)) h λr h1 hk=>by rw [T.ev_den]at h1;exact Xa2 h1 hk
 | app z x y=>
  have h:appE z d t (t.ev x) (t.ev y)=some t':=h;rw [T.ev_den,T.ev_den]at h;exact XY hd h hk
 | app0 z x y=>
  obtain⟨u,h1,h2⟩:=qa (show obind (empE (t.ev x)) _=some t' from h);rw [T.ev_den]at h1 h2;have:=Y0 h1;simp only [wpO,this,isEmp];exact XY hd h2 hk
 | appb b z x y=>
  obtain⟨h0,h⟩:=Za (show guardE (appIsE b d (t.ev x) (t.ev y)) (appE z d t (t.ev x) (t.ev y))=some t' from h);rw [T.ev_den,T.ev_den]at h0 h;exact⟨kaw h0,XY hd h hk⟩
 | copy z x y=>
  obtain⟨h0,h⟩:=Za (show guardE (!dr) (pt d (clrE z t (t.ev x) (t.ev y)))=some t' from h);rw [T.ev_den,T.ev_den]at h;obtain⟨t1,h1,rfl⟩:=jY h;rw [T.put_den _ hd]at hk;exact⟨by simpa using h0,xaY h1 λh' e=>by rw [e]at hk;exact hk⟩
 | cpy z x y=>
  obtain⟨h0,h⟩:=Za (show guardE (!dr) _=some t' from h);obtain⟨ys,h1,h2⟩:=qa h;obtain⟨h3,h4⟩:=Za h2;obtain⟨t1,h5,h6⟩:=qa h4;cases h6
  rw [T.put_den _ hd]at hk;rw [T.ev_den]at h1 h5;refine⟨by simpa using h0,?_⟩
  refine vE (Ke:=λys=>(∀e∈ys,e.length=z)/\cpyK (λh=>K ((t.den.setH h).put d (.one (.lit (.int .i64 (ys.length:Nat)))))) z t.den.h ys (t.den.ev x)) h1 ?_;exact⟨xl h3,jaV h5 λh' e=>by rw [e]at hk;exact hk⟩
 | max l=>exact pu (x:=mmE mx t l) (Q:=λKv=>maxA mx t.den.ev Kv l) h λr h1 hk=>kaT h1 hk
 | min l=>exact pu (x:=mmE mn t l) (Q:=λKv=>maxA mn t.den.ev Kv l) h λr h1 hk=>kaT h1 hk
 | call f l=>
  simp only [zBA,Bool.not_eq_true']at hok;have h:callE L dr d t f (l.map t.ev)=some t':=h;rw [T.evs_den]at h;exact jab hL hd hok.1.1 hok.1.2 hok.2 h hk
 | callv f as=>
  simp only [zBA]at hok;obtain⟨p,h1,h2⟩:=qa (show obind (whoE (t.ev f) (as.map t.ev)) _=some t' from h);obtain⟨h3,h2⟩:=Za h2;have nin:∀{xs:List Nat},xs.all spF=true->xs.contains p.1=false:=λ{xs} hx=>by
   cases hc:xs.contains p.1 with
   | false=>rfl
   | true=>
    have hm:p.1∈xs:=by simpa using hc
    rw [List.all_eq_true.1 hx _ hm]at h3;exact Bool.noConfusion h3
  rw [T.evs_den,T.ev_den]at h1;exact Xa0 (Kc:=λf args=>callS K dr d args t.den (gam P L dr l f)) h1 (jab hL hd (nin hok.1.1) (nin hok.1.2) (nin hok.2) h2 hk)
 | callf f l=>
  simp only [zBA,Bool.not_eq_true']at hok;have h:freshE L dr d t f (l.map t.ev)=some t':=h;rw [T.evs_den]at h;exact jav hL hd hok.1 hok.2 h hk
 | snil neg x=>exact pu (x:=snilE neg (t.ev x)) (Q:=λKv=>snilA Kv neg (t.den.ev x)) h λr h1 hk=>by rw [T.ev_den]at h1;exact WaJ h1 hk
 | cap x=>
  obtain⟨u,h1,h2⟩:=qa (show obind (empE (t.ev x)) _=some t' from h);cases h2
  rw [T.ev_den]at h1;have:=Y0 h1;rw [T.put_den _ hd]at hk;simp only [wpO,this,capZ,intR];exact hk
 | appz z zs x n=>
  obtain⟨u,h1,h2⟩:=qa (show obind (empE (t.ev x)) _=some t' from h);obtain⟨i,h3,h4⟩:=qa h2;obtain⟨h5,h6⟩:=Za h4;simp only [zBA]at h5;rw [T.ev_den]at h1 h3;have:=Y0 h1;simp only [wpO,this,isEmp];refine Yaq h3 λ_=>?_;exact⟨⟨Ug h5.1.1,Ug h5.1.2,beq_eq h5.2⟩,qn hd h6 hk⟩
 | sop k l=>exact pu (x:=sopE k (l.map t.ev)) (Q:=λKv=>sopA Kv k (l.map t.den.ev)) h λr h1 hk=>by rw [T.evs_den]at h1;exact qa0 h1 hk
 | ai z n x i=>
  obtain⟨j,h1,h2⟩:=qa (show obind (atE n (t.ev i)) (λj=>Abs.pu d t (faE (j*z) (t.ev x)))=some t' from h);rw [T.ev_den]at h1 h2;refine zaT (Kj:=λj=>faA (λr=>K (t.den.put d r)) (j*z) (t.den.ev x)) h1 ?_;exact pu (Q:=λKv=>faA Kv (j*z) (t.den.ev x)) h2 λr h1 hk=>ZaS h1 hk
 | aix z g n x i=>
  obtain⟨j,h1,h2⟩:=qa (show obind (atE n (t.ev i)) (λj=>Abs.pu d t (fldE z g (j*z) (t.ev x)))=some t' from h);rw [T.ev_den]at h1 h2;refine zaT (Kj:=λj=>fldA (λr=>K (t.den.put d r)) z g (j*z) (t.den.ev x)) h1 ?_;exact pu (Q:=λKv=>fldA Kv z g (j*z) (t.den.ev x)) h2 λr h1 hk=>jaq h1 hk
 | rsl z n x=>exact pu (x:=rslE z n (t.ev x)) (Q:=λKv=>rslA Kv z n (t.den.ev x)) h λr h1 hk=>by rw [T.ev_den]at h1;exact wao h1 hk
 | callr f l=>
  exact pu (x:=lookE L t f (l.map t.ev)) (Q:=λKv=>callR Kv (l.map t.den.ev) t.den.h (gam P L dr _ f)) h λr h1 hk=>by rw [T.evs_den]at h1;exact waM hL hok h1 hk
 | rsb z n x lo hi=>
  obtain⟨r,h1,h2⟩:=qa (show obind (rslE z n (t.ev x)) (λr=>Abs.pu d t (sliceE z t lo hi r))=some t' from h);rw [T.ev_den]at h1;refine wao (K:=λr=>slA (λr=>K (t.den.put d r)) z t.den.ev lo hi r) h1 ?_;exact pu (Q:=λKv=>slA Kv z t.den.ev lo hi r) h2 λr h1 hk=>US h1 hk
 | bad=>exact nos h
 | rowf z x=>exact nos h
 | calli f l=>
  simp only [zBA,Bool.not_eq_true']at hok;obtain⟨p,h1,h2⟩:=qa (show obind (L.inl f (l.map t.ev) t) (λp=>some (p.2.put d p.1))=some t' from h);cases h2
  rw [T.evs_den]at h1;rw [T.put_den _ hd]at hk;have hent:=hL.eni f _ _ _ h1;simp only [wpO];unfold gam;rw [if_pos hent,hok.1.1,if_neg Bool.false_ne_true,hok.1.2,if_neg Bool.false_ne_true,if_pos hok.2];exact⟨t,p.1,p.2,rfl,h1,hk⟩
 | rowd z l=>
  obtain⟨es,h1,h2⟩:=qa (show obind (rowsE t z l) _=some t' from h);exact Yz h1 (qn hd h2 hk)
theorem ZaG{w b:Bool}{x:AV}(h:wantE w x=some b):(x=.tup []/\b=false)∨∃c,x=.one (.lit (.bool c))/\b=(c == w):=by
 unfold wantE at h;split at h
 .cases h;exact .inr ⟨_,rfl,rfl⟩
 .cases h;exact .inl ⟨rfl,rfl⟩
 .exact nos h
theorem Ya6{o:AO}(hok:okAO l o=true):Low o.d:=by
 intro k hk;unfold okAO at hok;rw [hk]at hok;simp only [zBA]at hok;exact ua hok.1
theorem xa7(hL:LvOk P L){o:AO}(hok:okAO l o=true)(h:aoE o L dr t=some t')(hk:K t'.den):wpG (gam P L dr l) dr t.den K o:=by
 have hd:=Ya6 hok;obtain⟨d,g,op⟩:=o;cases g with
 | none=>exact JaT hL op hd hok h hk
 | some gw=>
  obtain⟨g,want⟩:=gw;obtain⟨b,h1,h2⟩:=qa (show obind (wantE want (t.get g)) (λb=>sel b (opE op L dr d t) (some (t.put d (.tup []))))=some t' from h);rw [T.get_den]at h1;simp only [wpG];rcases ZaG h1 with⟨e,rfl⟩ | ⟨c,e,rfl⟩
  .rw [e];cases h2
   rw [T.put_den _ hd]at hk;exact hk
  .rw [e];simp only [grd];refine⟨λec=>?_,λec=>?_⟩
   .subst ec;have e1:(c == c)=true:=by cases c <;> rfl
    rw [e1,qbl]at h2;rw [Uu e];exact JaT hL op hd hok h2 hk
   .have e1:(c == want)=false:=by subst ec;cases want <;> rfl
    rw [e1,Qbm]at h2;cases h2
    rw [T.put_den _ hd]at hk;rw [<-ec,Uu e];exact hk
theorem xG(hL:LvOk P L):∀(l' : List AO) {t t' : T},(∀o∈l',okAO l o=true)->aosE L dr l' t=some t'->K t'.den->wpL (gam P L dr l) dr K l' t.den
 | [],t,t',hok,h,hk=>by cases h;exact hk
 | o::l',t,t',hok,h,hk=>by
  obtain⟨t1,h1,h2⟩:=qa (show obind (aoE o L dr t) (aosE L dr l')=some t' from h);exact xa7 hL (hok o (List.mem_cons_self ..)) h1 (xG hL l' (λo ho=>hok o (List.mem_cons_of_mem _ ho)) h2 hk)
end
end Go.Abs
end
section
namespace Go.Abs
variable {Γ:Nat->Spec} {body:AC} {Q:Ex->S->Prop} {s:S}
def LL(Γ:Nat->Spec)(body:AC)(Q:Ex->S->Prop):Nat->S->Prop
 | 0,_=>False
 | n+1,s=>LL Γ body Q n s∨∃s0,Weak s s0/\wpA Γ body (Ex.seq (LL Γ body Q n) Q) s0
theorem Y7:∀{n:Nat} {s:S},LL Γ body Q n s↔∃y:Nat×S,Weak s y.2/\wpA Γ body (Ex.seq (LL Γ body Q y.1) Q) y.2/\y.1<n
 | 0,s=>⟨λh=>h.elim,λ⟨y,_,_,h⟩=>absurd h (Nat.not_lt_zero _)⟩
 | n+1,s=>by
  constructor
  .intro h;rcases h with h | ⟨s0,h1,h2⟩
   .obtain⟨y,h1,h2,h3⟩:=Y7.1 h;exact⟨y,h1,h2,by omega⟩
   .exact⟨(n,s0),h1,h2,Nat.lt_succ_self _⟩
  .rintro⟨⟨m,s0⟩,h1,h2,h3⟩;rcases Nat.lt_or_ge m n with h | h
   .exact .inl (Y7.2 ⟨(m,s0),h1,h2,h⟩)
   .have:m=n:=by simp only at h3;omega
    subst this;exact .inr ⟨s0,h1,h2⟩
theorem Xa1{n:Nat}(h:LL Γ body Q n s):wpA Γ (.loop body) Q s:=by
 obtain⟨y,h1,h2,_⟩:=Y7.1 h;refine⟨Nat×S,(·.2),λy=>wpA Γ body (Ex.seq (LL Γ body Q y.1) Q) y.2,(·.1),y,h1,h2,λx hx=>?_⟩;have e:LL Γ body Q x.1=λs'=>∃y:Nat×S,Weak s' y.2/\wpA Γ body (Ex.seq (LL Γ body Q y.1) Q) y.2/\y.1<x.1:=funext λs=>propext Y7;have hx' : wpA Γ body (Ex.seq (LL Γ body Q x.1) Q) x.2:=hx;rw [e]at hx';exact hx'
def UnAt(Γ:Nat->Spec)(body:AC)(Q:Ex->S->Prop)(n:Nat)(s:S)(t:Tok (Γ,body,Q,n)):Prop:=LL Γ body Q n s
theorem ja9(n:Nat)(s0:S)(h0:Weak s s0)(h:wpA Γ body (Ex.seq (λs'=>UnAt Γ body Q n s' .mk) Q) s0){t:Tok (Γ,body,Q)}:LoopAt Γ body Q s t:=
 Xa1 (n:=n+1) (.inr ⟨s0,h0,h⟩)
theorem jat{n:Nat}(s0:S)(h0:Weak s s0)(h:wpA Γ body (Ex.seq (λs'=>UnAt Γ body Q n s' .mk) Q) s0){t:Tok (Γ,body,Q,n+1)}:UnAt Γ body Q (n+1) s t:=
 .inr ⟨s0,h0,h⟩
def kpH(k:List (Nat×HB))(bs:List Nat):List (Nat×HB):=bs.map λr=>(r,mkH k r)
theorem ka6(k:List (Nat×HB))(r:Nat)(bs:List Nat):kpH k (r::bs)=(r,mkH k r)::kpH k bs:=rfl
theorem ybh(k:List (Nat×HB)):kpH k []=[]:=rfl
theorem uaK{c:C}{l:List C}:CleanL (c::l)=(Clean c/\CleanL l):=propext ⟨λh=>⟨h c (by simp),λx hx=>h x (by simp [hx])⟩,λh x hx=>by
 rcases List.mem_cons.1 hx with rfl | hx
 .exact h.1
 .exact h.2 x hx⟩
theorem YaK:CleanL []=True:=eq_true λc hc=>by simp at hc
theorem ZaM{e:List C}{l:List (List C)}:CleanR (e::l)=(CleanL e/\CleanR l):=propext ⟨λh=>⟨h e (by simp),λx hx=>h x (by simp [hx])⟩,λh x hx=>by
 rcases List.mem_cons.1 hx with rfl | hx
 .exact h.1
 .exact h.2 x hx⟩
theorem yaK:CleanR []=True:=eq_true λc hc=>by simp at hc
theorem vaI{h h' : Nat->HB}{b:Option Blk}:(match b with | none=>True | some b=>CleanR b.es)->okB h h' b b:=by
 intro hb;cases b with
 | none=>trivial
 | some b=>exact⟨⟨rfl,rfl⟩,.inl ⟨rfl,hb⟩⟩
def cleanK:List (Nat×HB)->Prop
 | []=>True
 | x::r=>(match x.2.blk with | none=>True | some b=>CleanR b.es)/\cleanK r
theorem uU{k:List (Nat×HB)}:∀{bs:List Nat},cleanK (kpH k bs)->okH (mkH k) (mkH (kpH k bs)) (kpH k bs):=by
 have this:∀(h' : Nat->HB) (bs:List Nat),cleanK (kpH k bs)->okH (mkH k) h' (kpH k bs):=by
  intro h' bs
  induction bs with
  | nil=>intro _;trivial
  | cons r bs ih=>intro h;exact⟨vaI h.1,ih h.2⟩
 intro bs h;exact this _ _ h
theorem ZaD{n:Nat}{l:List (Nat×AV)}{k:List (Nat×HB)}(ks bs:List Nat)(hh:okS (mkH k) (mkH (kpH k bs)) (mkV l) (keepV l ks)/\cleanK (kpH k bs))
  (h:wpA Γ body (Ex.seq (λs'=>UnAt Γ body Q n s' .mk) Q) ⟨mkV (keepV l ks),mkH (kpH k bs)⟩) {t:Tok (Γ,body,Q,n+1)}:UnAt Γ body Q (n+1) ⟨mkV l,mkH k⟩ t:=
 jat _ (ja hh.1 (uU hh.2)) h
theorem Qz(n:Nat){l:List (Nat×AV)}{k:List (Nat×HB)}(ks bs:List Nat)(hh:okS (mkH k) (mkH (kpH k bs)) (mkV l) (keepV l ks)/\cleanK (kpH k bs))
  (h:wpA Γ body (Ex.seq (λs'=>UnAt Γ body Q n s' .mk) Q) ⟨mkV (keepV l ks),mkH (kpH k bs)⟩) {t:Tok (Γ,body,Q)}:LoopAt Γ body Q ⟨mkV l,mkH k⟩ t:=
 ja9 n _ (ja hh.1 (uU hh.2)) h
theorem WC.trans{ρ σ:Nat->Nat}{h h1 h2:Nat->HB}{c1 c2:C}(y:WC σ h1 h2 c1 c2):∀{c:C},WC ρ h h1 c c1->WC (λr=>ρ (σ r)) h h2 c c2:=by
 induction y with
 | any c=>exact λ_=>.any _
 | lit v=>intro c x;cases x;exact .lit v
 | slice es=>
  intro c x;cases x with
  | slice=>exact .slice es
  | es=>exact .es
  | fs=>exact .fs es
 | full es=>intro c x;cases x;exact .full es
 | emp=>intro c x;cases x;exact .emp
 | es=>intro c x;cases x;exact .es
 | fs es=>intro c x;cases x;exact .fs es
 | ref cs=>intro c x;cases x;exact .ref cs
 | own r z off len hne=>intro c x;cases x;exact .own (ρ:=λr=>ρ (σ r)) r z off len hne
 | ptr r i off hne=>intro c x;cases x;exact .ptr (ρ:=λr=>ρ (σ r)) r i off hne
 | clo f l l' hm hl _ ih=>
  intro c x;cases x with
  | clo _ l0 _ hm0 hl0 h0=>
   refine .clo f l0 l' (λe=>hm (hm0 e)) (hl0.trans hl) λi c c' hc hc'=>?_;have hlt:i<l.length:=by rw [<-hl0];exact(List.getElem?_eq_some_iff.1 hc).1
   exact ih i _ c' (List.getElem?_eq_getElem hlt) hc' (h0 i c _ hc (List.getElem?_eq_getElem hlt))
theorem Weak.trans{s s1 s2:S}(x:Weak s s1)(y:Weak s1 s2):Weak s s2:=by
 obtain⟨ρ,x⟩:=x;obtain⟨σ,y⟩:=y;refine⟨λr=>ρ (σ r),λt=>?_,λr=>?_,λr r' e=>y.inj _ _ (x.inj _ _ e),λr hr=>?_⟩
 .have h1:=x.v t;have h2:=y.v t;generalize s.v t=a at h1;generalize s1.v t=a1 at h1 h2;generalize s2.v t=a2 at h2;cases h2 with
  | any=>exact .any _
  | one c c' hc=>cases h1 with | one c0 _ hc0=>exact .one _ _ (hc.trans hc0)
  | agg l l' hl hc=>
   cases h1 with
   | agg l0 _ hl0 hc0=>
    refine .agg _ _ (hl0.trans hl) λi c c' h1 h2=>?_;have hlt:i<l.length:=by rw [<-hl0];exact(List.getElem?_eq_some_iff.1 h1).1
    exact(hc i _ c' (List.getElem?_eq_getElem hlt) h2).trans (hc0 i c _ h1 (List.getElem?_eq_getElem hlt))
 .rcases y.h r with e | ⟨b,b',g1,g2,g3,g4,g5,g6⟩
  .exact .inl e
  .rcases x.h (σ r) with e | ⟨a,a',k1,k2,k3,k4,k5,k6⟩
   .rw [e]at g1;simp at g1
   .rw [g1]at k2;simp only [zOI]at k2;subst k2;refine .inr ⟨a,b',k1,g2,g3.trans k3,g4.trans k4,k5.trans g5,λi e e' h1 h2=>?_⟩;have hlt:i<b.es.length:=by rw [<-k5];exact(List.getElem?_eq_some_iff.1 h1).1
    obtain⟨p1,p2⟩:=k6 i e _ h1 (List.getElem?_eq_getElem hlt);obtain⟨q1,q2⟩:=g6 i _ e' (List.getElem?_eq_getElem hlt) h2;refine⟨p1.trans q1,λj c c' m1 m2=>?_⟩;have hlt2:j<(b.es[i]).length:=by rw [<-p1];exact(List.getElem?_eq_some_iff.1 m1).1
    exact(q2 j _ c' (List.getElem?_eq_getElem hlt2) m2).trans (p2 j c _ m1 (List.getElem?_eq_getElem hlt2))
 .show ρ (σ r)=r;rw [y.pin r hr,x.pin r hr]
def sw(a b r:Nat):Nat:=if r=a then b else if r=b then a else r
theorem xZ(a b r:Nat):sw a b (sw a b r)=r:=by
 unfold sw;by_cases h1:r=a
 .subst h1;by_cases h2:b=r
  .simp [h2]
  .simp [h2]
 .by_cases h2:r=b
  .subst h2;simp [h1]
  .simp [h1,h2]
def swC(a b:Nat):C->C
 | .own r ver z off len=>.own (sw a b r) ver z off len
 | .ptr r ver i off=>.ptr (sw a b r) ver i off
 | .clo _ _=>.any
 | c=>c
def swA(a b:Nat):AV->AV
 | .one c=>.one (swC a b c)
 | .agg l=>.agg (l.map (swC a b))
 | _=>.any
def swB(a b:Nat)(x:HB):HB:=⟨x.ver,x.blk.map λy=>⟨y.es.map λe=>e.map (swC a b),y.z,y.live⟩⟩
def swS(a b:Nat)(s:S):S:=⟨λt=>swA a b (s.v t),λr=>swB a b (s.h (sw a b r))⟩
theorem ZaQ{a b r:Nat}{h:Nat->HB}(hne:(h r).blk≠none):(swB a b (h (sw a b (sw a b r)))).blk≠none:=by
 rw [xZ];unfold swB;cases hb:(h r).blk with
 | none=>exact(hne hb).elim
 | some b=>simp
theorem Uas{a b:Nat}{h:Nat->HB}{c:C}(x:WC id h h c c):WC (sw a b) h (λr=>swB a b (h (sw a b r))) c (swC a b c):=by
 have go:∀c' : C,WC id h h c c'->c' = c->WC (sw a b) h (λr=>swB a b (h (sw a b r))) c (swC a b c):=by
  intro c' y e;cases y with
  | any c0=>subst e;exact .any _
  | lit v=>exact .lit v
  | slice es=>exact .slice es
  | full es=>exact .full es
  | emp=>exact .emp
  | es=>cases e
  | fs es=>cases e
  | ref cs=>exact .ref cs
  | own r z off len hne=>
   have:=WC.own (ρ:=sw a b) (h:=h) (h':=λr=>swB a b (h (sw a b r))) (sw a b r) z off len (ZaQ hne);simp only [xZ]at this;exact this
  | ptr r i off hne=>
   have:=WC.ptr (ρ:=sw a b) (h:=h) (h':=λr=>swB a b (h (sw a b r))) (sw a b r) i off (ZaQ hne);simp only [xZ]at this;exact this
  | clo f l l' hm hl _=>exact .any _
 exact go c x rfl
theorem Waz{a b:Nat}(ha:a<pinA)(hb:b<pinA){s:S}(hv:∀t,WA id s.h s.h (s.v t) (s.v t))(hh:∀r,WB id s.h s.h r):Weak s (swS a b s):=by
 refine⟨sw a b,λt=>?_,λr=>?_,λr r' e=>?_,λr hr=>?_⟩
 .have h1:=hv t;show WA (sw a b) s.h _ (s.v t) (swA a b (s.v t));generalize s.v t=x at h1;cases x with
  | any=>exact .any _
  | tup l=>exact .any _
  | one c=>cases h1 with | one _ _ h=>exact .one _ _ (Uas h)
  | agg l=>
   cases h1 with
   | agg _ _ _ h=>
    refine .agg _ _ (by rw [List.length_map]) λi c c' h1 h2=>?_
    rw [List.getElem?_map,h1]at h2;simp only [Option.map_some,zOI]at h2;subst h2;exact Uas (h i c c h1 h1)
 .show WB (sw a b) s.h _ r;unfold WB;cases hb:(s.h (sw a b r)).blk with
  | none=>left;show(swB a b (s.h (sw a b r))).blk=none;unfold swB;rw [hb];rfl
  | some x=>
   right;refine⟨x,⟨x.es.map λe=>e.map (swC a b),x.z,x.live⟩,rfl,by show(swB a b (s.h (sw a b r))).blk=_;unfold swB;rw [hb];rfl,rfl,rfl,by simp,λi e e' h1 h2=>?_⟩
   simp only [List.getElem?_map,h1,Option.map_some,zOI]at h2;subst h2;refine⟨by simp,λj c c' h3 h4=>?_⟩
   rw [List.getElem?_map,h3]at h4;simp only [Option.map_some,zOI]at h4;subst h4;rcases hh (sw a b r) with g | ⟨y,y',g1,g2,_,_,_,g6⟩
   .rw [hb]at g;simp at g
   .simp only [id]at g1;rw [hb]at g1 g2;simp only [zOI]at g1 g2;subst g1;subst g2;exact Uas ((g6 i e e h1 h1).2 j c c h3 h3)
 .have:=congrArg (sw a b) e
  rwa [xZ,xZ]at this
 .unfold sw;rw [if_neg (by omega),if_neg (by omega)]
theorem WC.self{ρ:Nat->Nat}{h h' : Nat->HB}{c c' : C}(x:WC ρ h h' c c'):WC id h' h' c' c':=by
 induction x with
 | any c=>exact .any _
 | lit v=>exact .lit v
 | slice es=>exact .slice es
 | full es=>exact .full es
 | emp=>exact .emp
 | es=>exact .slice []
 | fs es=>exact .slice es
 | ref cs=>exact .ref cs
 | own r z off len hne=>exact .own (ρ:=id) r z off len hne
 | ptr r i off hne=>exact .ptr (ρ:=id) r i off hne
 | clo f l l' hm hl _ ih=>
  refine .clo f l' l' id rfl λi c c' h1 h2=>?_;rw [h1]at h2;simp only [zOI]at h2;subst h2;have hlt:i<l.length:=by rw [hl];exact(List.getElem?_eq_some_iff.1 h1).1
  exact ih i _ c (List.getElem?_eq_getElem hlt) h1
theorem WeakR.selfV{ρ:Nat->Nat}{s s' : S}(x:WeakR ρ s s')(t:Nat):WA id s'.h s'.h (s'.v t) (s'.v t):=by
 have h1:=x.v t;generalize s.v t=a at h1;generalize s'.v t=a' at h1;cases h1 with
 | any=>exact .any _
 | one c c' h=>exact .one _ _ h.self
 | agg l l' hl h=>
  refine .agg _ _ rfl λi c c' h1 h2=>?_;rw [h1]at h2;simp only [zOI]at h2;subst h2;have hlt:i<l.length:=by rw [hl];exact(List.getElem?_eq_some_iff.1 h1).1
  exact(h i _ c (List.getElem?_eq_getElem hlt) h1).self
theorem WeakR.selfH{ρ:Nat->Nat}{s s' : S}(x:WeakR ρ s s')(r:Nat):WB id s'.h s'.h r:=by
 rcases x.h r with e | ⟨b,b',g1,g2,g3,g4,g5,g6⟩
 .exact .inl e
 .refine .inr ⟨b',b',g2,g2,rfl,rfl,rfl,λi e e' h1 h2=>?_⟩;rw [h1]at h2;simp only [zOI]at h2;subst h2;refine⟨rfl,λj c c' h3 h4=>?_⟩;rw [h3]at h4;simp only [zOI]at h4;subst h4;have hlt:i<b.es.length:=by rw [g5];exact(List.getElem?_eq_some_iff.1 h1).1
  obtain⟨p1,p2⟩:=g6 i _ e (List.getElem?_eq_getElem hlt) h1;have hlt2:j<(b.es[i]).length:=by rw [p1];exact(List.getElem?_eq_some_iff.1 h3).1
  exact(p2 j _ c (List.getElem?_eq_getElem hlt2) h3).self
def swL(a b:Nat)(l:List (Nat×AV)):List (Nat×AV):=l.map λx=>(x.1,swA a b x.2)
def swK(a b:Nat)(k:List (Nat×HB)):List (Nat×HB):=k.map λx=>(sw a b x.1,swB a b x.2)
theorem xas(a b:Nat):∀(l:List (Nat×AV)) (t:Nat),mkV (swL a b l) t=swA a b (mkV l t)
 | [],t=>rfl
 | x::l,t=>by
  have ih:=xas a b l t;simp only [swL,mkV,List.map_cons,find]at ih ⊢;split
  .rfl
  .exact ih
theorem YaE(a b:Nat):∀(k:List (Nat×HB)) (r:Nat),mkH (swK a b k) r=swB a b (mkH k (sw a b r))
 | [],r=>rfl
 | x::k,r=>by
  have ih:=YaE a b k r;simp only [swK,mkH,List.map_cons,find]at ih ⊢;by_cases e:r=sw a b x.1
  .rw [if_pos e,if_pos (by rw [e,xZ])]
  .rw [if_neg e,if_neg (λh=>e (by rw [<-h,xZ]))]
   exact ih
theorem Vbe{a b:Nat}(ha:a<pinA/\b<pinA){v:Nat->AV}{h:Nat->HB}{l:List (Nat×AV)}{k:List (Nat×HB)}(hh:okS h (mkH k) v l/\okH h (mkH k) k):Weak ⟨v,h⟩ ⟨mkV (swL a b l),mkH (swK a b k)⟩:=by
 have w:=UU hh.1 hh.2;have e:swS a b ⟨mkV l,mkH k⟩=⟨mkV (swL a b l),mkH (swK a b k)⟩:=by
  unfold swS;congr 1
  .funext t;exact(xas a b l t).symm
  .funext r;exact(YaE a b k r).symm
 rw [<-e];exact Weak.trans ⟨id,w⟩ (Waz ha.1 ha.2 w.selfV w.selfH)
theorem jaO(v:Value):nrmC (.lit v)=.lit v:=eq_of_heq (HEq.refl _)
theorem QaO(es:List (List C)):nrmC (.slice es)=.slice es:=eq_of_heq (HEq.refl _)
theorem qaR:nrmC .emp=.slice []:=eq_of_heq (HEq.refl _)
theorem yaU(e:List C)(l:List (List C)):nrmR (e::l)=e.map nrmC::nrmR l:=eq_of_heq (HEq.refl _)
theorem kaS:nrmR []=[]:=eq_of_heq (HEq.refl _)
attribute [go_sem,go_sem ↓] jaO QaO qaR yaU kaS
attribute [go_sem] ka6 ybh okS okV okC cleanK uaK YaK ZaM yaK yF xB
attribute [go_sem ↓] ka6 ybh
theorem Ubj(a b t:Nat)(v:AV)(l:List (Nat×AV)):swL a b ((t,v)::l)=(t,swA a b v)::swL a b l:=eq_of_heq (HEq.refl _)
theorem jbl(a b:Nat):swL a b []=[]:=eq_of_heq (HEq.refl _)
theorem zbn(a b r:Nat)(v:HB)(k:List (Nat×HB)):swK a b ((r,v)::k)=(sw a b r,swB a b v)::swK a b k:=eq_of_heq (HEq.refl _)
theorem Ybj(a b:Nat):swK a b []=[]:=eq_of_heq (HEq.refl _)
theorem Zbj(a b r:Nat):sw a b r=if r=a then b else if r=b then a else r:=eq_of_heq (HEq.refl _)
theorem Vbm(a b:Nat)(c:C):swA a b (.one c)=.one (swC a b c):=eq_of_heq (HEq.refl _)
theorem Qbl(a b:Nat)(l:List C):swA a b (.agg l)=.agg (l.map (swC a b)):=eq_of_heq (HEq.refl _)
theorem vbl(a b:Nat):swA a b .any=.any:=eq_of_heq (HEq.refl _)
theorem ybm(a b r ver z off len:Nat):swC a b (.own r ver z off len)=.own (sw a b r) ver z off len:=eq_of_heq (HEq.refl _)
theorem wbj(a b r ver i off:Nat):swC a b (.ptr r ver i off)=.ptr (sw a b r) ver i off:=eq_of_heq (HEq.refl _)
theorem Xbm(a b:Nat)(v:Value):swC a b (.lit v)=.lit v:=eq_of_heq (HEq.refl _)
theorem ubl(a b:Nat)(es:List (List C)):swC a b (.slice es)=.slice es:=eq_of_heq (HEq.refl _)
theorem Ybk(a b:Nat)(es:List (List C)):swC a b (.full es)=.full es:=eq_of_heq (HEq.refl _)
theorem ubi(a b:Nat):swC a b .emp=.emp:=eq_of_heq (HEq.refl _)
theorem jbj(a b:Nat)(cs:List C):swC a b (.ref cs)=.ref cs:=eq_of_heq (HEq.refl _)
theorem Xbk(a b:Nat):swC a b .any=.any:=eq_of_heq (HEq.refl _)
def swR(a b:Nat)(es:List (List C)):List (List C):=es.map λe=>e.map (swC a b)
theorem ubk(a b:Nat)(e:List C)(es:List (List C)):swR a b (e::es)=e.map (swC a b)::swR a b es:=eq_of_heq (HEq.refl _)
theorem qbk(a b:Nat):swR a b []=[]:=eq_of_heq (HEq.refl _)
theorem xbm(a b ver z:Nat)(es:List (List C))(live:Bool):swB a b ⟨ver,some ⟨es,z,live⟩⟩=⟨ver,some ⟨swR a b es,z,live⟩⟩:=eq_of_heq (HEq.refl _)
theorem Vbl(a b ver:Nat):swB a b ⟨ver,none⟩=⟨ver,none⟩:=eq_of_heq (HEq.refl _)
theorem waA(r ver z off len:Nat):Clean (.own r ver z off len)=False:=eq_false λh=>by cases h
theorem wau(r ver i off:Nat):Clean (.ptr r ver i off)=False:=eq_false λh=>by cases h
attribute [go_sem] Ubj jbl zbn Ybj Zbj Vbm Qbl vbl ybm wbj Xbm ubl Ybk ubi jbj Xbk ubk qbk xbm Vbl waA wau
end Go.Abs
end
section
namespace Go.Abs
variable {P:Program} {Γ:Nat->Spec}
end Go.Abs
end
section
namespace Go.Abs
variable {P:Program} {E:Env} {s:S} {a:Act} {w:World} {m m' : M} {I:Nat->Prop} {π π' : Nat->Nat}
mutual
def rn(π:Nat->Nat):C->C
 | .own r ver z off len=>.own (π r) ver z off len
 | .ptr r ver i off=>.ptr (π r) ver i off
 | .clo f caps=>.clo f (rnL π caps)
 | .lit v=>.lit v
 | .slice es=>.slice es
 | .full es=>.full es
 | .emp=>.emp
 | .ref cs=>.ref cs
 | .any=>.any
def rnL(π:Nat->Nat):List C->List C
 | []=>[]
 | c::l=>rn π c::rnL π l
end
theorem qw:∀(l:List C),rnL π l=l.map (rn π)
 | []=>by simp only [rnL,List.map_nil]
 | c::l=>by simp only [rnL,List.map_cons,qw l]
theorem qag{c:C}(h:Clean c):rn π c=c:=by
 induction h with
 | clo f cs _ ih=>
  simp only [rn,qw];congr 1;rw [List.map_congr_left (λc hc=>ih c hc),List.map_id']
 | _=>simp only [rn]
theorem RC.rn{H:Array Obj}(hv:∀r,m'.ver (π r)=m.ver r)(hb:∀r,m'.blk (π r)=m.blk r){c:C}{v:Value}(h:RC m I H c v):RC m' I H (Abs.rn π c) v:=by
 induction h with
 | lit v hv=>simp only [Abs.rn];exact .lit v hv
 | any v hv=>simp only [Abs.rn];exact .any v hv
 | snil a cap=>simp only [Abs.rn];exact .snil a cap
 | slice es sz b off cap arr ty fz vs h0 h1 h1' h2 h3 h4 h5 _ ih=>
  simp only [Abs.rn];refine .slice es sz b off cap arr ty fz vs h0 h1 h1' h2 h3 h4 h5 (λi j e c he hc=>?_);have:=ih i j e c he hc
  rwa [qag (h0 e (List.mem_of_getElem? he) c (List.mem_of_getElem? hc))]at this
 | full es a _ ih=>simp only [Abs.rn]at ih ⊢;exact .full es a ih
 | emp a=>simp only [Abs.rn];exact .emp a
 | own r ver z off len cap a h1 h2 h3 h4 h5 h6=>
  simp only [Abs.rn];exact .own (π r) ver z off len cap a (by rw [hv];exact h1) h2 (λe b z' hb'=>h3 (by rw [e,hv]) b z' (by rw [<-hb];exact hb')) (λe hb'=>h4 (by rw [e,hv]) (by rw [<-hb];exact hb')) h5 h6
 | ptr r ver i off a h1 h2=>
  simp only [Abs.rn];exact .ptr (π r) ver i off a (by rw [hv];exact h1) (λe b z hb'=>h2 (by rw [e,hv]) b z (by rw [<-hb];exact hb'))
 | ref cs b off arr ty fz vs h0 h1 h2 h3 _ ih=>
  simp only [Abs.rn];refine .ref cs b off arr ty fz vs h0 h1 h2 h3 (λj c hc=>?_);have:=ih j c hc
  rwa [qag (h0 c (List.mem_of_getElem? hc))]at this
 | clo f caps cv h1 _ ih=>
  simp only [Abs.rn,qw];refine .clo f _ cv (by simpa using h1) (λi c v hc hv'=>?_)
  simp only [List.getElem?_map,zOM]at hc;obtain⟨c0,hc0,rfl⟩:=hc;exact ih i c0 v hc0 hv'
 | bnd f caps cv h1 _ ih=>
  simp only [Abs.rn,rnL,qw];refine .bnd f _ cv (by simpa using h1) (λi c v hc hv'=>?_)
  simp only [List.getElem?_map,zOM]at hc;obtain⟨c0,hc0,rfl⟩:=hc;exact ih i c0 v hc0 hv'
mutual
def rnA(π:Nat->Nat):AV->AV
 | .one c=>.one (rn π c)
 | .agg cs=>.agg (cs.map (rn π))
 | .tup l=>.tup (rnAL π l)
 | .any=>.any
def rnAL(π:Nat->Nat):List AV->List AV
 | []=>[]
 | x::l=>rnA π x::rnAL π l
end
theorem U7:∀(l:List AV),rnAL π l=l.map (rnA π)
 | []=>by simp only [rnAL,List.map_nil]
 | c::l=>by simp only [rnAL,List.map_cons,U7 l]
theorem RA.rn{H:Array Obj}(hv:∀r,m'.ver (π r)=m.ver r)(hb:∀r,m'.blk (π r)=m.blk r){x:AV}{v:Value}(h:RA m I H x v):RA m' I H (rnA π x) v:=by
 induction h with
 | any v=>simp only [rnA];exact .any v
 | one c v h=>simp only [rnA];exact .one _ _ (h.rn hv hb)
 | agg cs vs h=>
  simp only [rnA];refine .agg _ vs ⟨by simpa using h.1,λi c v hc hv'=>?_⟩
  simp only [List.getElem?_map,zOM]at hc;obtain⟨c0,hc0,rfl⟩:=hc;exact(h.2 i c0 v hc0 hv').rn hv hb
 | tup l vs h1 _ ih=>
  simp only [rnA,U7];refine .tup _ vs (by simpa using h1) (λi x v hx hv'=>?_)
  simp only [List.getElem?_map,zOM]at hx;obtain⟨x0,hx0,rfl⟩:=hx;exact ih i x0 v hx0 hv'
def rnR(π:Nat->Nat)(es:List (List C)):List (List C):=es.map λe=>e.map (rn π)
def rnB(π:Nat->Nat)(b:Blk):Blk:=⟨rnR π b.es,b.z,b.live⟩
def rnH(π π' : Nat->Nat)(h:Nat->HB):Nat->HB:=λr=>⟨(h (π' r)).ver,(h (π' r)).blk.map (rnB π)⟩
def rnS(π π' : Nat->Nat)(s:S):S:=⟨λt=>rnA π (s.v t),rnH π π' s.h⟩
structure Bij (π π' : Nat->Nat):Prop where
 l:∀r,π' (π r)=r
 r:∀r,π (π' r)=r
 fix:∀r,pinA<=r->π r=r
theorem Bij.fix'(b:Bij π π'){r:Nat}(h:pinA<=r):π' r=r:=by
 have:=b.l r
 rwa [b.fix r h]at this
theorem Sim.rn(b:Bij π π')(h:Sim E s a w m I):Sim E (rnS π π' s) a w ⟨λr=>m.ver (π' r),λr=>m.blk (π' r)⟩ I:=by
  have hv:∀r,(M.mk (λr=>m.ver (π' r)) (λr=>m.blk (π' r))).ver (π r)=m.ver r:=λr=>by simp only [b.l]
  have hb:∀r,(M.mk (λr=>m.ver (π' r)) (λr=>m.blk (π' r))).blk (π r)=m.blk r:=λr=>by simp only [b.l]
  have inv:∀{r:Nat} {x:Blk},(rnH π π' s.h r).blk=some x->∃y,(s.h (π' r)).blk=some y/\x=rnB π y:=by
    intro r x hx;simp only [rnH,zOM]at hx;obtain⟨y,h1,h2⟩:=hx;exact⟨y,h1,h2.symm⟩
  refine⟨h.dfr,h.siz,λt=>(h.slot t).rn hv hb,{ h.heap with
    ver:=λr=>h.heap.ver (π' r),blk:=λr x hx=>?_,inj:=λr r' k z z' h1 h2=>?_,lt:=λr k z hm=>h.heap.lt (π' r) k z hm,liv:=λr x k z hx hm=>?_,fx:=λr x hp hx=>?_ }⟩
  . obtain⟨y,hy,rfl⟩:=inv hx
    have hrb:=h.heap.blk _ y hy;refine⟨λe he=>?_,λhm=>?_,λk z hm=>?_⟩
    . simp only [rnB,rnR,List.mem_map]at he
      obtain⟨e0,he0,rfl⟩:=he;rw [List.length_map];exact hrb.sz e0 he0
    . have:=hrb.virt hm
      simp only [rnB,rnR,this,List.map_nil]
    . obtain⟨g1,g2,g3,arr,ty,g4,g5⟩:=hrb.real k z hm
      refine⟨g1,g2,g3,arr,ty,g4,λi j e c he hc=>?_⟩;simp only [rnB,rnR,List.getElem?_map,zOM]at he;obtain⟨e0,he0,rfl⟩:=he;simp only [List.getElem?_map,zOM]at hc;obtain⟨c0,hc0,rfl⟩:=hc;obtain⟨v,q1,q2⟩:=g5 i j e0 c0 he0 hc0;exact⟨v,q1,q2.rn hv hb⟩
  . have:=h.heap.inj _ _ k z z' h1 h2
    rw [<-b.r r,<-b.r r',this]
  . obtain⟨y,hy,rfl⟩:=inv hx
    exact h.heap.liv _ y k z hy hm
  . obtain⟨y,hy,rfl⟩:=inv hx
    rw [b.fix' hp]at hy;have:=h.heap.fx r y hp hy;simp only [b.fix' hp];exact this
end Go.Abs
end
