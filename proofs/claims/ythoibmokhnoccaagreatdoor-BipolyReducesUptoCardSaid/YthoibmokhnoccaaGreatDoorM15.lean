/-
  Parts of the proof, merged: IntC, IntD, IntE, IntF, IntG, IntH, IntK, PolyS, PolyU.
-/
import Derived.Test.YthoibmokhnoccaaGreatDoorM14
import Derived.Lib.BitFns
set_option linter.unusedVariables false
set_option linter.unusedSimpArgs false
set_option maxRecDepth 100000
section
namespace Go.Abs
open Go.Num
variable {P:Program} {Γ:Nat->Spec}
def Vp:AC:=(.o [.m 2 (.c (.one .emp))] [0] (.o [.M 4 0,.Z 5 4,.M 3 5] [0,3] (.f (.block 0 (.loop (.f (.o [.M 6 3,.I 7 .gtr 6 0,.M 8 7,.V 9 8 true 0,.V 10 8 true 3,.w 11 8 true (.bin .sub (.t 10) (.i 1)),.w 12 8 true (.idx 1 (.t 9) (.t 11)),.U 13 8 true 1 false 12,.w 14 8 true (.bin .eql (.t 13) (.c (.one (.lit (.int .u32 0))))),.P 15 8 14] [0,3,15] (.cond (.t 15) .skip (.exit 0))) [0,3] (.block 1 (.p [.M 16 3,.I 17 .sub 16 1,.M 3 17]))))) [0,3] (.f (.o [.M 18 3,.I 19 .eql 18 0] [0,3,19] (.cond (.t 19) (.seq (.p [.m 2 (.c (.one .emp))]) .ret) .skip)) [0,3] (.seq (.p [.m 20 (.c (.one .emp)),.M 21 0,.M 22 3,.u 23 (.sl 1 (.t 21) none (some (.t 22))),.u 24 (.app0 1 (.t 20) (.t 23)),.M 2 24]) .ret)))))
def jl:AC:=(.o [.m 4 (.c (.one (.lit (.int .u64 0))))] [0,1] (.f (.o [.M 5 1,.M 6 0,.Z 7 6,.B 8 .lss 5 7] [0,1,8] (.cond (.t 8) (.seq (.p [.M 9 0,.M 10 1,.J 11 1 9 10,.F 12 1 11,.u 13 (.conv .u64 (.t 12)),.M 4 13]) .ret) .skip)) [] (.seq (.p [.m 4 (.c (.one (.lit (.int .u64 0))))]) .ret)))
def Qq(f0 f1:Nat):AC:=(.o [.m 4 (.c (.one .emp))] [0,1] (.o [.M 8 0,.Z 9 8,.M 10 1,.Z 11 10,.u 12 (.max [(.t 9),(.t 11)]),.I 13 .add 12 1,.u 14 (.mk 1 [(.lit (.int .u32 0))] (.t 13) (.t 13)),.M 5 14] [0,1,5] (.o [.m 6 (.c (.one (.lit (.int .u64 0))))] [0,1,5,6] (.f (.o [.M 15 5,.Z 16 15,.N 17 0] [0,1,5,6,16,17] (.block 0 (.loop (.o [.B 18 .lss 17 16] [0,1,5,6,16,17,18] (.f (.cond (.t 18) .skip (.exit 0)) [0,1,5,6,16,17] (.f (.block 1 (.o [.M 19 17,.M 7 19] [0,1,5,6,7,16,17] (.o [.M 20 6,.M 21 0,.M 22 7,.D 23 f0 21 22,.M 24 1,.M 25 7,.D 26 f0 24 25,.B 27 .add 23 26,.B 28 .add 20 27,.M 6 28] [0,1,5,6,7,16,17] (.o [.M 29 5,.M 30 7,.M 31 6,.u 32 (.conv .u32 (.t 31)),.J 33 1 29 30,.S 1 33 32] [0,1,5,6,16,17] (.p [.M 34 6,.u 35 (.bin .shr (.t 34) (.c (.one (.lit (.int .u64 32))))),.M 6 35]))))) [0,1,5,6,16,17] (.p [.I 36 .add 17 1,.M 17 36]))))))) [5] (.seq (.p [.M 37 5,.H 38 f1 37,.M 4 38]) .ret)))))
theorem zaw(hΓ:Holds P Γ){f:Nat}(hc:check P f=some (25,Vp.strip,[.tmp 2])):Sound P f (.dat false wv):=by
 refine Qa hc WaJ hΓ (λargs K hcl hfi hG=>?_);match args,hG with
 | [a],hG=>
  obtain⟨l,rfl,hl,hlen,hK⟩:=hG;refine⟨by simp,?_⟩
  simp only [go_sem,Vp];intro hmax;refine ja (λn:Nat=>⟨mkV [(0,wsA l),(3,.one (.lit (.int .i64 n)))],mkH []⟩) (λn=>n<=l.length/\val (l.take n)=val l) id l.length ?_ ?_ ?_
  .exact za (by simp [bitvec_to_nat]) trivial
  .simp
  .rintro n ⟨hn,ht⟩;simp only [go_sem];refine⟨λh=>⟨by omega,by omega,by omega,λh0=>⟨by omega,n-1,za (by simp [bitvec_to_nat];omega) trivial,⟨by omega,?_⟩,?_⟩,λh0=>⟨λh1=>by omega,λ_=>⟨by omega,by simp;omega,?_⟩⟩⟩,λh=>⟨λh1=>?_,λh1=>by omega⟩⟩
   .rw [show((n:Int)-1).toNat=n-1 by omega]at h0
    have:=Vb l (n-1);rw [show n-1+1=n by omega,h0,Nat.mul_zero,Nat.add_zero]at this
    rw [<-this];exact ht
   .simp only [id];omega
   .rw [show((n:Int)-1).toNat=n-1 by omega]at h0
    have:=Wd (vu hl n) (JH h hn h0);rw [<-this,ht];exact hK
   .subst h1;have:val l=0:=by rw [<-ht];simp [val]
    rw [this,Zb]at hK;exact hK
theorem wQ(hΓ:Holds P Γ){f:Nat}(hc:check P f=some (14,jl.strip,[.tmp 4])):Sound P f (.dat true Qn):=by
 refine Qa hc vaN hΓ (λargs K hcl hfi hG=>?_);match args,hG with
 | [a,b],hG=>
  obtain⟨l,rfl,hl,hG⟩:=hG;obtain⟨k,i,rfl,rfl,hi,hK⟩:=Xa hG;refine⟨by simp,?_⟩
  simp only [go_sem,jl];intro hmax;refine⟨λh=>⟨hi,by omega,?_⟩,λh=>?_⟩
  .have:=Qb hl i.toNat;rw [Nat.mod_eq_of_lt (by omega)];exact hK
  .rw [List.getD_eq_getElem?_getD,List.getElem?_eq_none (by omega)]at hK;exact hK
theorem yaw(hΓ:Holds P Γ){f fw ft:Nat}(hw:Γ fw=.dat true Qn)(ht:Γ ft=.dat false wv)(hc:check P f=some (39,(Qq fw ft).strip,[.tmp 4])):Sound P f (.dat false Qt):=by
 refine Qa hc X7 hΓ (λargs K hcl hfi hG=>?_);match args,hG with
 | [a,b],hG=>
  obtain⟨x,rfl,hx,y,rfl,hy,hxl,hyl,hK⟩:=hG;refine⟨by simp,?_⟩
  simp only [go_sem,Qq,hw,ht];intro h1 h2;refine⟨by omega,by omega,λhN=>?_⟩
  generalize hNN:max x.length y.length+1=N at hN;refine ja (λp:List Nat×Nat=>⟨mkV [(0,wsA x),(1,wsA y),(5,.one (.own 14 1 1 0 N)),(6,.one (.lit (.int .u64 p.2))),(16,.one (.lit (.int .i64 N))),(17,.one (.lit (.int .i64 p.1.length)))],mkH [(14,⟨1,some ⟨(p.1++List.replicate (N-p.1.length) 0).map wc,1,true⟩⟩)]⟩)
   (λp=>p.1.length<=N/\WL p.1/\p.2<=1/\val p.1+4294967296 ^ p.1.length*p.2=val (x.take p.1.length)+val (y.take p.1.length)) (λp=>N-p.1.length) ([],0) ?_ ?_ ?_
  .exact za (by simp [bitvec_to_nat]) (kf (by simp))
  .simp [Ub,val]
  .rintro⟨o,c⟩ ⟨hoN,ho,hc1,hval⟩;simp only at hoN ho hc1 hval;have hlen:(o++List.replicate (N-o.length) 0).length=N:=by simp;omega
   simp only [go_sem,hw,ht,hlen];refine⟨λhlt=>⟨hx,hy,hlt,hlt,by omega,by omega,?_⟩,λhge=>?_⟩
   .have g1:=Qb hx o.length;have g2:=Qb hy o.length;rw [Nat.mod_eq_of_lt (show x.getD o.length 0+y.getD o.length 0<18446744073709551616 by omega),Nat.mod_eq_of_lt (show c+(x.getD o.length 0+y.getD o.length 0)<18446744073709551616 by omega)]
    generalize hs:c+(x.getD o.length 0+y.getD o.length 0)=s;refine⟨(o++[s % 4294967296],s / 4294967296),za (by simp [bitvec_to_nat]) (kf ?_),⟨by simp;omega,Je.2 ⟨ho,Xb.2 ⟨Nat.mod_lt _ (by omega),Ub⟩⟩,by simp only;omega,?_⟩,by simp;omega⟩
    .rw [show N-o.length=N-(o.length+1)+1 by omega,zag];simp
    .simp only [List.length_append,List.length_cons,List.length_nil,Nat.zero_add,Vb,Yb,qi,Zm,Nat.mul_zero,Nat.add_zero,Nat.pow_succ];rw [Nat.mul_assoc,Nat.add_assoc,<-Nat.mul_add,Nat.mod_add_div,<-hs,Nat.mul_add,<-Nat.add_assoc,hval,Nat.mul_add];omega
   .have e:o.length=N:=by omega
    simp only [e,Nat.sub_self,List.replicate_zero,List.append_nil,Nat.le_refl,if_true,jE];have hv:val o=val x+val y:=by
     rw [e,Zi (by omega),Zi (by omega)]at hval
     exact Zal hx hy (by omega) (by omega) (by omega) hval
    refine⟨ho,by omega,?_⟩
    rw [hv];exact hK
end Go.Abs
end
section
namespace Go.Abs
open Go.Num
variable {P:Program} {Γ:Nat->Spec}
def yp(f0 f1:Nat):AC:=(.o [.m 4 (.c (.one .emp))] [0,1] (.o [.M 9 0,.Z 10 9,.u 11 (.mk 1 [(.lit (.int .u32 0))] (.t 10) (.t 10)),.M 5 11] [0,1,5] (.o [.m 6 (.c (.one (.lit (.int .u64 0))))] [0,1,5,6] (.f (.o [.M 12 5,.Z 13 12,.N 14 0] [0,1,5,6,13,14] (.block 0 (.loop (.o [.B 15 .lss 14 13] [0,1,5,6,13,14,15] (.f (.cond (.t 15) .skip (.exit 0)) [0,1,5,6,13,14] (.f (.block 1 (.o [.M 16 14,.M 7 16] [0,1,5,6,7,13,14] (.f (.y [.M 17 0,.M 18 7,.J 19 1 17 18,.F 20 1 19,.u 21 (.conv .u64 (.t 20)),.M 22 1,.M 23 7,.D 24 f0 22 23,.B 25 .sub 21 24,.M 26 6,.B 27 .sub 25 26,.M 8 27]) [0,1,5,7,8,13,14] (.o [.M 28 5,.M 29 7,.M 30 8,.u 31 (.conv .u32 (.t 30)),.J 32 1 28 29,.S 1 32 31] [0,1,5,8,13,14] (.p [.M 33 8,.u 34 (.bin .shr (.t 33) (.c (.one (.lit (.int .u64 63))))),.M 6 34]))))) [0,1,5,6,13,14] (.p [.I 35 .add 14 1,.M 14 35]))))))) [5] (.seq (.p [.M 36 5,.H 37 f1 36,.M 4 37]) .ret)))))
def Wk:AC:=(.o [.N 4 0] [0,1] (.f (.o [.M 6 0,.Z 7 6,.M 8 1,.Z 9 8,.B 10 .neq 7 9] [0,1,10] (.cond (.t 10) (.f (.o [.M 11 0,.Z 12 11,.M 13 1,.Z 14 13,.B 15 .lss 12 14] [15] (.cond (.t 15) (.seq (.p [.N 4 (-1)]) .ret) .skip)) [] (.seq (.p [.N 4 1]) .ret)) .skip)) [0,1] (.f (.o [.M 16 0,.Z 17 16,.I 18 .sub 17 1,.M 5 18] [0,1,5] (.block 0 (.loop (.f (.o [.M 19 5,.I 20 .geq 19 0] [0,1,5,20] (.cond (.t 20) .skip (.exit 0))) [0,1,5] (.f (.block 1 (.f (.y [.M 23 0,.M 24 5,.J 25 1 23 24,.F 26 1 25,.M 27 1,.M 28 5,.J 29 1 27 28,.F 30 1 29,.B 31 .neq 26 30]) [0,1,5,31] (.cond (.t 31) (.f (.f (.y [.M 32 0,.M 33 5,.J 34 1 32 33,.F 35 1 34,.M 36 1,.M 37 5,.J 38 1 36 37,.F 39 1 38,.B 40 .lss 35 39]) [40] (.cond (.t 40) (.seq (.p [.N 4 (-1)]) .ret) .skip)) [] (.seq (.p [.N 4 1]) .ret)) .skip))) [0,1,5] (.p [.M 21 5,.I 22 .sub 21 1,.M 5 22])))))) [] (.seq (.p [.N 4 0]) .ret))))
def kn(f0:Nat):AC:=(.o [.m 4 (.c (.one .emp)),.m 5 (.c (.one (.lit (.int .u32 0))))] [0,1] (.o [.M 9 0,.Z 10 9,.u 11 (.mk 1 [(.lit (.int .u32 0))] (.t 10) (.t 10)),.M 6 11] [0,1,6] (.o [.m 7 (.c (.one (.lit (.int .u64 0))))] [0,1,6,7] (.f (.o [.M 12 0,.Z 13 12,.I 14 .sub 13 1,.M 8 14] [0,1,6,7,8] (.block 0 (.loop (.f (.o [.M 15 8,.I 16 .geq 15 0] [0,1,6,7,8,16] (.cond (.t 16) .skip (.exit 0))) [0,1,6,7,8] (.f (.block 1 (.o [.M 19 7,.u 20 (.bin .shl (.t 19) (.c (.one (.lit (.int .u64 32))))),.M 21 0,.M 22 8,.J 23 1 21 22,.F 24 1 23,.u 25 (.conv .u64 (.t 24)),.B 26 .or 20 25,.M 7 26] [0,1,6,7,8] (.o [.M 27 6,.M 28 8,.M 29 7,.M 30 1,.u 31 (.conv .u64 (.t 30)),.B 32 .quo 29 31,.u 33 (.conv .u32 (.t 32)),.J 34 1 27 28,.S 1 34 33] [0,1,6,7,8] (.p [.M 35 7,.M 36 1,.u 37 (.conv .u64 (.t 36)),.B 38 .rem 35 37,.M 7 38])))) [0,1,6,7,8] (.p [.M 17 8,.I 18 .sub 17 1,.M 8 18])))))) [6,7] (.seq (.p [.M 39 6,.H 40 f0 39,.M 41 7,.u 42 (.conv .u32 (.t 41)),.M 4 40,.M 5 42]) .ret)))))
theorem Yay(hΓ:Holds P Γ){f fw ft:Nat}(hw:Γ fw=.dat true Qn)(ht:Γ ft=.dat false wv)(hc:check P f=some (38,(yp fw ft).strip,[.tmp 4])):Sound P f (.dat false yv):=by
 refine Qa hc Q9 hΓ (λargs K hcl hfi hG=>?_);match args,hG with
 | [a,b],hG=>
  obtain⟨x,rfl,hx,y,rfl,hy,hxl,hle,hK⟩:=hG;refine⟨by simp,?_⟩
  simp only [go_sem,yp,hw,ht];intro h1;refine⟨by omega,λ_=>?_⟩
  generalize hN:x.length=N at h1 hxl;refine ja (λp:List Nat×Nat=>⟨mkV [(0,wsA x),(1,wsA y),(5,.one (.own 11 1 1 0 N)),(6,.one (.lit (.int .u64 p.2))),(13,.one (.lit (.int .i64 N))),(14,.one (.lit (.int .i64 p.1.length)))],mkH [(11,⟨1,some ⟨(p.1++List.replicate (N-p.1.length) 0).map wc,1,true⟩⟩)]⟩)
   (λp=>p.1.length<=N/\WL p.1/\p.2<=1/\val p.1+val (y.take p.1.length)=val (x.take p.1.length)+4294967296 ^ p.1.length*p.2) (λp=>N-p.1.length) ([],0) ?_ ?_ ?_
  .exact za (by simp [bitvec_to_nat]) (kf (by simp))
  .simp [Ub,val]
  .rintro⟨o,c⟩ ⟨hoN,ho,hc1,hval⟩;simp only at hoN ho hc1 hval;have hlen:(o++List.replicate (N-o.length) 0).length=N:=by simp;omega
   simp only [go_sem,hw,ht,hlen];refine⟨λhlt=>⟨by omega,hy,hlt,hlt,by omega,by omega,?_⟩,λhge=>?_⟩
   .have g1:=Qb hx o.length;have g2:=Qb hy o.length;rw [Nat.mod_eq_of_lt (show x.getD o.length 0<18446744073709551616 by omega)]
    obtain⟨s1,s2⟩:=Xao g1 g2 hc1;generalize sub64 (sub64 (x.getD o.length 0) (y.getD o.length 0)) c=s at s1 s2;refine⟨(o++[s % 4294967296],s / 9223372036854775808),za (by simp [bitvec_to_nat]) (kf ?_),⟨by simp;omega,Je.2 ⟨ho,Xb.2 ⟨Nat.mod_lt _ (by omega),Ub⟩⟩,s2,?_⟩,by simp;omega⟩
    .rw [show N-o.length=N-(o.length+1)+1 by omega,zag];simp
    .simp only [List.length_append,List.length_cons,List.length_nil,Nat.zero_add,Vb,Yb,qi,Zm,Nat.mul_zero,Nat.add_zero,Nat.pow_succ];exact XF hval s1
   .have e:o.length=N:=by omega
    have hv:=uE ho hx (by omega) hle hval
    simp only [e,Nat.sub_self,List.replicate_zero,List.append_nil];refine⟨ho,by omega,?_⟩
    rw [hv];exact hK
theorem qU(hΓ:Holds P Γ){f:Nat}(hc:check P f=some (41,Wk.strip,[.tmp 4])):Sound P f (.dat false Zn):=by
 refine Qa hc Z6 hΓ (λargs K hcl hfi hG=>?_);match args,hG with
 | [a,b],hG=>
  obtain⟨x,rfl,hx,y,rfl,hy,hzx,hzy,hK⟩:=hG;refine⟨by simp,?_⟩
  simp only [go_sem,Wk];intro h1 h2;refine⟨λhl _=>⟨by omega,?_⟩,λhne _ _=>⟨λhlt=>?_,λhge=>?_⟩⟩
  rotate_left
  .rw [ZT (YJ hx hzy hlt)]at hK;exact hK
  .rw [vae (YJ hy hzx (by omega))]at hK;exact hK
  refine ja (λn:Nat=>⟨mkV [(0,wsA x),(1,wsA y),(5,.one (.lit (.int .i64 ((n:Int)-1))))],mkH []⟩) (λn=>n<=x.length/\x.drop n=y.drop n) id x.length ?_ ?_ ?_
  .exact za (by simp [bitvec_to_nat]) trivial
  .simp [hl]
  .rintro n ⟨hn,hd⟩;simp only [go_sem];refine⟨λh=>⟨by omega,by omega,by omega,by omega,λhe=>⟨by omega,n-1,za (by simp [bitvec_to_nat];omega) trivial,⟨by omega,?_⟩,by simp only [id];omega⟩,λhne=>?_⟩,λh=>?_⟩
   .rw [show((n:Int)-1).toNat=n-1 by omega]at he
    rw [List.getD_eq_getElem?_getD,List.getD_eq_getElem?_getD,List.getElem?_eq_getElem (by omega),List.getElem?_eq_getElem (by omega)]at he
    have e1:=List.getElem_cons_drop (as:=x) (i:=n-1) (by omega)
    have e2:=List.getElem_cons_drop (as:=y) (i:=n-1) (by omega)
    rw [show n-1+1=n by omega]at e1 e2
    rw [<-e1,<-e2,hd];simp only [Option.getD_some]at he;rw [he]
   .rw [show((n:Int)-1).toNat=n-1 by omega]at hne ⊢
    refine⟨by omega,by omega,by omega,by omega,λhlt=>?_,λhge=>?_⟩
    .rw [ZT (Ua1 (i:=n-1) hx hl (by omega) (by rw [show n-1+1=n by omega];exact hd) hlt)]at hK;exact hK
    .rw [vae (Ua1 (i:=n-1) hy hl.symm (by omega) (by rw [show n-1+1=n by omega];exact hd.symm) (by omega))]at hK;exact hK
   .have:n=0:=by omega
    subst this;simp only [List.drop_zero]at hd;rw [hd,XaI]at hK;exact hK
theorem uag(hΓ:Holds P Γ){f ft:Nat}(ht:Γ ft=.dat false wv)(hc:check P f=some (43,(kn ft).strip,[.tmp 4,.tmp 5])):Sound P f (.dat false Vz):=by
 refine Qa hc Uau hΓ (λargs K hcl hfi hG=>?_);match args,hG with
 | [a,b],hG=>
  obtain⟨x,rfl,hx,hG⟩:=hG;obtain⟨k,m,rfl,rfl,hm,hmB,hxl,hK⟩:=Xa hG;obtain⟨m,rfl⟩:∃n:Nat,m=n:=⟨m.toNat,by omega⟩
  simp only [Int.toNat_natCast]at hK;refine⟨by simp,?_⟩
  simp only [go_sem,kn,ht];intro h1;refine⟨hxl,λ_=>⟨by omega,?_⟩⟩
  refine ja (λp:List Nat×Nat=>⟨mkV [(0,wsA x),(1,.one (.lit (.int .u32 m))),(6,.one (.own 11 1 1 0 x.length)),(7,.one (.lit (.int .u64 p.2))),(8,.one (.lit (.int .i64 ((x.length:Int)-p.1.length-1))))],mkH [(11,⟨1,some ⟨(List.replicate (x.length-p.1.length) 0++p.1).map wc,1,true⟩⟩)]⟩)
   (λp=>p.1.length<=x.length/\WL p.1/\p.2<m/\val p.1*m+p.2=val (x.drop (x.length-p.1.length))) (λp=>x.length-p.1.length) ([],0) ?_ ?_ ?_
  .exact za (by simp [bitvec_to_nat]) (kf (by simp))
  .simp [Ub,val];omega
  .rintro⟨q,r⟩ ⟨hq,hqw,hr,hval⟩;simp only at hq hqw hr hval;have hlen:(List.replicate (x.length-q.length) 0++q).length=x.length:=by simp;omega
   simp only [go_sem,ht,hlen];refine⟨λh=>?_,λh=>?_⟩
   .obtain⟨n,hn⟩:∃n,n=x.length-q.length:=⟨_,rfl⟩;have hn0:0<n:=by omega
    have hi:((x.length:Int)-q.length-1).toNat=n-1:=by omega
    have g1:=Qb hx (n-1);have hd:=uG x hn0 (by omega)
    obtain⟨s1,s2⟩:=yaW (by omega) hr g1
    have s3:=vaQ (B:=4294967296) (a:=x.getD (n-1) 0) (by omega) (hn▸hval)
    have e1:r*4294967296 % 18446744073709551616=r*4294967296:=by omega
    have e2:x.getD (n-1) 0 % 18446744073709551616=x.getD (n-1) 0:=by omega
    have e3:m % 18446744073709551616=m:=by omega
    rw [hi,<-hn,e1,e2,e3,or32 _ _ g1];generalize hs:r*4294967296+x.getD (n-1) 0=s at s1 s2 s3;rw [Nat.mod_eq_of_lt (show s / m<18446744073709551616 by omega),Nat.mod_eq_of_lt s1]
    have hm0:s % m<m:=Nat.mod_lt _ (by omega)
    refine⟨⟨rfl,by omega⟩,by omega,by omega,⟨rfl,by omega,by omega⟩,by omega,⟨by omega,by omega⟩,by omega,by omega,by omega,(s / m::q,s % m),za (by simp [bitvec_to_nat];omega) (kf ?_),⟨by simp;omega,Xb.2 ⟨s1,hqw⟩,hm0,?_⟩,by simp;omega⟩
    .simp only [List.length_cons];rw [Jp q _ hn0,show x.length-(q.length+1)=n-1 by omega]
    .rw [qi,List.length_cons,show x.length-(q.length+1)=n-1 by omega,hd];exact s3
   .have e:x.length-q.length=0:=by omega
    simp only [e,List.replicate_zero,List.nil_append,List.drop_zero]at hval ⊢;have h1:=Nat.div_mod_unique (show 0<m by omega) (a:=val x) (c:=r) (d:=val q)
    obtain⟨h2,h3⟩:=h1.2 ⟨by rw [<-hval,Nat.mul_comm m,Nat.add_comm],hr⟩
    rw [h2,h3]at hK;refine⟨hqw,by omega,?_⟩
    rw [Nat.mod_eq_of_lt (by omega)];exact hK
end Go.Abs
end
section
namespace Go.Abs
open Go.Num
variable {P:Program} {Γ:Nat->Spec}
def Wu:AC:=(.o [.m 4 (.c (.one .emp))] [0,1] (.o [.M 9 0,.Z 10 9,.I 11 .add 10 1,.u 12 (.mk 1 [(.lit (.int .u32 0))] (.t 11) (.t 11)),.M 5 12] [0,1,5] (.f (.o [.M 13 0,.Z 14 13,.N 15 0] [1,5,13,14,15] (.block 0 (.loop (.o [.B 16 .lss 15 14] [1,5,13,14,15,16] (.f (.cond (.t 16) .skip (.exit 0)) [1,5,13,14,15] (.f (.block 1 (.o [.M 17 15,.J 18 1 13 15,.F 19 1 18,.M 6 17,.M 7 19] [1,5,6,7,13,14,15] (.o [.M 20 7,.u 21 (.conv .u64 (.t 20)),.M 22 1,.B 23 .shl 21 22,.M 8 23] [1,5,6,8,13,14,15] (.o [.M 24 5,.M 25 6,.J 26 1 24 25,.F 27 1 26,.M 28 8,.u 29 (.conv .u32 (.t 28)),.B 30 .or 27 29,.J 31 1 24 25,.S 1 31 30] [1,5,6,8,13,14,15] (.p [.M 32 5,.M 33 6,.I 34 .add 33 1,.M 35 8,.u 36 (.bin .shr (.t 35) (.c (.one (.lit (.int .u64 32))))),.u 37 (.conv .u32 (.t 36)),.J 38 1 32 34,.S 1 38 37]))))) [1,5,13,14,15] (.p [.I 39 .add 15 1,.M 15 39]))))))) [5] (.seq (.p [.M 40 5,.M 4 40]) .ret))))
def jq(f0 f1:Nat):AC:=(.o [.m 4 (.c (.one .emp))] [0,1] (.o [.M 7 0,.Z 8 7,.u 9 (.mk 1 [(.lit (.int .u32 0))] (.t 8) (.t 8)),.M 5 9] [0,1,5] (.f (.o [.M 10 0,.Z 11 10,.N 12 0] [0,1,5,11,12] (.block 0 (.loop (.o [.B 13 .lss 12 11] [0,1,5,11,12,13] (.f (.cond (.t 13) .skip (.exit 0)) [0,1,5,11,12] (.f (.block 1 (.o [.M 14 12,.M 6 14] [0,1,5,6,11,12] (.y [.M 15 5,.M 16 6,.M 17 0,.M 18 6,.J 19 1 17 18,.F 20 1 19,.u 21 (.conv .u64 (.t 20)),.M 22 0,.M 23 6,.I 24 .add 23 1,.D 25 f0 22 24,.u 26 (.bin .shl (.t 25) (.c (.one (.lit (.int .u64 32))))),.B 27 .or 21 26,.M 28 1,.B 29 .shr 27 28,.u 30 (.conv .u32 (.t 29)),.J 31 1 15 16,.S 1 31 30]))) [0,1,5,11,12] (.p [.I 32 .add 12 1,.M 12 32]))))))) [5] (.seq (.p [.M 33 5,.H 34 f1 33,.M 4 34]) .ret))))
def Yn(f0:Nat):AC:=(.o [.m 4 (.c (.one .emp))] [0,1] (.o [.M 11 0,.Z 12 11,.M 13 1,.Z 14 13,.B 15 .add 12 14,.u 16 (.mk 1 [(.lit (.int .u32 0))] (.t 15) (.t 15)),.M 5 16] [0,1,5] (.f (.o [.M 17 0,.Z 18 17,.N 19 0] [1,5,17,18,19] (.block 0 (.loop (.o [.B 20 .lss 19 18] [1,5,17,18,19,20] (.f (.cond (.t 20) .skip (.exit 0)) [1,5,17,18,19] (.f (.block 1 (.o [.M 21 19,.J 22 1 17 19,.F 23 1 22,.M 6 21,.M 7 23] [1,5,6,7,17,18,19] (.o [.m 8 (.c (.one (.lit (.int .u64 0))))] [1,5,6,7,8,17,18,19] (.f (.o [.M 24 1,.Z 25 24,.N 26 0] [1,5,6,7,8,17,18,19,24,25,26] (.block 2 (.loop (.o [.B 27 .lss 26 25] [1,5,6,7,8,17,18,19,24,25,26,27] (.f (.cond (.t 27) .skip (.exit 2)) [1,5,6,7,8,17,18,19,24,25,26] (.f (.block 3 (.o [.M 28 26,.J 29 1 24 26,.F 30 1 29,.M 9 28,.M 10 30] [1,5,6,7,8,9,10,17,18,19,24,25,26] (.o [.M 31 8,.M 32 7,.u 33 (.conv .u64 (.t 32)),.M 34 10,.u 35 (.conv .u64 (.t 34)),.B 36 .mul 33 35,.M 37 5,.M 38 6,.M 39 9,.B 40 .add 38 39,.J 41 1 37 40,.F 42 1 41,.u 43 (.conv .u64 (.t 42)),.B 44 .add 36 43,.B 45 .add 31 44,.M 8 45] [1,5,6,7,8,9,17,18,19,24,25,26] (.o [.M 46 5,.M 47 6,.M 48 9,.B 49 .add 47 48,.M 50 8,.u 51 (.conv .u32 (.t 50)),.J 52 1 46 49,.S 1 52 51] [1,5,6,7,8,17,18,19,24,25,26] (.p [.M 53 8,.u 54 (.bin .shr (.t 53) (.c (.one (.lit (.int .u64 32))))),.M 8 54]))))) [1,5,6,7,8,17,18,19,24,25,26] (.p [.I 55 .add 26 1,.M 26 55]))))))) [1,5,6,8,17,18,19] (.p [.M 56 5,.M 57 6,.M 58 1,.Z 59 58,.B 60 .add 57 59,.M 61 8,.u 62 (.conv .u32 (.t 61)),.J 63 1 56 60,.S 1 63 62]))))) [1,5,17,18,19] (.p [.I 64 .add 19 1,.M 19 64]))))))) [5] (.seq (.p [.M 65 5,.H 66 f0 65,.M 4 66]) .ret))))
theorem QaU(hΓ:Holds P Γ){f:Nat}(hc:check P f=some (41,Wu.strip,[.tmp 4])):Sound P f (.fresh 1 up_G):=by
 refine Xt hc Wbe hΓ (λargs K hcl hfi hG=>?_);match args,hG with
 | [a,b],hG=>
  obtain⟨x,rfl,hx,hG⟩:=hG;obtain⟨k,m,rfl,rfl,hm,hmB,hxl,hK⟩:=Xa hG;obtain⟨m,rfl⟩:∃n:Nat,m=n:=⟨m.toNat,by omega⟩
  simp only [Int.toNat_natCast]at hK;refine⟨by simp,?_⟩
  simp only [go_sem,Wu];intro h1;refine⟨by omega,by omega,λ_=>?_⟩
  refine ja (λp:List Nat×Nat=>⟨mkV [(1,.one (.lit (.int .i64 m))),(5,.one (.own 12 1 1 0 (x.length+1))),(13,wsA x),(14,.one (.lit (.int .i64 x.length))),(15,.one (.lit (.int .i64 p.1.length)))],mkH [(12,⟨1,some ⟨(p.1++p.2::List.replicate (x.length-p.1.length) 0).map wc,1,true⟩⟩)]⟩)
   (λp=>p.1.length<=x.length/\WL p.1/\p.2<2 ^ m/\val p.1+4294967296 ^ p.1.length*p.2=val (x.take p.1.length)*2 ^ m) (λp=>x.length-p.1.length) ([],0) ?_ ?_ ?_
  .exact za (by simp [bitvec_to_nat]) (kf (by simp [List.replicate_succ]))
  .simp [Ub,val];exact Nat.pow_pos (by omega)
  .rintro⟨o,c⟩ ⟨hoN,ho,hc1,hval⟩;simp only at hoN ho hc1 hval;have hlen:(o++c::List.replicate (x.length-o.length) 0).length=x.length+1:=by simp;omega
   simp only [go_sem,hlen,List.length_set];refine⟨λhlt=>?_,λhge=>?_⟩
   .have g1:=Qb hx o.length;obtain⟨s1,s2,s3,s4⟩:=zbf (by omega) hc1 g1
    have e1:x.getD o.length 0 % 18446744073709551616=x.getD o.length 0:=by omega
    have hp:=QT (show m<32 by omega)
    rw [Zbh,e1,Nat.mod_eq_of_lt s1,s2,Ybm];generalize hy:x.getD o.length 0*2 ^ m=y at s1 s2 s3 s4;rw [Nat.mod_eq_of_lt (show y / 4294967296<4294967296 by omega)]
    refine⟨hlt,⟨rfl,by omega⟩,by omega,by omega,⟨rfl,by omega,by omega⟩,by omega,by omega,by omega,by omega,by omega,by omega,by omega,(o++[y % 4294967296+c],y / 4294967296),za (by simp [bitvec_to_nat]) (kf ?_),⟨by simp;omega,Je.2 ⟨ho,Xb.2 ⟨s3,Ub⟩⟩,s4,?_⟩,by simp;omega⟩
    .rw [show x.length-o.length=(x.length-(o.length+1))+1 by omega,List.replicate_succ,Wa9];simp
    .simp only [List.length_append,List.length_cons,List.length_nil,Nat.zero_add,Vb,Yb,qi,Zm,Nat.mul_zero,Nat.add_zero,Nat.pow_succ];rw [Wbk (B:=4294967296) (x:=y) hval rfl,Nat.add_mul,<-hy,Nat.mul_assoc]
   .have e:o.length=x.length:=by omega
    have hcB:c<4294967296:=by have:=QT (show m<32 by omega);omega
    rw [e,Zi (Nat.le_refl _)]at hval;simp only [e,Nat.sub_self,List.replicate_zero];have hw:WL (o++[c]):=Je.2 ⟨ho,Xb.2 ⟨hcB,Ub⟩⟩;have hv:val (o++[c])=val x*2 ^ m:=by rw [Yb,e];simpa [val] using hval
    have:=jz hw;rw [hv,List.length_append,List.length_singleton,e]at this;rw [<-this];exact hK
theorem vax(hΓ:Holds P Γ){f fw ft:Nat}(hw:Γ fw=.dat true Qn)(ht:Γ ft=.dat false wv)(hc:check P f=some (35,(jq fw ft).strip,[.tmp 4])):Sound P f (.dat false UO):=by
 refine Qa hc VaJ hΓ (λargs K hcl hfi hG=>?_);match args,hG with
 | [a,b],hG=>
  obtain⟨x,rfl,hx,hG⟩:=hG;obtain⟨k,m,rfl,rfl,hm,hmB,hxl,hK⟩:=Xa hG;obtain⟨m,rfl⟩:∃n:Nat,m=n:=⟨m.toNat,by omega⟩
  simp only [Int.toNat_natCast]at hK;refine⟨by simp,?_⟩
  simp only [go_sem,jq,hw,ht];intro h1;refine⟨by omega,λ_=>?_⟩
  refine ja (λo:List Nat=>⟨mkV [(0,wsA x),(1,.one (.lit (.int .i64 m))),(5,.one (.own 9 1 1 0 x.length)),(11,.one (.lit (.int .i64 x.length))),(12,.one (.lit (.int .i64 o.length)))],mkH [(9,⟨1,some ⟨(o++List.replicate (x.length-o.length) 0).map wc,1,true⟩⟩)]⟩)
   (λo=>o.length<=x.length/\WL o/\val o=val x / 2 ^ m % 4294967296 ^ o.length) (λo=>x.length-o.length) [] ?_ ?_ ?_
  .exact za (by simp [bitvec_to_nat]) (kf (by simp))
  .simp [Ub,val,Nat.mod_one]
  .rintro o ⟨hoN,ho,hval⟩;have hlen:(o++List.replicate (x.length-o.length) 0).length=x.length:=by simp;omega
   simp only [go_sem,hw,ht,hlen];refine⟨λhlt=>⟨hlt,by omega,hx,⟨rfl,by omega⟩,⟨rfl,by omega,by omega⟩,by omega,hlt,hlt,by omega,?_⟩,λhge=>?_⟩
   .have g1:=Qb hx o.length;have g2:=Qb hx (o.length+1);have e1:x.getD o.length 0 % 18446744073709551616=x.getD o.length 0:=by omega
    have e2:x.getD (o.length+1) 0*4294967296 % 18446744073709551616=x.getD (o.length+1) 0*4294967296:=by omega
    rw [e1,e2,or32' _ _ g1,show x.getD (o.length+1) 0*4294967296+x.getD o.length 0=x.getD o.length 0+4294967296*x.getD (o.length+1) 0 by omega,W4 hx (by omega)]
    generalize hv:val x / 2 ^ m / 4294967296 ^ o.length % 4294967296=v;have hvB:v<4294967296:=by rw [<-hv];exact Nat.mod_lt _ (by omega)
    refine⟨o++[v],za (by simp [bitvec_to_nat]) (kf ?_),⟨by simp;omega,Je.2 ⟨ho,Xb.2 ⟨hvB,Ub⟩⟩,?_⟩,by simp;omega⟩
    .rw [show x.length-o.length=x.length-(o.length+1)+1 by omega,zag];simp
    .rw [Yb,List.length_append,List.length_singleton,WE,hv,<-hval];simp [val]
   .have e:o.length=x.length:=by omega
    have hlt:val x / 2 ^ m<4294967296 ^ x.length:=Nat.lt_of_le_of_lt (Nat.div_le_self _ _) (Yl hx);rw [e,Nat.mod_eq_of_lt hlt]at hval;simp only [e,Nat.sub_self,List.replicate_zero,List.append_nil];refine⟨ho,by omega,?_⟩
    rw [hval];exact hK
theorem zae(hΓ:Holds P Γ){f ft:Nat}(ht:Γ ft=.dat false wv)(hc:check P f=some (67,(Yn ft).strip,[.tmp 4])):Sound P f (.dat false Zu):=by
 refine Qa hc UN hΓ (λargs K hcl hfi hG=>?_);match args,hG with
 | [a,b],hG=>
  obtain⟨x,rfl,hx,y,rfl,hy,hxl,hyl,hK⟩:=hG;refine⟨by simp,?_⟩
  simp only [go_sem,Yn,ht];intro h1 h2;refine⟨by omega,by omega,λ_=>?_⟩
  generalize hN:x.length+y.length=N;refine ja (λp:Nat×List Nat=>⟨mkV [(1,wsA y),(5,.one (.own 16 1 1 0 N)),(17,wsA x),(18,.one (.lit (.int .i64 x.length))),(19,.one (.lit (.int .i64 p.1)))],mkH [(16,⟨1,some ⟨p.2.map wc,1,true⟩⟩)]⟩)
   (λp=>p.1<=x.length/\WL p.2/\p.2.length=N/\val p.2=val (x.take p.1)*val y/\∀j,p.1+y.length<=j->p.2.getD j 0=0) (λp=>x.length-p.1) (0,List.replicate N 0) ?_ ?_ ?_
  .exact za (by simp [bitvec_to_nat]) (kf (by simp))
  .simp [VaQ,val,JR];intro j _;rw [List.getElem?_replicate];split <;> rfl
  .rintro⟨i,o⟩ ⟨hi,ho,hoN,hval,hz⟩;simp only at hi ho hoN hval hz;simp only [go_sem,ht,hoN];refine⟨λhlt=>⟨hlt,λ_=>?_⟩,λhge=>?_⟩
   .have g1:=Qb hx i;refine ja (λp:Nat×Nat×List Nat=>⟨mkV [(1,wsA y),(5,.one (.own 16 1 1 0 N)),(6,.one (.lit (.int .i64 i))),(7,.one (.lit (.int .u32 (x.getD i 0:Nat)))),(8,.one (.lit (.int .u64 p.2.1))),(17,wsA x),(18,.one (.lit (.int .i64 x.length))),(19,.one (.lit (.int .i64 i))),(24,wsA y),(25,.one (.lit (.int .i64 y.length))),(26,.one (.lit (.int .i64 p.1)))],mkH [(16,⟨1,some ⟨p.2.2.map wc,1,true⟩⟩)]⟩)
     (λp=>p.1<=y.length/\p.2.1<4294967296/\WL p.2.2/\p.2.2.length=N/\val p.2.2+4294967296 ^ i*4294967296 ^ p.1*p.2.1=val (x.take i)*val y+4294967296 ^ i*x.getD i 0*val (y.take p.1)/\∀j,i+y.length<=j->p.2.2.getD j 0=0) (λp=>y.length-p.1) (0,0,o) ?_ ?_ ?_
    .exact za (by simp [bitvec_to_nat]) (kf rfl)
    .exact⟨Nat.zero_le _,by simp,ho,hoN,by simp [val,hval],hz⟩
    .rintro⟨k,c,o⟩ ⟨hk,hc,ho,hoN,hval,hz⟩;simp only at hk hc ho hoN hval hz;simp only [go_sem,ht,hoN];refine⟨λhlt2=>?_,λhge2=>?_⟩
     .have g2:=Qb hy k;have g3:=Qb ho (i+k);have s1:=VR g1 g2 hc g3;have e1:x.getD i 0 % 18446744073709551616=x.getD i 0:=by omega
      have e2:y.getD k 0 % 18446744073709551616=y.getD k 0:=by omega
      have e3:o.getD (i+k) 0 % 18446744073709551616=o.getD (i+k) 0:=by omega
      have hstep:=QL hval (by omega) rfl
      rw [e1,e2,e3,Nat.mod_eq_of_lt (show x.getD i 0*y.getD k 0<18446744073709551616 by omega),Nat.mod_eq_of_lt (show x.getD i 0*y.getD k 0+o.getD (i+k) 0<18446744073709551616 by omega),Nat.mod_eq_of_lt s1]
      generalize hs:c+(x.getD i 0*y.getD k 0+o.getD (i+k) 0)=s at s1 hstep;refine⟨hlt2,by omega,by omega,by omega,by omega,by omega,by omega,by omega,by omega,(k+1,s / 4294967296,o.set (i+k) (s % 4294967296)),za (by simp [bitvec_to_nat]) (kf rfl),⟨by simp only;omega,by simp only;omega,jZ ho _ (Nat.mod_lt _ (by omega)),by simp [hoN],hstep,?_⟩,by simp only;omega⟩
      intro j hj;simp only;rw [Num.getD_set_ne (by omega)];exact hz j hj
     .have e:k=y.length:=by omega
      subst e;have hend:=kW hval (by omega) (hz _ (Nat.le_refl _))
      rw [Nat.mod_eq_of_lt hc];refine λ_=>⟨by omega,by omega,by omega,by omega,(i+1,o.set (i+y.length) c),za (by simp [bitvec_to_nat]) (kf rfl),⟨by simp only;omega,jZ ho _ hc,by simp [hoN],hend,?_⟩,by simp only;omega⟩
      intro j hj;simp only at hj ⊢;rw [Num.getD_set_ne (by omega)];exact hz j (by omega)
   .have e:i=x.length:=by omega
    subst e;rw [Zi (Nat.le_refl _)]at hval;refine⟨ho,by omega,?_⟩
    rw [hval];exact hK
end Go.Abs
end
section
namespace Go.Abs
open Go.Num
variable {P:Program} {Γ:Nat->Spec}
def Qm(f0:Nat):AC:=(.o [.m 6 .fa] [0,1,2] (.o [.m 7 (.c (.one (.lit (.int .u64 0)))),.m 8 (.c (.one (.lit (.int .u64 0))))] [0,1,2,7,8] (.f (.o [.M 11 0,.Z 12 11,.N 13 0] [0,1,2,7,8,12,13] (.block 0 (.loop (.o [.B 14 .lss 13 12] [0,1,2,7,8,12,13,14] (.f (.cond (.t 14) .skip (.exit 0)) [0,1,2,7,8,12,13] (.f (.block 1 (.o [.M 15 13,.M 9 15] [0,1,2,7,8,9,12,13] (.o [.M 16 7,.M 17 2,.M 18 1,.M 19 9,.D 20 f0 18 19,.B 21 .mul 17 20,.B 22 .add 16 21,.M 7 22] [0,1,2,7,8,9,12,13] (.o [.M 23 0,.M 24 9,.J 25 1 23 24,.F 26 1 25,.u 27 (.conv .u64 (.t 26)),.M 28 7,.u 29 (.conv .u32 (.t 28)),.u 30 (.conv .u64 (.t 29)),.B 31 .sub 27 30,.M 32 8,.B 33 .sub 31 32,.M 10 33] [0,1,2,7,9,10,12,13] (.o [.M 34 0,.M 35 9,.M 36 10,.u 37 (.conv .u32 (.t 36)),.J 38 1 34 35,.S 1 38 37] [0,1,2,7,10,12,13] (.o [.M 39 10,.u 40 (.bin .shr (.t 39) (.c (.one (.lit (.int .u64 63))))),.M 8 40] [0,1,2,7,8,12,13] (.p [.M 41 7,.u 42 (.bin .shr (.t 41) (.c (.one (.lit (.int .u64 32))))),.M 7 42]))))))) [0,1,2,7,8,12,13] (.p [.I 43 .add 13 1,.M 13 43]))))))) [8] (.seq (.p [.M 44 8,.u 45 (.bin .eql (.t 44) (.c (.one (.lit (.int .u64 1))))),.M 6 45]) .ret))))
def Jq(f0:Nat):AC:=(.o [.m 4 (.c (.one (.lit (.int .u64 0))))] [0,1,4] (.o [.M 6 0,.Z 7 6,.N 8 0] [0,1,4,7,8] (.block 0 (.loop (.o [.B 9 .lss 8 7] [0,1,4,7,8,9] (.f (.cond (.t 9) .skip (.exit 0)) [0,1,4,7,8] (.f (.block 1 (.o [.M 10 8,.M 5 10] [0,1,4,5,7,8] (.f (.y [.M 11 4,.M 12 0,.M 13 5,.J 14 1 12 13,.F 15 1 14,.u 16 (.conv .u64 (.t 15)),.M 17 1,.M 18 5,.D 19 f0 17 18,.B 20 .add 16 19,.B 21 .add 11 20,.M 4 21]) [0,1,4,5,7,8] (.o [.M 22 0,.M 23 5,.M 24 4,.u 25 (.conv .u32 (.t 24)),.J 26 1 22 23,.S 1 26 25] [0,1,4,7,8] (.p [.M 27 4,.u 28 (.bin .shr (.t 27) (.c (.one (.lit (.int .u64 32))))),.M 4 28]))))) [0,1,4,7,8] (.p [.I 29 .add 8 1,.M 8 29]))))))))
theorem X5(hΓ:Holds P Γ){f fw:Nat}(hw:Γ fw=.dat true Qn)(hc:check P f=some (46,(Qm fw).strip,[.tmp 6])):Sound P f (.own Vo):=by
 refine xf hc hΓ (λd args h K hG=>?_);unfold Vo at hG;split at hG
 case h_2=>exact hG.elim
 rename_i r ver off len b n;obtain⟨v,rfl,hv,pre,seg,post,m,rfl,rfl,rfl,hr,hseg,hm,hvl,hlt,hsl,hK⟩:=hG;refine⟨[r],[⟨(pre++seg++post).map wc,1,true⟩],[.one (.own 1048576 ver 1 pre.length seg.length),wsA v,.one (.lit (.int .u64 m))],by simp,rfl,?_,?_,?_,λhfi=>⟨by simp,?_⟩⟩
 .intro i r' b h1 h2;cases i with
  | zero=>simp only [List.getElem?_cons_zero,Option.some.injEq]at h1 h2;subst h1 h2;exact⟨by rw [hr],rfl,of_eq_true (wd _)⟩
  | succ i=>simp at h1
 .simp [exA,exC,exB,nameOf,pinA,wsA,ws]
 .intro a ha;simp only [List.mem_cons,List.not_mem_nil,or_false]at ha;rcases ha with rfl | rfl | rfl
  .simp [pasA,pasC,pasB,nameOf,pinA]
  .exact .slice _ (of_eq_true (wd _))
  .exact .lit _
 simp only [go_sem,Qm,hw,hr];intro h1;refine ja (λp:List Nat×Nat×Nat×Nat=>⟨mkV [(0,.one (.own 1048576 ver 1 pre.length seg.length)),(1,wsA v),(2,.one (.lit (.int .u64 m))),(7,.one (.lit (.int .u64 p.2.1))),(8,.one (.lit (.int .u64 p.2.2.1))),(12,.one (.lit (.int .i64 seg.length))),(13,.one (.lit (.int .i64 p.1.length)))],
   mkH [(1048576,⟨ver,some ⟨(pre++(p.1++seg.drop p.1.length)++post).map wc,1,true⟩⟩)]⟩)
  (λp=>p.1.length<=seg.length/\WL p.1/\(p.2.1=0∨p.2.1<m)/\p.2.2.1<=1/\p.2.2.2+4294967296 ^ p.1.length*p.2.1=m*val (v.take p.1.length)/\val p.1+p.2.2.2=val (seg.take p.1.length)+4294967296 ^ p.1.length*p.2.2.1) (λp=>seg.length-p.1.length) ([],0,0,0) ?_ ?_ ?_
 .exact za (by simp [bitvec_to_nat]) (kf (by simp))
 .simp [Ub,val]
 .rintro⟨o,c,bw,p⟩ ⟨hoN,ho,hc1,hb1,hp1,hp2⟩;simp only at hoN ho hc1 hb1 hp1 hp2;have hlen:(pre++(o++seg.drop o.length)++post).length=pre.length+seg.length+post.length:=by simp;omega
  simp only [go_sem,hw,hr,hlen];refine⟨λhlt2=>?_,λhge=>?_⟩
  .have g1:=Qb hseg o.length;have g2:=Qb hv o.length;obtain⟨s1,s2⟩:=JaK hm g2 hc1;have a1:=ZaV (B:=4294967296) (v:=v.getD o.length 0) hp1;have e1:m*v.getD o.length 0 % 18446744073709551616=m*v.getD o.length 0:=Nat.mod_eq_of_lt (by omega)
   have e2:seg.getD o.length 0 % 18446744073709551616=seg.getD o.length 0:=by omega
   rw [yaN _ _ _ _ hlt2,e1,e2,Nat.mod_eq_of_lt s1,Yaf _ _ _ _ _ hlt2];generalize hs:c+m*v.getD o.length 0=s at s1 s2 a1;have e3:s % 4294967296 % 18446744073709551616=s % 4294967296:=by omega
   rw [e3];obtain⟨t1,t2⟩:=Xao (b:=s % 4294967296) g1 (by omega) hb1
   generalize sub64 (sub64 (seg.getD o.length 0) (s % 4294967296)) bw=d at t1 t2;have a2:=QaW hp2 t1;refine⟨hv,hlt2,by omega,hlt2,by omega,by omega,by omega,by omega,(o++[d % 4294967296],s / 4294967296,d / 9223372036854775808,p+4294967296 ^ o.length*(s % 4294967296)),za (by simp [bitvec_to_nat]) (kf rfl),⟨by simp;omega,Je.2 ⟨ho,Xb.2 ⟨Nat.mod_lt _ (by omega),Ub⟩⟩,s2,t2,?_,?_⟩,by simp;omega⟩
   .simp only [List.length_append,List.length_cons,List.length_nil,Nat.zero_add,Vb,Nat.pow_succ];exact a1
   .simp only [List.length_append,List.length_cons,List.length_nil,Nat.zero_add,Vb,Yb,qi,Zm,Nat.mul_zero,Nat.add_zero,Nat.pow_succ];exact a2
  .have e:o.length=seg.length:=by omega
   rw [e]at hp1 hp2;rw [Zi hvl]at hp1;rw [Zi (Nat.le_refl _)]at hp2;obtain⟨t1,t2⟩:=Wba ho e hp1 hlt hp2 hb1;rw [List.drop_of_length_le (by omega),List.append_nil]
   rw [<-t1]at hK;have:(decide ((bw:Int)=1))=decide (val seg<m*val v):=by
    rw [decide_eq_decide,<-t2];omega
   rw [this];exact hK
theorem zax(hΓ:Holds P Γ){f fw:Nat}(hw:Γ fw=.dat true Qn)(hc:check P f=some (30,(Jq fw).strip,[])):Sound P f (.own yB):=by
 refine xf hc hΓ (λd args h K hG=>?_);unfold yB at hG;split at hG
 case h_2=>exact hG.elim
 rename_i r ver off len b;obtain⟨v,rfl,hv,pre,seg,post,rfl,rfl,hr,hseg,hvl,hsl,hK⟩:=hG;refine⟨[r],[⟨(pre++seg++post).map wc,1,true⟩],[.one (.own 1048576 ver 1 pre.length seg.length),wsA v],by simp,rfl,?_,?_,?_,λhfi=>⟨by simp,?_⟩⟩
 .intro i r' b h1 h2;cases i with
  | zero=>simp only [List.getElem?_cons_zero,Option.some.injEq]at h1 h2;subst h1 h2;exact⟨by rw [hr],rfl,of_eq_true (wd _)⟩
  | succ i=>simp at h1
 .simp [exA,exC,exB,nameOf,pinA,wsA,ws]
 .intro a ha;simp only [List.mem_cons,List.not_mem_nil,or_false]at ha;rcases ha with rfl | rfl
  .simp [pasA,pasC,pasB,nameOf,pinA]
  .exact .slice _ (of_eq_true (wd _))
 simp only [go_sem,Jq,hw,hr];intro h1;refine ja (λp:List Nat×Nat=>⟨mkV [(0,.one (.own 1048576 ver 1 pre.length seg.length)),(1,wsA v),(4,.one (.lit (.int .u64 p.2))),(7,.one (.lit (.int .i64 seg.length))),(8,.one (.lit (.int .i64 p.1.length)))],
   mkH [(1048576,⟨ver,some ⟨(pre++(p.1++seg.drop p.1.length)++post).map wc,1,true⟩⟩)]⟩)
  (λp=>p.1.length<=seg.length/\WL p.1/\p.2<=1/\val p.1+4294967296 ^ p.1.length*p.2=val (seg.take p.1.length)+val (v.take p.1.length)) (λp=>seg.length-p.1.length) ([],0) ?_ ?_ ?_
 .exact za (by simp [bitvec_to_nat]) (kf (by simp))
 .simp [Ub,val]
 .rintro⟨o,c⟩ ⟨hoN,ho,hc1,hp1⟩;simp only at hoN ho hc1 hp1;have hlen:(pre++(o++seg.drop o.length)++post).length=pre.length+seg.length+post.length:=by simp;omega
  simp only [go_sem,hw,hr,hlen];refine⟨λhlt2=>?_,λhge=>?_⟩
  .have g1:=Qb hseg o.length;have g2:=Qb hv o.length;have e2:seg.getD o.length 0 % 18446744073709551616=seg.getD o.length 0:=by omega
   rw [yaN _ _ _ _ hlt2,e2,Nat.mod_eq_of_lt (show seg.getD o.length 0+v.getD o.length 0<18446744073709551616 by omega),Nat.mod_eq_of_lt (show c+(seg.getD o.length 0+v.getD o.length 0)<18446744073709551616 by omega),Yaf _ _ _ _ _ hlt2]
   have a1:=vaS (B:=4294967296) (a:=seg.getD o.length 0) (b:=v.getD o.length 0) hp1 rfl;generalize hs:c+(seg.getD o.length 0+v.getD o.length 0)=s at a1;refine⟨hlt2,by omega,hv,hlt2,by omega,by omega,by omega,(o++[s % 4294967296],s / 4294967296),za (by simp [bitvec_to_nat]) (kf rfl),⟨by simp;omega,Je.2 ⟨ho,Xb.2 ⟨Nat.mod_lt _ (by omega),Ub⟩⟩,by simp only;omega,?_⟩,by simp;omega⟩
   simp only [List.length_append,List.length_cons,List.length_nil,Nat.zero_add,Vb,Yb,qi,Zm,Nat.mul_zero,Nat.add_zero,Nat.pow_succ];exact a1
  .have e:o.length=seg.length:=by omega
   rw [e,Zi hvl,Zi (Nat.le_refl _)]at hp1;have t1:=waV ho e hp1;rw [List.drop_of_length_le (by omega),List.append_nil]
   rw [<-t1]at hK;exact hK
end Go.Abs
end
section
namespace Go.Num
theorem Xx:∀(a b X:Nat),dig (a+b) X=dig a X++dig b (X / 4294967296 ^ a)
 | 0,b,X=>by simp [dig]
 | a+1,b,X=>by
  rw [show a+1+b=(a+b)+1 by omega,dig,dig,Xx a b,Nat.div_div_eq_div_mul,Nat.pow_succ,Nat.mul_comm 4294967296];simp
theorem zaq:∀k,dig k 0=List.replicate k 0
 | 0=>rfl
 | k+1=>by rw [dig,Nat.zero_mod,Nat.zero_div,zaq k,List.replicate_succ]
theorem uU:∀(k i X:Nat),i<k->(dig k X).getD i 0=X / 4294967296 ^ i % 4294967296
 | k+1,0,X,_=>by simp [dig]
 | k+1,i+1,X,h=>by
  rw [dig,List.getD_cons_succ,uU k i _ (by omega),Nat.div_div_eq_div_mul,Nat.pow_succ,Nat.mul_comm 4294967296]
theorem US:∀(k X:Nat),dig k (X % 4294967296 ^ k)=dig k X:=by
 intro k X;refine xac (yk _ _) (yk _ _) (by rw [wa,wa]) ?_
 rw [uj,uj,Nat.mod_mod]
theorem ya6{j X Y:Nat}:dig j (X % 4294967296 ^ j+4294967296 ^ j*Y)=dig j X:=by
 rw [<-US,Nat.add_mul_mod_self_left,Nat.mod_mod,US]
theorem jJ{L j n X:Nat}(h:j+(n+1)<=L)(hX:X / 4294967296 ^ j<4294967296 ^ (n+1)) :
  dig L X=dig j X++dig (n+1) (X / 4294967296 ^ j)++List.replicate (L-(j+(n+1))) 0:=by
 conv=>lhs;rw [show L=j+(n+1)+(L-(j+(n+1))) by omega]
 rw [Xx,Xx,Nat.pow_add,<-Nat.div_div_eq_div_mul,Nat.div_eq_of_lt hX,zaq]
theorem qai{L j n X R:Nat}(h:j+(n+1)<=L)(hR:R<4294967296 ^ (n+1)) :
  dig j X++dig (n+1) R++List.replicate (L-(j+(n+1))) 0=dig L (X % 4294967296 ^ j+4294967296 ^ j*R):=by
 have e:(X % 4294967296 ^ j+4294967296 ^ j*R) / 4294967296 ^ j=R:=by
  rw [Nat.add_mul_div_left _ _ (pow_pos j),Nat.div_eq_of_lt (Nat.mod_lt _ (pow_pos j)),Nat.zero_add]
 rw [jJ h (by rw [e];exact hR),e,ya6]
structure Step (B n V P top next head u2:Nat):Prop where
 hB:2<=B
 hn:2<=n
 vlow:∃l,V=(top*B+next)*B ^ (n-2)+l/\l<B ^ (n-2)
 plow:∃l,P=(head*B+u2)*B ^ (n-2)+l/\l<B ^ (n-2)
 nextB:next<B
 topB:top<B
 half:B<=2*top
 u2B:u2<B
 lt:P<V*B
namespace Step
variable {B n V P top next head u2:Nat}
theorem vpos(s:Step B n V P top next head u2):0<V:=by
 obtain⟨l,h,_⟩:=s.vlow;have:0<B ^ (n-2):=Nat.pow_pos (by have:=s.hB;omega)
 have h2:0<top*B+next:=by
  have:=Nat.mul_pos (show 0<top by have:=s.half;have:=s.hB;omega) (show 0<B by have:=s.hB;omega)
  omega
 have:=Nat.mul_pos h2 this;omega
theorem down(s:Step B n V P top next head u2){g r:Nat}(hg:g*top+r=head)(h:B<=g∨r*B+u2<g*next):P / V<g:=by
 rw [Nat.div_lt_iff_lt_mul s.vpos];rcases h with h | h
 .have h1:=Nat.mul_le_mul_right V h;have:=s.lt;rw [Nat.mul_comm V]at this;omega
 .obtain⟨lv,hv,hlv⟩:=s.vlow;obtain⟨lp,hp,hlp⟩:=s.plow;generalize B ^ (n-2)=p at hv hlv hp hlp;have h1:head*B+u2+1<=g*(top*B+next):=by
   rw [<-hg];have:(g*top+r)*B=g*(top*B)+r*B:=by rw [Nat.add_mul,Nat.mul_assoc]
   rw [this,Nat.mul_add];omega
  have h2:=Nat.mul_le_mul_right p h1;rw [Nat.add_mul,Nat.one_mul]at h2;have h3:g*(top*B+next)*p<=g*V:=by
   rw [Nat.mul_assoc];exact Nat.mul_le_mul_left _ (by omega)
  omega
theorem stop(s:Step B n V P top next head u2){g r:Nat}(hg:g*top+r=head)(hgB:g<=B)(h:B<=r∨(g<B/\g*next<=r*B+u2)):g*V<=P+V:=by
 obtain⟨lv,hv,hlv⟩:=s.vlow;obtain⟨lp,hp,hlp⟩:=s.plow;have hB:=s.hB;have hn:=s.hn;have hpp:0<B ^ (n-2):=Nat.pow_pos (by omega)
 have h1:g*(top*B+next)<=head*B+u2:=by
  rw [<-hg,Nat.add_mul,Nat.mul_add,Nat.mul_assoc];rcases h with h | h
  .have h3:g*next<=B*B:=Nat.mul_le_mul hgB (Nat.le_of_lt s.nextB)
   have h4:B*B<=r*B:=Nat.mul_le_mul_right _ h;omega
  .omega
 have hVtop:B*B ^ (n-2)<=V:=by
  have:B<=top*B:=Nat.le_mul_of_pos_left _ (by have:=s.half;omega)
  have:=Nat.mul_le_mul_right (B ^ (n-2)) (show B<=top*B+next by omega)
  omega
 generalize B ^ (n-2)=p at hv hlv hp hlp hpp hVtop;have h2:=Nat.mul_le_mul_right p h1;have h5:g*V<=g*((top*B+next)*p)+g*p:=by
  rw [hv,Nat.mul_add];exact Nat.add_le_add_left (Nat.mul_le_mul_left _ (Nat.le_of_lt hlv)) _
 have h6:g*p<=B*p:=Nat.mul_le_mul_right _ hgB;rw [<-Nat.mul_assoc]at h5;omega
theorem first(s:Step B n V P top next head u2):head / top<=B+1/\P / V<=head / top:=by
 have hB:=s.hB;have ht:0<top:=by have:=s.half;omega
 obtain⟨lv,hv,hlv⟩:=s.vlow;obtain⟨lp,hp,hlp⟩:=s.plow;have hlt:=s.lt;have hnext:=s.nextB;have hu2:=s.u2B;constructor
 .have h1:head<=top*B+next:=by
   rcases Nat.lt_or_ge (top*B+next) head with h | h
   .exfalso;have h2:=Nat.mul_le_mul_right (B ^ (n-2)) (Nat.mul_le_mul_right B h);have h3:(top*B+next+1)*B*B ^ (n-2)=((top*B+next)*B ^ (n-2)+B ^ (n-2))*B:=by
     generalize B ^ (n-2)=p;grind
    rw [Nat.succ_eq_add_one,h3]at h2;have h4:V*B<=((top*B+next)*B ^ (n-2)+B ^ (n-2))*B:=Nat.mul_le_mul_right _ (by omega)
    have h5:head*B*B ^ (n-2)<=P:=by
     rw [hp,Nat.add_mul];omega
    omega
   .exact h
  have h2:head<(B+2)*top:=by
   have:=s.half;have:(B+2)*top=top*B+2*top:=by rw [Nat.add_mul,Nat.mul_comm B]
   omega
  have:=(Nat.div_lt_iff_lt_mul ht).2 h2;omega
 .have:P / V<head / top+1:=by
   rw [Nat.div_lt_iff_lt_mul s.vpos];have h1:head<(head / top+1)*top:=by
    have:=Nat.div_add_mod head top;have:=Nat.mod_lt head ht;rw [Nat.add_mul,Nat.one_mul,Nat.mul_comm (head / top)];omega
   have h2:head+1<=(head / top+1)*top:=h1;have h3:=Nat.mul_le_mul_right (B ^ (n-2)) (Nat.mul_le_mul_right B h2);have h4:(head / top+1)*top*B*B ^ (n-2)<=(head / top+1)*V:=by
    rw [Nat.mul_assoc,Nat.mul_assoc];refine Nat.mul_le_mul_left _ ?_;rw [hv,Nat.add_mul,<-Nat.mul_assoc];omega
   have h5:P<(head+1)*B*B ^ (n-2):=by
    rw [hp];have:(head*B+u2+1)*B ^ (n-2)<=(head+1)*B*B ^ (n-2):=Nat.mul_le_mul_right _ (by rw [Nat.add_mul,Nat.one_mul];omega)
    rw [Nat.add_mul,Nat.one_mul]at this;omega
   omega
  omega
theorem left(s:Step B n V P top next head u2){g:Nat}(h1:P / V<=g)(h2:g*V<=P+V) :
  (P<g*V->g=P / V+1)/\(¬P<g*V->g=P / V):=by
 have hv:=s.vpos;have e:=Nat.div_add_mod P V;have m:=Nat.mod_lt P hv;constructor
 .intro h;have h3:g<=P / V+1:=by
   rcases Nat.lt_or_ge (P / V+1) g with h4 | h4
   .exfalso;have:=Nat.mul_le_mul_right V (show P / V+2<=g from h4);rw [Nat.add_mul,Nat.mul_comm (P / V)]at this;omega
   .exact h4
  have h5:P / V<g:=by rw [Nat.div_lt_iff_lt_mul hv];exact h
  omega
 .intro h;have:g<=P / V:=by rw [Nat.le_div_iff_mul_le hv];omega
  omega
theorem quot(s:Step B n V P top next head u2):P / V<B:=by
 rw [Nat.div_lt_iff_lt_mul s.vpos,Nat.mul_comm];exact s.lt
end Step
theorem YaX(n k X:Nat):(dig (n+k) X).take n=dig n X:=by
 rw [Xx,List.take_append_of_le_length (by rw [wa];exact Nat.le_refl _),List.take_of_length_le (by rw [wa];exact Nat.le_refl _)]
theorem Wax{t:Nat}(h0:0<t)(h:t<4294967296):Lib.bitLen t=Nat.log2 t+1:=by
 have h1:2 ^ Nat.log2 t<=t:=Nat.log2_self_le (by omega)
 have h2:t<2 ^ (Nat.log2 t+1):=Nat.lt_log2_self;rw [Lib.bitLen_shift _ _ h1 (by omega)]
 have:t / 2 ^ Nat.log2 t=1:=by
  rw [Nat.pow_succ]at h2;have hp:0<2 ^ Nat.log2 t:=Nat.pow_pos (by omega)
  generalize 2 ^ Nat.log2 t=p at h1 h2 hp;have a:t / p<2:=(Nat.div_lt_iff_lt_mul hp).2 (by omega)
  have b:1<=t / p:=(Nat.le_div_iff_mul_le hp).2 (by omega)
  omega
 rw [this];rfl
theorem Xbf{t:Nat}(h0:0<t)(h:t<4294967296):∃s:Nat,s<32/\(32-(Lib.bitLen t:Int))=s/\2147483648<=t*2 ^ s/\(t+1)*2 ^ s<=4294967296:=by
 have h1:2 ^ Nat.log2 t<=t:=Nat.log2_self_le (by omega)
 have h2:t<2 ^ (Nat.log2 t+1):=Nat.lt_log2_self;have hl:Nat.log2 t<32:=by rw [Nat.log2_lt (by omega)];exact h
 rw [Wax h0 h];refine⟨31-Nat.log2 t,by omega,by omega,?_,?_⟩
 .have:=Nat.mul_le_mul_right (2 ^ (31-Nat.log2 t)) h1;rw [<-Nat.pow_add,show Nat.log2 t+(31-Nat.log2 t)=31 by omega]at this
  exact this
 .have:=Nat.mul_le_mul_right (2 ^ (31-Nat.log2 t)) (show t+1<=_ from h2);rw [<-Nat.pow_add,show Nat.log2 t+1+(31-Nat.log2 t)=32 by omega]at this
  exact this
theorem shifted{y:List Nat}{s:Nat}(hy:WL y)(hn:0<y.length)(h1:2147483648<=y.getD (y.length-1) 0*2 ^ s)(h2:(y.getD (y.length-1) 0+1)*2 ^ s<=4294967296) :
  val y*2 ^ s<4294967296 ^ y.length/\4294967296 ^ y.length<=2*(val y*2 ^ s):=by
 have e:=wH y (y.length-1) (by omega)
 rw [List.drop_of_length_le (by omega),Zm,Nat.mul_zero,Nat.add_zero]at e
 have hl:=Yl (vu hy (y.length-1));rw [List.length_take,Nat.min_eq_left (by omega)]at hl
 rw [e,QF hn];generalize y.getD (y.length-1) 0=t at *
 generalize 4294967296 ^ (y.length-1)=p at *
 generalize val (y.take (y.length-1))=v at *
 have hs:0<2 ^ s:=Nat.pow_pos (by omega)
 generalize 2 ^ s=q at *
 have a1:=Nat.mul_le_mul_left p h1;have a2:=Nat.mul_le_mul_left p h2;have a3:=(Nat.mul_lt_mul_right hs).2 hl;rw [Nat.add_mul,Nat.one_mul,Nat.mul_add]at a2;rw [Nat.add_mul,Nat.mul_assoc p t q];constructor
 .omega
 .have:2*(p*2147483648)=p*(2*2147483648):=Nat.mul_left_comm _ _ _;rw [show 2*2147483648=4294967296 from rfl]at this;rw [<-this];exact Nat.mul_le_mul_left 2 (Nat.le_trans a1 (Nat.le_add_left _ _))
theorem yaS{x y:List Nat}{s:Nat}(hx:WL x)(hs:s<32)(hV:4294967296 ^ y.length<=2*(val y*2 ^ s))(hl:y.length<=x.length+1) :
  val x*2 ^ s<val y*2 ^ s*4294967296 ^ (x.length+1-y.length):=by
 have h1:=Yl hx;have h2:=QT hs;have h3:4294967296 ^ x.length*4294967296=4294967296 ^ y.length*4294967296 ^ (x.length+1-y.length):=by
  rw [<-Nat.pow_succ,<-Nat.pow_add];congr 1;omega
 have h4:=Nat.mul_le_mul_right (4294967296 ^ (x.length+1-y.length)) hV;rw [<-h3,Nat.mul_assoc]at h4;have h5:val x*2 ^ s<4294967296 ^ x.length*2147483648:=
  Nat.lt_of_lt_of_le ((Nat.mul_lt_mul_right (Nat.pow_pos (by omega))).2 h1) (Nat.mul_le_mul_left _ h2)
 omega
theorem ka8{n V P:Nat}(hn:2<=n)(hV1:V<4294967296 ^ n)(hV2:4294967296 ^ n<=2*V)(hP:P<V*4294967296) :
  Step 4294967296 n V P (V / 4294967296 ^ (n-1) % 4294967296) (V / 4294967296 ^ (n-2) % 4294967296) (P / 4294967296 ^ n % 4294967296*4294967296+P / 4294967296 ^ (n-1) % 4294967296) (P / 4294967296 ^ (n-2) % 4294967296):=by
 have e1:4294967296 ^ n=4294967296 ^ (n-1)*4294967296:=QF (by omega)
 have e2:4294967296 ^ (n-1)=4294967296 ^ (n-2)*4294967296:=by rw [QF (show 0<n-1 by omega),show n-1-1=n-2 by omega]
 have hp:=pow_pos (n-2);have ht:V / 4294967296 ^ (n-1)<4294967296:=by
  rw [Nat.div_lt_iff_lt_mul (pow_pos _),Nat.mul_comm,<-e1];exact hV1
 have hh:P / 4294967296 ^ n<4294967296:=by
  rw [Nat.div_lt_iff_lt_mul (pow_pos _)];have:=(Nat.mul_lt_mul_right (show 0<4294967296 by omega)).2 hV1
  rw [Nat.mul_comm (4294967296 ^ n)]at this;omega
 have q1:V / 4294967296 ^ (n-1)=V / 4294967296 ^ (n-2) / 4294967296:=by rw [e2,Nat.div_div_eq_div_mul]
 have q2:P / 4294967296 ^ (n-1)=P / 4294967296 ^ (n-2) / 4294967296:=by rw [e2,Nat.div_div_eq_div_mul]
 have q3:P / 4294967296 ^ n=P / 4294967296 ^ (n-1) / 4294967296:=by rw [e1,Nat.div_div_eq_div_mul]
 refine⟨by omega,hn,⟨V % 4294967296 ^ (n-2),?_,Nat.mod_lt _ hp⟩,⟨P % 4294967296 ^ (n-2),?_,Nat.mod_lt _ hp⟩,Nat.mod_lt _ (by omega),Nat.mod_lt _ (by omega),?_,Nat.mod_lt _ (by omega),hP⟩
 .rw [Nat.mod_eq_of_lt ht,q1];rw [Nat.div_add_mod' (V / 4294967296 ^ (n-2)),Nat.mul_comm];exact(Nat.div_add_mod _ _).symm
 .rw [Nat.mod_eq_of_lt hh,q3,q2];rw [Nat.div_add_mod' (P / 4294967296 ^ (n-2) / 4294967296),Nat.div_add_mod' (P / 4294967296 ^ (n-2)),Nat.mul_comm];exact(Nat.div_add_mod _ _).symm
 .rw [Nat.mod_eq_of_lt ht];have:2147483648<=V / 4294967296 ^ (n-1):=by
   rw [Nat.le_div_iff_mul_le (pow_pos _)];rw [e1]at hV2;generalize 4294967296 ^ (n-1)=p at hV2 ⊢;omega
  omega
theorem qaS{a b:Nat}(h:¬a<b):(ordN a b<0)=False:=by
 unfold ordN;rw [if_neg h];split <;> simp
theorem xam{j X V A q Q:Nat}(hV:0<V)(hA:A=X+V*4294967296 ^ (j+1)*Q)(hq:q=X / 4294967296 ^ j / V) :
  A=(X % 4294967296 ^ j+4294967296 ^ j*(X / 4294967296 ^ j % V))+V*4294967296 ^ j*(q+4294967296*Q)/\X % 4294967296 ^ j+4294967296 ^ j*(X / 4294967296 ^ j % V)<V*4294967296 ^ j:=by
 have hp:=pow_pos j;rw [Nat.pow_succ]at hA;generalize 4294967296 ^ j=p at *
 have e1:=Nat.div_add_mod X p;have e2:=Nat.div_add_mod (X / p) V;have m1:=Nat.mod_lt X hp;have m2:=Nat.mod_lt (X / p) hV;rw [<-hq]at e2;generalize X % p=r at *
 generalize hS:X / p % V=S at *
 generalize X / p=Z at *
 generalize 4294967296=B at hA ⊢;subst hA e2 e1;constructor
 .grind
 .have:p*(S+1)<=p*V:=Nat.mul_le_mul_left _ m2;rw [Nat.mul_add,Nat.mul_one]at this;rw [Nat.mul_comm V];omega
theorem jQ(k X:Nat):dig k (X+4294967296 ^ k)=dig k X:=by
 rw [<-US,Nat.add_mod_right,US]
theorem qa4{k P V g:Nat}(hg:g=P / V):dig k (P+4294967296 ^ k-g*V)=dig k (P % V):=by
 have e:g*V+P % V=P:=by rw [hg,Nat.mul_comm];exact Nat.div_add_mod P V
 clear hg;generalize P % V=r at *
 generalize hp:4294967296 ^ k=p;rw [show P+p-g*V=r+p by omega,<-hp,jQ]
theorem Za0{k P V g:Nat}(hg:g=P / V+1)(hb:P<g*V)(hk:g*V<4294967296 ^ k):dig k (val (dig k (P+4294967296 ^ k-g*V))+V)=dig k (P % V):=by
 have e:P / V*V+P % V=P:=by rw [Nat.mul_comm];exact Nat.div_add_mod P V
 have:g*V=P / V*V+V:=by rw [hg,Nat.add_mul,Nat.one_mul]
 rw [uj,Nat.mod_eq_of_lt (by omega)]
 clear hg;generalize P / V*V=q at *
 generalize P % V=r at *
 generalize g*V=gv at *
 generalize hp:4294967296 ^ k=p at *
 rw [show P+p-gv+V=r+p by omega,<-hp,jQ]
theorem jaA{a b:Nat}(ha:a<4294967296)(hb:b<4294967296):a*b<18446744073709551616:=by
 have h:=VR ha hb (c:=0) (d:=0) (by decide) (by decide)
 rwa [Nat.zero_add,Nat.add_zero]at h
theorem XP{q:Nat}(h:q<4294967296):sub64 (q+1) 1=q:=by rw [yx (by omega) (by omega)];omega
theorem Ubf{r:Nat}(h:r<4294967296):r*4294967296 % 18446744073709551616=r*4294967296:=by omega
end Go.Num
end
section
namespace Go.Abs
open Go.Num
variable {P:Program} {Γ:Nat->Spec}
def uh(f0 f1 f2 f3 f4 f5 f6 f7:Nat):AC:=(.o [.m 4 (.c (.one .emp)),.m 5 (.c (.one .emp))] [0,1] (.f (.o [.M 19 0,.M 20 1,.D 21 f0 19 20,.I 22 .lss 21 0] [0,1,22] (.cond (.t 22) (.seq (.p [.M 23 0,.H 24 f1 23,.m 4 (.c (.one .emp)),.M 5 24]) .ret) .skip)) [0,1] (.f (.o [.M 25 1,.Z 26 25,.I 27 .eql 26 1] [0,1,27] (.cond (.t 27) (.o [.M 29 0,.M 30 1,.u 31 (.idx 1 (.t 30) (.i 0)),.F 32 1 31,.D 33 f2 29 32,.M 28 33,.X 34 0 28,.X 35 1 28,.M 6 34,.M 7 35] [6,7] (.seq (.p [.M 36 6,.M 37 7,.u 38 (.row 1 [[.x 1 (.t 37)]]),.H 39 f1 38,.M 4 36,.M 5 39]) .ret)) .skip)) [0,1] (.o [.M 40 1,.M 41 1,.Z 42 41,.I 43 .sub 42 1,.J 44 1 40 43,.F 45 1 44,.H 46 f3 45,.M 8 46] [0,1,8] (.f (.y [.M 47 1,.M 48 8,.u 49 (.callf f4 [(.t 47),(.t 48)]),.M 50 1,.Z 51 50,.u 52 (.sl 1 (.t 49) none (some (.t 51))),.M 53 0,.M 54 8,.u 55 (.callf f4 [(.t 53),(.t 54)]),.M 9 52,.M 10 55]) [8,9,10] (.fz [9] (.o [.M 56 10,.Z 57 56,.M 58 9,.Z 59 58,.B 60 .sub 57 59,.u 61 (.mk 1 [(.lit (.int .u32 0))] (.t 60) (.t 60)),.M 11 61] [8,9,10,11] (.f (.y [.M 62 9,.M 63 9,.Z 64 63,.I 65 .sub 64 1,.J 66 1 62 65,.F 67 1 66,.u 68 (.conv .u64 (.t 67)),.M 69 9,.M 70 9,.Z 71 70,.I 72 .sub 71 2,.J 73 1 69 72,.F 74 1 73,.u 75 (.conv .u64 (.t 74)),.M 12 68,.M 13 75]) [8,9,10,11,12,13] (.f (.o [.M 76 11,.Z 77 76,.I 78 .sub 77 1,.M 14 78] [8,9,10,11,12,13,14] (.block 0 (.loop (.f (.o [.M 79 14,.I 80 .geq 79 0] [8,9,10,11,12,13,14,80] (.cond (.t 80) .skip (.exit 0))) [8,9,10,11,12,13,14] (.f (.block 1 (.o [.M 83 10,.M 84 14,.M 85 14,.M 86 9,.Z 87 86,.B 88 .add 85 87,.I 89 .add 88 1,.u 90 (.sl 1 (.t 83) (some (.t 84)) (some (.t 89))),.M 15 90] [8,9,10,11,12,13,14,15] (.f (.y [.M 91 15,.M 92 9,.Z 93 92,.J 94 1 91 93,.F 95 1 94,.u 96 (.conv .u64 (.t 95)),.u 97 (.bin .shl (.t 96) (.c (.one (.lit (.int .u64 32))))),.M 98 15,.M 99 9,.Z 100 99,.I 101 .sub 100 1,.J 102 1 98 101,.F 103 1 102,.u 104 (.conv .u64 (.t 103)),.B 105 .or 97 104,.M 16 105]) [8,9,10,11,12,13,14,15,16] (.f (.y [.M 106 16,.M 107 12,.B 108 .quo 106 107,.M 109 16,.M 110 12,.B 111 .rem 109 110,.M 17 108,.M 18 111]) [8,9,10,11,12,13,14,15,17,18] (.f (.block 2 (.loop (.f (.o [.M 112 18,.u 113 (.bin .lss (.t 112) (.c (.one (.lit (.int .u64 4294967296))))),.M 114 113,.V 115 114 true 17,.w 116 114 true (.bin .geq (.t 115) (.c (.one (.lit (.int .u64 4294967296))))),.V 117 114 true 116,.V 118 117 false 17,.V 119 117 false 13,.w 120 117 false (.bin .mul (.t 118) (.t 119)),.V 121 117 false 18,.w 122 117 false (.bin .shl (.t 121) (.c (.one (.lit (.int .u64 32))))),.V 123 117 false 15,.V 124 117 false 9,.w 125 117 false (.len (.t 124)),.w 126 117 false (.bin .sub (.t 125) (.i 2)),.w 127 117 false (.idx 1 (.t 123) (.t 126)),.U 128 117 false 1 false 127,.w 129 117 false (.conv .u64 (.t 128)),.w 130 117 false (.bin .or (.t 122) (.t 129)),.w 131 117 false (.bin .gtr (.t 120) (.t 130)),.w 132 114 true (.pick (.t 117) .tr (.t 131)),.P 133 114 132] [8,9,10,11,12,13,14,15,17,18,133] (.cond (.t 133) .skip (.exit 2))) [8,9,10,11,12,13,14,15,17,18] (.block 3 (.o [.M 134 17,.u 135 (.bin .sub (.t 134) (.c (.one (.lit (.int .u64 1))))),.M 17 135] [8,9,10,11,12,13,14,15,17,18] (.p [.M 136 18,.M 137 12,.B 138 .add 136 137,.M 18 138])))))) [8,9,10,11,12,13,14,15,17] (.f (.o [.M 139 15,.M 140 9,.M 141 17,.E 142 f5 139 140 141] [8,9,10,11,12,13,14,15,17,142] (.cond (.t 142) (.o [.M 143 17,.u 144 (.bin .sub (.t 143) (.c (.one (.lit (.int .u64 1))))),.M 17 144] [8,9,10,11,12,13,14,15,17] (.p [.M 145 15,.M 146 9,.D 147 f6 145 146])) .skip)) [8,9,10,11,12,13,14,17] (.p [.M 148 11,.M 149 14,.M 150 17,.u 151 (.conv .u32 (.t 150)),.J 152 1 148 149,.S 1 152 151]))))))) [8,9,10,11,12,13,14] (.p [.M 81 14,.I 82 .sub 81 1,.M 14 82])))))) [8,10,11] (.seq (.p [.M 153 11,.H 154 f1 153,.M 155 10,.M 156 8,.D 157 f7 155 156,.M 4 154,.M 5 157]) .ret))))))))))
set_option maxHeartbeats 4000000 in
theorem QZ(hΓ:Holds P Γ){f fcmp ftrim fshort flz fup frem fback fdown:Nat}(h1:Γ fcmp=.dat false Zn)(h2:Γ ftrim=.dat false wv)(h3:Γ fshort=.dat false Vz)(h4:Γ flz=.dat true lz_G)
  (h5:Γ fup=.fresh 1 up_G) (h6:Γ frem=.own Vo) (h7:Γ fback=.own yB) (h8:Γ fdown=.dat false UO)
  (hc:check P f=some (158,(uh fcmp ftrim fshort flz fup frem fback fdown).strip,[.tmp 4,.tmp 5])):Sound P f (.dat false Uk):=by
 refine Qa hc ZI hΓ (λargs K hcl hfi hG=>?_);match args,hG with
 | [a,b],hG=>
  obtain⟨x,rfl,hx,y,rfl,hy,hzx,hzy,hy0,hxl,hyl,hK⟩:=hG;refine⟨by simp,?_⟩
  have hn:0<y.length:=by cases y with | nil=>exact(hy0 rfl).elim | cons=>simp
  have ht0:y.getD (y.length-1) 0≠0:=by
   intro e;refine hzy ?_;rw [List.getLast?_eq_getElem?];rw [List.getD_eq_getElem?_getD,List.getElem?_eq_getElem (by omega)]at e
   rw [List.getElem?_eq_getElem (by omega)]
   simpa using e
  have htB:=Qb hy (y.length-1);obtain⟨s,hs32,hs,hs1,hs2⟩:=Xbf (Nat.pos_of_ne_zero ht0) htB;have hlast:((y.length:Int)-1).toNat=y.length-1:=by omega
  have hle:(y.length<=y.length+1)=True:=eq_true (by omega)
  obtain⟨hV1,hV2⟩:=shifted hy hn hs1 hs2;by_cases hlt:val x<val y
  .simp only [go_sem,uh,h1,h2,h3,h4,h5,h8,ZT hlt];refine⟨hx,hy,hzx,hzy,λ_=>⟨hx,by omega,?_⟩,λh=>absurd (show(-1:Int)<0 by omega) h⟩
   rw [Nat.div_eq_of_lt hlt,Nat.mod_eq_of_lt hlt,Zb]at hK;exact hK
  have hlen:y.length<=x.length:=by
   rcases Nat.lt_or_ge x.length y.length with h | h
   .exact absurd (YJ hx hzy h) hlt
   .exact h
  obtain⟨M,hM⟩:∃M,M=x.length+1-y.length:=⟨_,rfl⟩;have hM2:((x.length+1:Nat):Int)-(y.length:Int)=(M:Int):=by omega
  simp only [go_sem,uh,h1,h2,h3,h4,h5,h8,hlast,hs,wa,YaX,hle,qaS hlt,hM2];refine⟨hx,hy,hzx,hzy,λ_=>⟨λhone=>?_,λhone=>?_⟩⟩
  .have hone:y.length=1:=by omega
   match y,hone with
   | [t],_=>
    simp only [List.length_singleton,Nat.sub_self,List.getD_cons_zero]at ht0 htB ⊢;refine⟨by omega,by omega,hx,by omega,by omega,by omega,Xb.2 ⟨Nat.lt_trans (Nat.mod_lt _ (by omega)) htB,Ub⟩,?_⟩
    simpa [val] using hK
  have hone:2<=y.length:=by omega
  generalize hV:val y*2 ^ s=V at hV1 hV2;generalize hA:val x*2 ^ s=A;generalize hnn:y.length=n at *
  generalize hLL:x.length+1=L at *
  have hV0:0<V:=by have:=pow_pos n;omega
  have htop:(dig n V).getD (n-1) 0=V / 4294967296 ^ (n-1) % 4294967296:=uU _ _ _ (by omega)
  have hnext:(dig n V).getD ((n:Int)-2).toNat 0=V / 4294967296 ^ (n-2) % 4294967296:=by
   rw [show((n:Int)-2).toNat=n-2 by omega];exact uU _ _ _ (by omega)
  have hvv:val (dig n V)=V:=by rw [uj,Nat.mod_eq_of_lt hV1]
  repeat first | refine q_Wk ?_ | intro _
  obtain⟨top,htd⟩:∃t,t=V / 4294967296 ^ (n-1) % 4294967296:=⟨_,rfl⟩;obtain⟨next,hnd⟩:∃t,t=V / 4294967296 ^ (n-2) % 4294967296:=⟨_,rfl⟩
  have htB:top<4294967296:=by rw [htd];exact Nat.mod_lt _ (by omega)
  have hnB:next<4294967296:=by rw [hnd];exact Nat.mod_lt _ (by omega)
  rw [htop,hnext,<-htd,<-hnd,Nat.mod_eq_of_lt (show top<18446744073709551616 by omega),Nat.mod_eq_of_lt (show next<18446744073709551616 by omega)]
  have hstart:=yaS hx hs32 (y:=y) (by rw [hnn,hV];exact hV2) (by omega)
  rw [hV,hA,hLL,hnn,<-hM]at hstart;refine ja (λp:Nat×Nat×List Nat=>⟨mkV [(8,.one (.lit (.int .i64 s))),(9,wsA (dig n V)),(10,.one (.own 55 1 1 0 L)),(11,.one (.own 61 1 1 0 M)),(12,.one (.lit (.int .u64 top))),(13,.one (.lit (.int .u64 next))),(14,.one (.lit (.int .i64 ((p.1:Int)-1))))],
    mkH [(55,⟨1,some ⟨(dig L p.2.1).map wc,1,true⟩⟩),(61,⟨1,some ⟨(List.replicate p.1 0++p.2.2).map wc,1,true⟩⟩)]⟩)
   (λp=>p.1<=M/\p.2.1<V*4294967296 ^ p.1/\A=p.2.1+V*4294967296 ^ p.1*val p.2.2/\WL p.2.2/\p.2.2.length=M-p.1) (λp=>p.1) (M,A,[]) ?_ ?_ ?_
  .exact za (by simp [bitvec_to_nat]) ⟨Ua rfl,Ua (by simp),trivial⟩
  .exact⟨Nat.le_refl _,hstart,by simp [val],Ub,by simp⟩
  .rintro⟨j1,X,qd⟩ ⟨hj,hX,hAX,hqd,hqdl⟩;simp only at hj hX hAX hqd hqdl;have hql:(List.replicate j1 0++qd).length=M:=by simp;omega
   rcases Nat.eq_zero_or_pos j1 with hj0 | hj0
   .subst hj0;simp only [Nat.pow_zero,Nat.mul_one]at hX hAX;have h0f:((0:Int)<=((0:Nat):Int)-1)=False:=eq_false (by omega)
    simp only [go_sem,h1,h2,h3,h4,h5,h8,wa,hql,h0f];refine⟨hqd,by omega,yk _ _,by omega,by omega,?_⟩
    have hXL:X<4294967296 ^ L:=Nat.lt_trans hX (Nat.lt_of_lt_of_le hV1 (Nat.pow_le_pow_right (by omega) (by omega)))
    rw [uj,Nat.mod_eq_of_lt hXL];have hs0:0<2 ^ s:=Nat.pow_pos (by omega)
    have hA2:=(Nat.div_mod_unique hV0 (a:=A) (c:=X) (d:=val qd)).2 ⟨hAX.symm,hX⟩;have e1:val x / val y=val qd:=by rw [<-hA2.1,<-hA,<-hV,Nat.mul_div_mul_right _ _ hs0]
    have e2:val x % val y=X / 2 ^ s:=by
     rw [<-hA2.2,<-hA,<-hV,Nat.mul_mod_mul_right,Nat.mul_div_cancel _ hs0]
    rw [e1,e2]at hK;exact hK
   .obtain⟨j,rfl⟩:∃j,j1=j+1:=⟨j1-1,by omega⟩
    have hj1:(((j+1:Nat):Int)-1)=(j:Int):=by omega
    simp only [hj1];generalize hPP:X / 4294967296 ^ j=P';have hPV:P' < V*4294967296:=by
     rw [<-hPP,Nat.div_lt_iff_lt_mul (pow_pos _),Nat.mul_assoc,Nat.mul_comm 4294967296,<-Nat.pow_succ];exact hX
    have hPL:P' < 4294967296 ^ (n+1):=by
     have:=(Nat.mul_lt_mul_right (show 0<4294967296 by omega)).2 hV1
     rw [Nat.pow_succ];exact Nat.lt_trans hPV this
    have st:=ka8 hone hV1 hV2 hPV;rw [<-htd,<-hnd]at st;have hread:∀k,k<=n->(dig L X).getD (j+k) 0=P' / 4294967296 ^ k % 4294967296:=by
     intro k hk;rw [uU _ _ _ (by omega),Nat.pow_add,<-Nat.div_div_eq_div_mul,hPP]
    have hr0:=hread n (Nat.le_refl _);have hr1:=hread (n-1) (by omega)
    have hr2:=hread (n-2) (by omega)
    obtain⟨a,ha⟩:∃a,a=P' / 4294967296 ^ n % 4294967296:=⟨_,rfl⟩;obtain⟨b,hb⟩:∃b,b=P' / 4294967296 ^ (n-1) % 4294967296:=⟨_,rfl⟩;obtain⟨u2,hu⟩:∃u2,u2=P' / 4294967296 ^ (n-2) % 4294967296:=⟨_,rfl⟩;rw [<-ha]at hr0 st;rw [<-hb]at hr1 st;rw [<-hu]at hr2 st;have haB:a<4294967296:=by rw [ha];exact Nat.mod_lt _ (by omega)
    have hbB:b<4294967296:=by rw [hb];exact Nat.mod_lt _ (by omega)
    have huB:u2<4294967296:=by rw [hu];exact Nat.mod_lt _ (by omega)
    have htop0:0<top:=by have:=st.half;omega
    have hsub:j+n+1-j=n+1:=by omega
    have hsub1:((n:Int)-1).toNat=n-1:=by omega
    have hsub2:((n:Int)-2).toNat=n-2:=by omega
    have ea1:a % 18446744073709551616=a:=by omega
    have ea2:a*4294967296 % 18446744073709551616=a*4294967296:=by omega
    have eb1:b % 18446744073709551616=b:=by omega
    have eu1:u2 % 18446744073709551616=u2:=by omega
    have eor:=or32 a b hbB;simp only [go_sem,h1,h2,h3,h4,h5,h8,wa,hql,hsub,hsub1,hsub2,hr0,hr1,hr2,ea1,ea2,eb1,eor];repeat first | refine q_Wk ?_ | intro _
    obtain⟨q1,q2⟩:=st.first
    generalize hhead:a*4294967296+b=head at *
    have hqB:=st.quot;rw [Nat.mod_eq_of_lt (show head / top<18446744073709551616 by omega)]
    refine ja (λp:Nat×Nat=>⟨mkV [(8,.one (.lit (.int .i64 s))),(9,wsA (dig n V)),(10,.one (.own 55 1 1 0 L)),(11,.one (.own 61 1 1 0 M)),(12,.one (.lit (.int .u64 top))),(13,.one (.lit (.int .u64 next))),(14,.one (.lit (.int .i64 j))),(15,.one (.own 55 1 1 j (n+1))),(17,.one (.lit (.int .u64 p.1))),(18,.one (.lit (.int .u64 p.2)))],
      mkH [(55,⟨1,some ⟨(dig L X).map wc,1,true⟩⟩),(61,⟨1,some ⟨(List.replicate (j+1) 0++qd).map wc,1,true⟩⟩)]⟩)
     (λp=>p.1*top+p.2=head/\P' / V<=p.1/\p.1<=4294967297/\p.2<8589934592/\(4294967296<p.1->p.2<4294967296)) (λp=>p.1) (head / top,head % top) ?_ ?_ ?_
    .exact za (by simp [bitvec_to_nat]) ⟨Ua rfl,Ua rfl,trivial⟩
    .have m1:=Nat.mod_lt head htop0;exact⟨Nat.div_add_mod' head top,q2,q1,by simp only;omega,λ_=>by simp only;omega⟩
    .rintro⟨g,r⟩ ⟨hg,hqg,hgB,hrB,hgr⟩;simp only at hg hqg hgB hrB hgr;rcases Nat.lt_or_ge r 4294967296 with hr | hr
     .have hr' : ((r:Int)<4294967296)=True:=eq_true (by omega)
      rcases Nat.lt_or_ge g 4294967296 with hgl | hgl
      .have hg' : ((4294967296:Int)<=(g:Int))=False:=eq_false (by omega)
       have hm:g*next<18446744073709551616:=jaA hgl hnB
       have em:g*next % 18446744073709551616=g*next:=by rw [Nat.mod_eq_of_lt hm]
       have er:=Ubf hr;have eo:=or32 r u2 huB;by_cases hcmp:r*4294967296+u2<g*next
       .simp only [go_sem,h1,h2,h3,h4,h5,h6,h7,h8,wa,hql,hsub,hsub1,hsub2,hr0,hr1,hr2,eu1,hr',hg',em,er,eo,hcmp];repeat first | refine q_Wk ?_ | intro _
        have hdown:4294967296<=g∨r*4294967296+u2<g*next:=.inr hcmp
        have hdn:=st.down hg hdown;have hg0:1<=g:=Nat.lt_of_le_of_lt (Nat.zero_le _) hdn;have hqg1:P' / V<=g-1:=Nat.le_sub_one_of_lt hdn;have hg1:sub64 g 1=g-1:=yx hg0 (by omega)
        refine⟨(g-1,r+top),za (by simp [bitvec_to_nat,hg1];omega) ⟨Ua rfl,Ua rfl,trivial⟩,⟨?_,hqg1,by simp only;omega,by simp only;omega,λ_=>by simp only at *;omega⟩,by simp only;omega⟩
        simp only;obtain⟨g',rfl⟩:∃g',g=g' + 1:=⟨g-1,by omega⟩
        rw [Nat.add_sub_cancel,<-hg,Nat.add_mul];omega
       .simp only [go_sem,h1,h2,h3,h4,h5,h6,h7,h8,wa,hql,hsub,hsub1,hsub2,hr0,hr1,hr2,eu1,hr',hg',em,er,eo,hcmp];repeat first | refine q_Wk ?_ | intro _
        have hstop:4294967296<=r∨(g<4294967296/\g*next<=r*4294967296+u2):=.inr ⟨hgl,by omega⟩
        have hgB2:g<=4294967296:=by omega
        have hle:=st.stop hg hgB2 hstop;obtain⟨l1,l2⟩:=st.left hqg hle;have hgV:g*V<4294967296 ^ (n+1):=by
         have a1:=Nat.mul_le_mul_right V hgB2;have a2:=(Nat.mul_lt_mul_left (show 0<4294967296 by omega)).2 hV1
         rw [Nat.pow_succ,Nat.mul_comm (4294967296 ^ n)];exact Nat.lt_of_le_of_lt a1 a2
        have hsplit:=jJ (L:=L) (j:=j) (n:=n) (X:=X) (by omega) (by rw [hPP];exact hPL)
        rw [hPP]at hsplit;have hvp:val (dig (n+1) P')=P':=by rw [uj,Nat.mod_eq_of_lt hPL]
        have hrl:P' % V<4294967296 ^ (n+1):=Nat.lt_of_le_of_lt (Nat.mod_le _ _) hPL;have hjoin:=qai (L:=L) (j:=j) (n:=n) (X:=X) (by omega) hrl
        have hdiv:=xam (j:=j) (q:=P' / V) hV0 hAX (by rw [hPP])
        rw [hPP]at hdiv;simp only [Vo,jE];refine⟨yk _ _,dig j X,dig (n+1) P',List.replicate (L-(j+(n+1))) 0,g,(wa _ _).symm,(wa _ _).symm,rfl,by simp only [qa,↓reduceIte,Nat.reduceEqDiff];rw [hsplit],yk _ _,hgB2,by rw [wa,wa];omega,by rw [hvv,wa];exact hgV,by rw [wa];omega,?_⟩
        rw [hvp,hvv,wa];by_cases hb:P' < g*V
        .have hgq:=l1 hb;simp only [go_sem,h1,h2,h3,h4,h5,h7,h8,hb,hql];simp only [yB,jE];refine⟨yk _ _,dig j X,dig (n+1) (P' + 4294967296 ^ (n+1)-g*V),List.replicate (L-(j+(n+1))) 0,(wa _ _).symm,(wa _ _).symm,by simp only [qa,↓reduceIte,Nat.reduceEqDiff],yk _ _,by rw [wa,wa];omega,by rw [wa];omega,?_⟩
         rw [wa,hvv,Za0 hgq hb hgV,hjoin];have hg1:sub64 g 1=P' / V:=by rw [hgq];exact XP hqB
         simp only [go_sem,h1,h2,h3,h4,h5,h7,h8,hql,hg1];rw [Nat.mod_eq_of_lt hqB];have hset:=Jp (n:=j+1) qd (P' / V) (by omega)
         rw [Nat.add_sub_cancel]at hset;rw [hset];repeat first | refine q_Wk ?_ | intro _
         exact⟨(j,X % 4294967296 ^ j+4294967296 ^ j*(P' % V),P' / V::qd),za (by simp [bitvec_to_nat]) ⟨Ua rfl,Ua rfl,trivial⟩,⟨by simp only;omega,hdiv.2,hdiv.1,Xb.2 ⟨hqB,hqd⟩,by simp only [List.length_cons];omega⟩,by simp only;omega⟩
        .have hgq:=l2 hb;rw [qa4 hgq,hjoin];simp only [go_sem,h1,h2,h3,h4,h5,h7,h8,hb,hql];rw [hgq,Nat.mod_eq_of_lt hqB];have hset:=Jp (n:=j+1) qd (P' / V) (by omega)
         rw [Nat.add_sub_cancel]at hset;rw [hset];repeat first | refine q_Wk ?_ | intro _
         exact⟨(j,X % 4294967296 ^ j+4294967296 ^ j*(P' % V),P' / V::qd),za (by simp [bitvec_to_nat]) ⟨Ua rfl,Ua rfl,trivial⟩,⟨by simp only;omega,hdiv.2,hdiv.1,Xb.2 ⟨hqB,hqd⟩,by simp only [List.length_cons];omega⟩,by simp only;omega⟩
      .have hg' : ((4294967296:Int)<=(g:Int))=True:=eq_true (by omega)
       simp only [go_sem,h1,h2,h3,h4,h5,h6,h7,h8,wa,hql,hsub,hsub1,hsub2,hr0,hr1,hr2,eu1,hr',hg'];repeat first | refine q_Wk ?_ | intro _
       have hdown:4294967296<=g∨r*4294967296+u2<g*next:=.inl hgl
       have hdn:=st.down hg hdown;have hg0:1<=g:=Nat.lt_of_le_of_lt (Nat.zero_le _) hdn;have hqg1:P' / V<=g-1:=Nat.le_sub_one_of_lt hdn;have hg1:sub64 g 1=g-1:=yx hg0 (by omega)
       refine⟨(g-1,r+top),za (by simp [bitvec_to_nat,hg1];omega) ⟨Ua rfl,Ua rfl,trivial⟩,⟨?_,hqg1,by simp only;omega,by simp only;omega,λ_=>by simp only at *;omega⟩,by simp only;omega⟩
       simp only;obtain⟨g',rfl⟩:∃g',g=g' + 1:=⟨g-1,by omega⟩
       rw [Nat.add_sub_cancel,<-hg,Nat.add_mul];omega
     .have hr' : ((r:Int)<4294967296)=False:=eq_false (by omega)
      simp only [go_sem,h1,h2,h3,h4,h5,h6,h7,h8,wa,hql,hsub,hsub1,hsub2,hr0,hr1,hr2,eu1,hr'];repeat first | refine q_Wk ?_ | intro _
      have hstop:4294967296<=r∨(g<4294967296/\g*next<=r*4294967296+u2):=.inl hr
      have hgB2:g<=4294967296:=by omega
      have hle:=st.stop hg hgB2 hstop;obtain⟨l1,l2⟩:=st.left hqg hle;have hgV:g*V<4294967296 ^ (n+1):=by
       have a1:=Nat.mul_le_mul_right V hgB2;have a2:=(Nat.mul_lt_mul_left (show 0<4294967296 by omega)).2 hV1
       rw [Nat.pow_succ,Nat.mul_comm (4294967296 ^ n)];exact Nat.lt_of_le_of_lt a1 a2
      have hsplit:=jJ (L:=L) (j:=j) (n:=n) (X:=X) (by omega) (by rw [hPP];exact hPL)
      rw [hPP]at hsplit;have hvp:val (dig (n+1) P')=P':=by rw [uj,Nat.mod_eq_of_lt hPL]
      have hrl:P' % V<4294967296 ^ (n+1):=Nat.lt_of_le_of_lt (Nat.mod_le _ _) hPL;have hjoin:=qai (L:=L) (j:=j) (n:=n) (X:=X) (by omega) hrl
      have hdiv:=xam (j:=j) (q:=P' / V) hV0 hAX (by rw [hPP])
      rw [hPP]at hdiv;simp only [Vo,jE];refine⟨yk _ _,dig j X,dig (n+1) P',List.replicate (L-(j+(n+1))) 0,g,(wa _ _).symm,(wa _ _).symm,rfl,by simp only [qa,↓reduceIte,Nat.reduceEqDiff];rw [hsplit],yk _ _,hgB2,by rw [wa,wa];omega,by rw [hvv,wa];exact hgV,by rw [wa];omega,?_⟩
      rw [hvp,hvv,wa];by_cases hb:P' < g*V
      .have hgq:=l1 hb;simp only [go_sem,h1,h2,h3,h4,h5,h7,h8,hb,hql];simp only [yB,jE];refine⟨yk _ _,dig j X,dig (n+1) (P' + 4294967296 ^ (n+1)-g*V),List.replicate (L-(j+(n+1))) 0,(wa _ _).symm,(wa _ _).symm,by simp only [qa,↓reduceIte,Nat.reduceEqDiff],yk _ _,by rw [wa,wa];omega,by rw [wa];omega,?_⟩
       rw [wa,hvv,Za0 hgq hb hgV,hjoin];have hg1:sub64 g 1=P' / V:=by rw [hgq];exact XP hqB
       simp only [go_sem,h1,h2,h3,h4,h5,h7,h8,hql,hg1];rw [Nat.mod_eq_of_lt hqB];have hset:=Jp (n:=j+1) qd (P' / V) (by omega)
       rw [Nat.add_sub_cancel]at hset;rw [hset];repeat first | refine q_Wk ?_ | intro _
       exact⟨(j,X % 4294967296 ^ j+4294967296 ^ j*(P' % V),P' / V::qd),za (by simp [bitvec_to_nat]) ⟨Ua rfl,Ua rfl,trivial⟩,⟨by simp only;omega,hdiv.2,hdiv.1,Xb.2 ⟨hqB,hqd⟩,by simp only [List.length_cons];omega⟩,by simp only;omega⟩
      .have hgq:=l2 hb;rw [qa4 hgq,hjoin];simp only [go_sem,h1,h2,h3,h4,h5,h7,h8,hb,hql];rw [hgq,Nat.mod_eq_of_lt hqB];have hset:=Jp (n:=j+1) qd (P' / V) (by omega)
       rw [Nat.add_sub_cancel]at hset;rw [hset];repeat first | refine q_Wk ?_ | intro _
       exact⟨(j,X % 4294967296 ^ j+4294967296 ^ j*(P' % V),P' / V::qd),za (by simp [bitvec_to_nat]) ⟨Ua rfl,Ua rfl,trivial⟩,⟨by simp only;omega,hdiv.2,hdiv.1,Xb.2 ⟨hqB,hqd⟩,by simp only [List.length_cons];omega⟩,by simp only;omega⟩
end Go.Abs
end
section
namespace Go.Abs
open Go.Num
variable {P:Program} {Γ:Nat->Spec}
def wj:AC:=(.o [.K 1 2 0,.m 2 .fa] [1] (.f (.o [.A 3 1 1,.F 4 1 3,.Z 5 4,.I 6 .eql 5 0] [1,6] (.cond (.t 6) (.seq (.p [.A 7 0 1,.F 8 1 7,.u 9 (.un .not (.t 8)),.M 2 9]) .ret) .skip)) [1] (.seq (.p [.A 10 1 1,.F 11 1 10,.A 12 1 1,.F 13 1 12,.Z 14 13,.I 15 .sub 14 1,.J 16 1 11 15,.F 17 1 16,.u 18 (.bin .neq (.t 17) (.c (.one (.lit (.int .u32 0))))),.M 2 18]) .ret)))
def Wm(f0:Nat):AC:=(.o [.K 1 2 0,.m 2 (.c (.one .emp))] [1] (.f (.o [.L 3 2 1,.H 4 f0 3,.u 5 (.un .not (.t 4))] [1,5] (.cond (.t 5) (.seq (.p [.m 2 (.c (.one .emp))]) .ret) .skip)) [1] (.seq (.p [.A 6 1 1,.F 7 1 6,.M 2 7]) .ret)))
def qn(f0:Nat):AC:=(.o [.K 1 2 0,.m 2 .fa] [1] (.seq (.p [.L 3 2 1,.H 4 f0 3,.M 5 4,.T 6 5 true 0 1,.U 7 5 true 1 false 6,.P 8 5 7,.M 2 8]) .ret))
def Xn(f0:Nat):AC:=(.o [.G 4 [.z,.emp]] [0,1,4] (.o [.M 5 1,.H 6 f0 5,.M 1 6] [0,1,4] (.seq (.p [.M 7 0,.M 8 7,.V 9 8 true 1,.w 10 8 true (.len (.t 9)),.w 11 8 true (.bin .gtr (.t 10) (.i 0)),.P 12 8 11,.M 13 1,.u 14 (.build [.x 1 (.t 12),.x 1 (.t 13)]),.S 2 4 14]) .ret)))
def jo(f0:Nat):AC:=(.o [.G 2 [.z,.emp]] [0,2] (.o [.M 4 0,.u 5 (.conv .u64 (.t 4)),.M 3 5] [0,2,3] (.f (.o [.M 6 0,.I 7 .lss 6 0] [0,2,3,7] (.cond (.t 7) (.p [.M 8 3,.u 9 (.un .neg (.t 8)),.M 3 9]) .skip)) [0,2,3] (.seq (.p [.M 10 0,.I 11 .lss 10 0,.M 12 3,.u 13 (.conv .u32 (.t 12)),.M 14 3,.u 15 (.bin .shr (.t 14) (.c (.one (.lit (.int .u64 32))))),.u 16 (.conv .u32 (.t 15)),.u 17 (.row 1 [[.x 1 (.t 13)],[.x 1 (.t 16)]]),.D 18 f0 11 17,.S 2 2 18]) .ret))))
def xp(f0:Nat):AC:=(.o [.K 1 2 0,.N 2 0] [1] (.f (.block 0 (.o [.L 4 2 1,.H 5 f0 4,.Z 6 5,.I 7 .eql 6 0,.M 3 7] [1,3] (.cond (.t 3) (.seq (.p [.N 2 0]) .ret) (.o [.A 9 0 1,.F 10 1 9,.M 8 10] [8] (.cond (.t 8) (.seq (.p [.N 2 (-1)]) .ret) .skip))))) [] (.seq (.p [.N 2 1]) .ret)))
def xr(f0 f1 f2 f3:Nat):AC:=(.o [.K 2 2 0,.K 3 2 1,.N 4 0] [2,3] (.f (.f (.y [.L 8 2 2,.H 9 f0 8,.L 10 2 3,.H 11 f0 10,.M 5 9,.M 6 11]) [2,3,5,6] (.o [.M 12 5,.M 13 6,.B 14 .neq 12 13] [2,3,5,6,14] (.cond (.t 14) (.f (.o [.M 15 5,.M 16 6,.B 17 .lss 15 16] [17] (.cond (.t 17) (.seq (.p [.N 4 (-1)]) .ret) .skip)) [] (.seq (.p [.N 4 1]) .ret)) .skip))) [2,3] (.f (.y [.L 18 2 2,.H 19 f1 18,.L 20 2 3,.H 21 f1 20,.D 22 f2 19 21,.M 7 22]) [2,7] (.f (.o [.L 23 2 2,.H 24 f3 23] [7,24] (.cond (.t 24) (.seq (.p [.M 25 7,.u 26 (.un .neg (.t 25)),.M 4 26]) .ret) .skip)) [7] (.seq (.p [.M 27 7,.M 4 27]) .ret)))))
def xm(f0 f1 f2:Nat):AC:=(.o [.K 1 2 0,.G 2 [.z,.emp]] [1,2] (.seq (.y [.L 3 2 1,.H 4 f0 3,.u 5 (.un .not (.t 4)),.L 6 2 1,.H 7 f1 6,.D 8 f2 5 7,.S 2 2 8]) .ret))
def yr(f0 f1 f2 f3 f4 f5:Nat):AC:=(.o [.K 2 2 0,.K 3 2 1,.G 4 [.z,.emp]] [2,3,4] (.f (.y [.L 7 2 2,.H 8 f0 7,.L 9 2 3,.H 10 f0 9,.M 5 8,.M 6 10]) [2,3,4,5,6] (.f (.block 0 (.f (.y [.L 12 2 2,.H 13 f1 12,.L 14 2 3,.H 15 f1 14,.u 16 (.binb .eql (.t 13) (.t 15)),.M 11 16]) [2,3,4,5,6,11] (.cond (.t 11) (.seq (.p [.L 17 2 2,.H 18 f1 17,.M 19 5,.M 20 6,.D 21 f2 19 20,.D 22 f3 18 21,.S 2 4 22]) .ret) (.o [.M 24 5,.M 25 6,.D 26 f4 24 25,.I 27 .geq 26 0,.M 23 27] [2,3,4,5,6,23] (.cond (.t 23) (.seq (.p [.L 28 2 2,.H 29 f1 28,.M 30 5,.M 31 6,.D 32 f5 30 31,.D 33 f3 29 32,.S 2 4 33]) .ret) .skip))))) [3,4,5,6] (.seq (.p [.L 34 2 3,.H 35 f1 34,.M 36 6,.M 37 5,.D 38 f5 36 37,.D 39 f3 35 38,.S 2 4 39]) .ret))))
def Xm(f0 f1 f2 f3:Nat):AC:=(.o [.K 2 2 0,.K 3 2 1,.G 4 [.z,.emp]] [2,3,4] (.seq (.y [.L 5 2 2,.H 6 f0 5,.L 7 2 3,.H 8 f0 7,.u 9 (.binb .neq (.t 6) (.t 8)),.L 10 2 2,.H 11 f1 10,.L 12 2 3,.H 13 f1 12,.D 14 f2 11 13,.D 15 f3 9 14,.S 2 4 15]) .ret))
def Wr(f0 f1 f2:Nat):AC:=(.o [.K 2 2 0,.K 3 2 1,.G 4 [.z,.emp]] [2,3,4] (.f (.y [.L 9 2 2,.H 10 f0 9,.L 11 2 3,.H 12 f0 11,.M 5 10,.M 6 12]) [4,5,6] (.f (.block 0 (.loop (.f (.o [.M 13 6,.Z 14 13,.I 15 .gtr 14 0] [4,5,6,15] (.cond (.t 15) .skip (.exit 0))) [4,5,6] (.block 1 (.o [.M 17 5,.M 18 6,.D 19 f1 17 18,.M 16 19,.X 20 0 16,.X 21 1 16,.M 7 20,.M 8 21] [4,6,8] (.p [.M 22 6,.M 23 8,.M 5 22,.M 6 23])))))) [4,5] (.seq (.p [.M 24 5,.u 25 (.call f2 [.fa,(.t 24)]),.S 2 4 25]) .ret))))
def Zs(f0 f1 f2 f3 f4 f5 tE:Nat):AC:=(.o [.K 2 2 0,.K 3 2 1,.G 4 [.z,.emp],.G 5 [.z,.emp],.m 6 (.c (.one (.lit .nilIface)))] [2,3,4,5] (.o [.L 10 2 3,.H 11 f0 10,.M 7 11] [2,3,4,5,7] (.f (.o [.M 12 7,.Z 13 12,.I 14 .eql 13 0] [2,3,4,5,7,14] (.cond (.t 14) (.seq (.p [.u 15 (.build [.z [.z,.emp]]),.u 16 (.build [.z [.z,.emp]]),.u 17 (.iface tE (.i 8)),.S 2 4 15,.S 2 5 16,.M 6 17]) .ret) .skip)) [2,3,4,5,7] (.o [.L 19 2 2,.H 20 f0 19,.M 21 7,.D 22 f1 20 21,.M 18 22,.X 23 0 18,.X 24 1 18,.M 8 23,.M 9 24] [2,3,4,5,7,8,9] (.f (.o [.L 25 2 2,.H 26 f2 25,.M 27 26,.V 28 27 true 9,.w 29 27 true (.len (.t 28)),.w 30 27 true (.bin .gtr (.t 29) (.i 0)),.P 31 27 30] [2,3,4,5,7,8,9,31] (.cond (.t 31) (.p [.M 32 8,.u 33 (.row 1 [[.x 1 (.c (.one (.lit (.int .u32 1))))]]),.D 34 f3 32 33,.M 35 7,.M 36 9,.D 37 f4 35 36,.M 8 34,.M 9 37]) .skip)) [2,3,4,5,8,9] (.seq (.y [.L 38 2 2,.H 39 f2 38,.L 40 2 3,.H 41 f2 40,.u 42 (.binb .neq (.t 39) (.t 41)),.M 43 8,.D 44 f5 42 43,.M 45 9,.u 46 (.call f5 [.fa,(.t 45)]),.S 2 4 44,.S 2 5 46,.m 6 (.c (.one (.lit .nilIface)))]) .ret))))))
theorem VE(hΓ:Holds P Γ){f:Nat}(hc:check P f=some (19,wj.strip,[.tmp 2])):Sound P f (.dat true ym):=by
 refine Qa hc zad hΓ (λargs K hcl hfi hG=>?_);match args,hG with
 | [a],hG=>
  obtain⟨w,rfl,hw,hK⟩:=hG;refine⟨by simp,?_⟩
  simp only [go_sem,wj,xa6,qav];unfold vldW at hK;intro hlen;refine⟨λh=>?_,λh _=>?_⟩
  .rw [if_pos (List.length_eq_zero_iff.1 h)]at hK;exact hK
  .have hn:w.2≠[]:=λe=>h (by rw [e];rfl)
   rw [if_neg hn]at hK;refine⟨⟨by omega,by omega⟩,by omega,by omega,?_⟩
   have e1:((w.2.length:Int)-1).toNat=w.2.length-1:=by omega
   rw [e1];have e2:(!decide (w.2.getD (w.2.length-1) 0=0))=decide (NZ w.2):=by
    rw [<-decide_not,decide_eq_decide];unfold NZ;rw [List.getLast?_eq_getElem?,List.getElem?_eq_getElem (by omega),List.getD_eq_getElem?_getD,List.getElem?_eq_getElem (by omega)]
    simp
   rw [e2];exact hK
theorem yN(hΓ:Holds P Γ){f fv:Nat}(hv:Γ fv=.dat true ym)(hc:check P f=some (8,(Wm fv).strip,[.tmp 2])):Sound P f (.dat false Yk):=by
 refine Qa hc qaA hΓ (λargs K hcl hfi hG=>?_);match args,hG with
 | [a],hG=>
  obtain⟨w,rfl,hw,hK⟩:=hG;refine⟨by simp,?_⟩
  simp only [go_sem,Wm,hv,hw];rw [<-qbl hw]at hK;refine⟨λh=>?_,λh=>?_⟩
  .rw [if_pos h]at hK;exact hK
  .rw [if_neg (by rw [h];simp)]at hK;exact hK
theorem UG(hΓ:Holds P Γ){f fv:Nat}(hv:Γ fv=.dat true ym)(hc:check P f=some (9,(qn fv).strip,[.tmp 2])):Sound P f (.dat true Yi):=by
 refine Qa hc uax hΓ (λargs K hcl hfi hG=>?_);match args,hG with
 | [a],hG=>
  obtain⟨w,rfl,hw,hK⟩:=hG;refine⟨by simp,?_⟩
  simp only [go_sem,qn,hv,hw];rw [<-waO hw]at hK;refine⟨λh=>?_,λh=>?_⟩
  .rw [h,Bool.true_and]at hK;exact hK
  .rw [h,Bool.false_and]at hK;exact hK
theorem Waf(hΓ:Holds P Γ){f ft:Nat}(ht:Γ ft=.dat false wv)(hc:check P f=some (15,(Xn ft).strip,[.cell 4 2 true])):Sound P f (.dat false Wh):=by
 refine Qa hc yO hΓ (λargs K hcl hfi hG=>?_);match args,hG with
 | [a,m],hG=>
  obtain⟨b,rfl,hG⟩:=xh hG;obtain⟨l,rfl,hl,hlen,hK⟩:=hG;refine⟨by simp,?_⟩
  simp only [go_sem,Xn,ht];rw [<-XL]at hK;refine⟨hl,hlen,λh _=>?_,λh=>?_⟩
  .rw [h,Bool.true_and]at hK;exact hK
  .rw [h,Bool.false_and]at hK;exact hK
theorem JX(hΓ:Holds P Γ){f fw:Nat}(hw:Γ fw=.dat false Wh)(hc:check P f=some (19,(jo fw).strip,[.cell 2 2 true])):Sound P f (.dat false yU):=by
 refine Qa hc uaW hΓ (λargs K hcl hfi hG=>?_);match args,hG with
 | [a],hG=>
  obtain⟨k,n,rfl,rfl,hn1,hn2,hK⟩:=Xa hG;refine⟨by simp,?_⟩
  simp only [go_sem,jo,hw];have e0:(18446744073709551616:Int)=((18446744073709551616:Nat):Int):=rfl;have key:∀(x:Nat) (b:Bool),x<18446744073709551616->sg b x=n->
    onWs (λl=>l.length<=68719476736/\K (AV.agg [zb (zcan (sg b (val l))),zm (zcan (sg b (val l)))]))
     (AV.one (C.slice [[C.lit (Value.int IntKind.u32 ((x:Int) % 4294967296))],[C.lit (Value.int IntKind.u32 ((x:Int) / 2 ^ 32 % 4294967296))]])):=by
   intro x b hx hs;have e1:((x:Int) % 4294967296)=((x % 4294967296:Nat):Int):=by omega
   have e2:((x:Int) / 2 ^ 32 % 4294967296)=((x / 4294967296:Nat):Int):=by omega
   rw [e1,e2,ZaF];refine⟨?_,by simp,?_⟩
   .rw [Xb,Xb];exact⟨by omega,by omega,Ub⟩
   .have:val [x % 4294967296,x / 4294967296]=x:=by
     simp only [qi,Zm];omega
    rw [this,hs];exact hK
  refine⟨λh=>⟨⟨by omega,by omega,by decide⟩,?_⟩,λh=>⟨⟨by omega,by omega,by decide⟩,?_⟩⟩
  .have e:(-(n % 18446744073709551616) % 18446744073709551616:Int)=((-n).toNat:Int):=by omega
   rw [e];refine key _ _ (by omega) ?_
   rw [decide_eq_true h];unfold sg;rw [if_pos rfl];omega
  .have e:(n % 18446744073709551616:Int)=(n.toNat:Int):=by omega
   rw [e];refine key _ _ (by omega) ?_
   rw [decide_eq_false h];unfold sg;rw [if_neg (by simp)];omega
theorem zac(hΓ:Holds P Γ){f fm:Nat}(hm:Γ fm=.dat false Yk)(hc:check P f=some (11,(xp fm).strip,[.tmp 2])):Sound P f (.dat true Uj):=by
 refine Qa hc qL hΓ (λargs K hcl hfi hG=>?_);match args,hG with
 | [a],hG=>
  obtain⟨w,rfl,hw,hK⟩:=hG;refine⟨by simp,?_⟩
  simp only [go_sem,xp,hm,hw,xa6,qav];intro _;show((digs (zv w).natAbs).length=0->_)/\(¬(digs (zv w).natAbs).length=0->_);have h0:(digs (zv w).natAbs).length=0↔zv w=0:=Us;rw [h0];refine⟨λh=>?_,λh=>⟨λhb=>?_,λhb=>?_⟩⟩
  .rw [h]at hK;exact hK
  .have:zv w<0:=by
    have:=waO hw;rw [hb,Bool.and_true]at this;have hv:vldW w=true:=by
     cases hv:vldW w with
     | true=>rfl
     | false=>exact absurd (Yad hv) h
    rw [hv]at this;simpa using this.symm
   rw [Int.sign_eq_neg_one_of_neg this]at hK;exact hK
  .have:¬zv w<0:=by
    have:=waO hw;rw [hb,Bool.and_false]at this;simpa using this.symm
   rw [Int.sign_eq_one_of_pos (by omega)]at hK;exact hK
theorem jav(hΓ:Holds P Γ){f fs fm fc fn:Nat}(hs:Γ fs=.dat true Uj)(hm:Γ fm=.dat false Yk)(hc' : Γ fc=.dat false Zn)(hn:Γ fn=.dat true Yi)
  (hc:check P f=some (28,(xr fs fm fc fn).strip,[.tmp 4])):Sound P f (.dat true JE):=by
 refine Qa hc ZaL hΓ (λargs K hcl hfi hG=>?_);match args,hG with
 | [a,b],hG=>
  obtain⟨v,rfl,hv,w,rfl,hw,hK⟩:=hG;refine⟨by simp,?_⟩
  simp only [go_sem,xr,hs,hm,hc',hn,hv,hw];simp only [Wa];have hs:∀n:Int,Int.sign n=if n<0 then -1 else if n=0 then 0 else 1:=by
   intro n;split
   .exact Int.sign_eq_neg_one_of_neg ‹_›
   .split
    .rename_i h;rw [h];rfl
    .exact Int.sign_eq_one_of_pos (by omega)
  rw [hs,hs];generalize zv v=x at hK ⊢;generalize zv w=y at hK ⊢;refine⟨λh=>⟨ka _,ka _,Wn _,Wn _,λhx=>⟨?_,?_⟩,λhx=>?_⟩,λh=>⟨λh'=>?_,λh'=>?_⟩⟩
  .unfold ordN;split <;> (try split) <;> omega
  .have e:-ordN x.natAbs y.natAbs=ordI x y:=by
    unfold ordN ordI;rw [if_pos hx]at h;have hy:y<0:=by
     split at h
     .assumption
     .split at h <;> omega
    split <;> (try split) <;> (try split) <;> (try split) <;> omega
   rw [e];exact hK
  .have e:ordN x.natAbs y.natAbs=ordI x y:=by
    unfold ordN ordI;rw [if_neg hx]at h;have hy:¬y<0:=by
     intro hy;rw [if_pos hy]at h;split at h <;> omega
    split <;> (try split) <;> (try split) <;> (try split) <;> omega
   rw [e];exact hK
  .have e:ordI x y = -1:=Ua6 (by
    split at h' <;> split at h' <;> (try split at h') <;> (try split at h') <;> omega)
   rw [e]at hK;exact hK
  .have e:ordI x y=1:=Jbe (by
    split at h' <;> split at h' <;> (try split at h') <;> (try split at h') <;> (try split at h) <;> (try split at h) <;> (try split at h) <;> (try split at h) <;> omega)
   rw [e]at hK;exact hK
theorem uL(hΓ:Holds P Γ){f fn fm fw:Nat}(hn:Γ fn=.dat true Yi)(hm:Γ fm=.dat false Yk)(hw' : Γ fw=.dat false Wh)(hc:check P f=some (9,(xm fn fm fw).strip,[.cell 2 2 true])):Sound P f (.dat false Yw):=by
 refine Qa hc JaL hΓ (λargs K hcl hfi hG=>?_);match args,hG with
 | [a],hG=>
  obtain⟨w,rfl,hw,hz,hK⟩:=hG;refine⟨by simp,?_⟩
  simp only [go_sem,xm,hn,hm,hw',hw];rw [Wa];refine⟨ka _,hz,?_⟩;have e:sg (!decide (zv w<0)) (zv w).natAbs = -zv w:=by
   unfold sg;by_cases h:zv w<0 <;> simp [h] <;> omega
  rw [e];exact hK
theorem wN(hΓ:Holds P Γ){f fn fm ft fw:Nat}(hn:Γ fn=.dat true Yi)(hm:Γ fm=.dat false Yk)(ht:Γ ft=.dat false Zu)(hw' : Γ fw=.dat false Wh)(hc:check P f=some (16,(Xm fn fm ft fw).strip,[.cell 4 2 true])):Sound P f (.dat false uw):=by
 refine Qa hc UaA hΓ (λargs K hcl hfi hG=>?_);match args,hG with
 | [a,b],hG=>
  obtain⟨v,rfl,hv,w,rfl,hw,hz,hz',hK⟩:=hG;refine⟨by simp,?_⟩
  simp only [go_sem,Xm,hn,hm,ht,hw',hw,hv];simp only [Wa];have e:sg (!(decide (zv v<0) == decide (zv w<0))) ((zv v).natAbs*(zv w).natAbs)=zv v*zv w:=jbg _ _;rw [e];refine⟨ka _,ka _,hz,hz',ka _,?_,hK⟩;have:=jp (zv v) (zv w);unfold zs at *
  rw [<-Int.natAbs_mul];omega
theorem xaw(hΓ:Holds P Γ){f fn fm fp fw fc fl:Nat}(hn:Γ fn=.dat true Yi)(hm:Γ fm=.dat false Yk)(hp:Γ fp=.dat false Qt)(hw' : Γ fw=.dat false Wh)(hc' : Γ fc=.dat false Zn)(hl:Γ fl=.dat false yv)(hc:check P f=some (40,(yr fm fn fp fw fc fl).strip,[.cell 4 2 true])):Sound P f (.dat false Uy):=by
 refine Qa hc Y8 hΓ (λargs K hcl hfi hG=>?_);match args,hG with
 | [a,b],hG=>
  obtain⟨v,rfl,hv,w,rfl,hw,hz,hz',hK⟩:=hG;refine⟨by simp,?_⟩
  simp only [go_sem,yr,hn,hm,hp,hw',hc',hl,hw,hv];simp only [Wa];have hsz:=vK (zv v) (zv w);refine⟨λh=>⟨ka _,ka _,hz,hz',ka _,?_,?_⟩,λh=>⟨ka _,ka _,Wn _,Wn _,λho=>⟨ka _,ka _,by unfold zs at hz;omega,?_,ka _,?_,?_⟩,λho=>⟨ka _,ka _,by unfold zs at hz';omega,?_,ka _,?_,?_⟩⟩⟩
  .have e:=Ju (Xh h);rw [show(zv v).natAbs+(zv w).natAbs=(zv v+zv w).natAbs by have:=Xh h;omega]
   unfold zs at *;omega
  .rw [Ju (Xh h)];exact hK
  .exact(qs.1 ho)
  .have:=Va (Nat.sub_le (zv v).natAbs (zv w).natAbs);unfold zs at *;omega
  .have h1:=qs.1 ho;rw [jar (Wo h) h1];exact hK
  .have:=mt qs.2 ho;omega
  .have:=Va (Nat.sub_le (zv w).natAbs (zv v).natAbs);unfold zs at *;omega
  .have h1:=mt qs.2 ho;rw [jar (λe=>Wo h e.symm) (by omega),Int.add_comm];exact hK
theorem uaz(hΓ:Holds P Γ){f fn fm fp fw fd fl tE:Nat}(hn:Γ fn=.dat true Yi)(hm:Γ fm=.dat false Yk)(hp:Γ fp=.dat false Qt)(hw' : Γ fw=.dat false Wh)(hd:Γ fd=.dat false Uk)(hl:Γ fl=.dat false yv)(hc:check P f=some (47,(Zs fm fd fn fp fl fw tE).strip,[.cell 4 2 true,.cell 5 2 true,.tmp 6])):Sound P f (.dat false vQ):=by
 refine Qa hc ZaP hΓ (λargs K hcl hfi hG=>?_);match args,hG with
 | [a,b],hG=>
  obtain⟨v,rfl,hv,w,rfl,hw,hz,hz',h0,hK⟩:=hG;refine⟨by simp,?_⟩
  simp only [go_sem,Zs,hn,hm,hp,hw',hd,hl,hw,hv];simp only [Wa];have hne:¬(digs (zv w).natAbs).length=0:=λe=>h0 (Us.1 e);intro _;refine⟨λe=>absurd e hne,λ_=>⟨ka _,ka _,Wn _,Wn _,λe=>hne (by rw [e];rfl),hz,hz',?_⟩⟩
  have hq:(digs ((zv v).natAbs / (zv w).natAbs)).length<=17179869184:=Nat.le_trans (Va (Nat.div_le_self _ _)) hz;have hr:(digs ((zv v).natAbs % (zv w).natAbs)).length<=17179869184:=Nat.le_trans (Va (Nat.mod_le _ _)) hz;have hz'' : (digs (zv w).natAbs).length<=17179869184:=hz';have hlt:=Nat.mod_lt (zv v).natAbs (show 0<(zv w).natAbs by omega)
  have hfin:(0<=zv v∨(zv v).natAbs % (zv w).natAbs=0)->K (AV.tup
    [AV.agg [zb (zcan (sg (!(decide (zv v<0) == decide (zv w<0))) ((zv v).natAbs / (zv w).natAbs))),zm (zcan (sg (!(decide (zv v<0) == decide (zv w<0))) ((zv v).natAbs / (zv w).natAbs)))],
     AV.agg [zb (zcan (sg false ((zv v).natAbs % (zv w).natAbs))),zm (zcan (sg false ((zv v).natAbs % (zv w).natAbs)))],AV.one (C.lit Value.nilIface)]):=by
   intro h;obtain⟨e1,e2⟩:=kam h0 h;have e1' : sg (!(decide (zv v<0) == decide (zv w<0))) ((zv v).natAbs / (zv w).natAbs)=zv v / zv w:=e1;have e2' : sg false ((zv v).natAbs % (zv w).natAbs)=zv v % zv w:=e2;rw [e1',e2'];exact hK
  refine⟨λhneg _=>⟨λhp=>⟨ka _,(Vas _ 1).mpr ⟨Xb.2 ⟨by decide,Ub⟩,hq,by decide,ka _,ka _,by omega,by omega,ka _,?_,ka _,?_,?_⟩⟩,λhp=>⟨ka _,by omega,ka _,by omega,hfin (.inr ?_)⟩⟩,λhneg=>⟨ka _,by omega,ka _,by omega,hfin (.inl (by omega))⟩⟩
  .have hv1:val [1]=1:=rfl;rw [hv1];have h1:zs 1<=2:=Jag (by decide)
   have:=vK (((zv v).natAbs / (zv w).natAbs:Nat):Int) 1;have e:(((zv v).natAbs / (zv w).natAbs:Nat):Int)+1=(((zv v).natAbs / (zv w).natAbs+1:Nat):Int):=by omega
   rw [e]at this;have h3:zs (((zv v).natAbs / (zv w).natAbs:Nat):Int)=(digs ((zv v).natAbs / (zv w).natAbs)).length:=rfl;have h4:zs (((zv v).natAbs / (zv w).natAbs+1:Nat):Int)=(digs ((zv v).natAbs / (zv w).natAbs+1)).length:=rfl;rw [h3,h4]at this;omega
  .have:=Va (Nat.sub_le (zv w).natAbs ((zv v).natAbs % (zv w).natAbs));omega
  .have hv1:val [1]=1:=rfl;rw [hv1];have hne' : (zv v).natAbs % (zv w).natAbs≠0:=by
    intro e;rw [e,Zb]at hp;simp at hp
   obtain⟨e1,e2⟩:=kah h0 hneg hne';have e1' : sg (!(decide (zv v<0) == decide (zv w<0))) ((zv v).natAbs / (zv w).natAbs+1)=zv v / zv w:=e1;have e2' : sg false ((zv w).natAbs-(zv v).natAbs % (zv w).natAbs)=zv v % zv w:=e2;rw [e1',e2'];exact hK
  .have:digs ((zv v).natAbs % (zv w).natAbs)=[]:=List.eq_nil_of_length_eq_zero (by omega)
   exact qf.1 this
theorem qay(hΓ:Holds P Γ){f fm fd fw:Nat}(hm:Γ fm=.dat false Yk)(hw' : Γ fw=.dat false Wh)(hd:Γ fd=.dat false Uk)(hc:check P f=some (26,(Wr fm fd fw).strip,[.cell 4 2 true])):Sound P f (.dat false Yv):=by
 refine Qa hc V8 hΓ (λargs K hcl hfi hG=>?_);match args,hG with
 | [a,b],hG=>
  obtain⟨v,rfl,hv,w,rfl,hw,hz,hz',hK⟩:=hG;refine⟨by simp,?_⟩
  simp only [go_sem,Wr,hm,hw',hd,hw,hv];refine ja (λp:Nat×Nat=>⟨mkV [(4,.one (.ptr 4 1 0 0)),(5,.one (ws (digs p.1))),(6,.one (ws (digs p.2)))],mkH [(4,⟨1,some ⟨[[.lit (.bool false),.emp]],2,true⟩⟩)]⟩)
   (λp=>(digs p.1).length<=17179869184/\(digs p.2).length<=17179869184/\Nat.gcd p.1 p.2=Int.gcd (zv v) (zv w)) (λp=>p.2) ((zv v).natAbs,(zv w).natAbs) ?_ ?_ ?_
  .exact za (by simp [bitvec_to_nat]) ⟨⟨⟨rfl,rfl⟩,.inr ⟨⟨rfl,trivial,trivial⟩,trivial⟩⟩,trivial⟩
  .exact⟨hz,hz',rfl⟩
  .rintro⟨a,b⟩ ⟨ha,hb,hg⟩;simp only at ha hb hg;simp only [go_sem,hm,hw',hd,ws];simp only [Wa];refine λ_=>⟨λh=>⟨ka _,ka _,Wn _,Wn _,λe=>by rw [e]at h;simp at h,ha,hb,?_⟩,λh=>⟨ka _,by omega,?_⟩⟩
   .have hb0:0<b:=by
     rcases Nat.eq_zero_or_pos b with e | e
     .rw [e,Zb]at h;simp at h
     .exact e
    refine⟨(b,a % b),za (by simp [bitvec_to_nat]) ⟨⟨⟨rfl,rfl⟩,.inr ⟨⟨rfl,trivial,trivial⟩,trivial⟩⟩,trivial⟩,⟨hb,Nat.le_trans (Va (Nat.mod_le _ _)) ha,?_⟩,Nat.mod_lt _ hb0⟩
    rw [<-hg];show Nat.gcd b (a % b)=_;rw [Nat.gcd_comm b,<-Nat.gcd_rec,Nat.gcd_comm]
   .have:digs b=[]:=List.eq_nil_of_length_eq_zero (by omega)
    rw [qf.1 this,Nat.gcd_zero_right]at hg;rw [hg];exact hK
end Go.Abs
end
section
namespace Go.Num
theorem getMM{α:Type}(U V:List α)(x d:α){n:Nat}(h:U.length=n):(U++x::V).getD n d=x:=by
 subst h;simp [List.getD_eq_getElem?_getD]
theorem setMM{α:Type}(U V:List α)(x y:α){n:Nat}(h:U.length=n):(U++x::V).set n y=U++y::V:=by
 subst h;rw [List.set_append_right _ _ (Nat.le_refl _),Nat.sub_self,List.set_cons_zero]
end Go.Num
namespace Go.Abs
open Go.Num
variable {P:Program} {Γ:Nat->Spec}
def Xy(fc:Nat)(d:Option Nat)(args:List AV)(h:Nat->HB)(K:AV->(Nat->HB)->Prop):Prop:=
 match args with
 | [.one (.own r ver 5 0 len),.one (.lit (.int .i64 a)),.one (.lit (.int .i64 b)),.one (.lit (.int .i64 n)),c]=>∃(U A M B V:List Mo),c=fnV fc/\a=U.length/\b=(U.length+A.length+M.length:Nat)/\n=A.length/\A.length=B.length/\
   U.length+A.length+M.length+B.length<=len/\len<=U.length+A.length+M.length+B.length+V.length/\len<=68719476736/\
   h r=⟨ver,some ⟨(U++A++M++B++V).map mC,5,true⟩⟩/\K (.tup []) (upd h r ⟨ver,some ⟨(U++B++M++A++V).map mC,5,true⟩⟩)
 | _=>False
@[congr] theorem Jbw {fc:Nat} {d:Option Nat} {l l' : List AV} {h h' : Nat->HB} {K:AV->(Nat->HB)->Prop} (e1:l=l') (e2:h=h'):Xy fc d l h K=Xy fc d l' h' K:=by subst e1;subst e2;rfl
def vB(fc:Nat)(d:Option Nat)(args:List AV)(h:Nat->HB)(K:AV->(Nat->HB)->Prop):Prop:=
 match args with
 | [.one (.own r ver 5 0 len),.one (.lit (.int .i64 a)),.one (.lit (.int .i64 m)),.one (.lit (.int .i64 b)),c]=>∃(U A B V:List Mo),c=fnV fc/\a=U.length/\m=(U.length+A.length:Nat)/\b=(U.length+A.length+B.length:Nat)/\A≠[]/\B≠[]/\
   U.length+A.length+B.length<=len/\len<=U.length+A.length+B.length+V.length/\len<=68719476736/\
   h r=⟨ver,some ⟨(U++A++B++V).map mC,5,true⟩⟩/\K (.tup []) (upd h r ⟨ver,some ⟨(U++B++A++V).map mC,5,true⟩⟩)
 | _=>False
@[congr] theorem zbs {fc:Nat} {d:Option Nat} {l l' : List AV} {h h' : Nat->HB} {K:AV->(Nat->HB)->Prop} (e1:l=l') (e2:h=h'):vB fc d l h K=vB fc d l' h' K:=by subst e1;subst e2;rfl
def kh(fc N:Nat)(d:Option Nat)(args:List AV)(h:Nat->HB)(K:AV->(Nat->HB)->Prop):Prop:=
 match args with
 | [.one (.own r ver 5 0 len),.one (.lit (.int .i64 a)),.one (.lit (.int .i64 m)),.one (.lit (.int .i64 b)),c]=>∃(U A B V:List Mo),c=fnV fc/\a=U.length/\m=(U.length+A.length:Nat)/\b=(U.length+A.length+B.length:Nat)/\A≠[]/\B≠[]/\A.length+B.length<=N/\
   U.length+A.length+B.length<=len/\len<=U.length+A.length+B.length+V.length/\len<=1073741824/\okMs A/\okMs B/\SortM A/\SortM B/\
   h r=⟨ver,some ⟨(U++A++B++V).map mC,5,true⟩⟩/\∀C:List Mo,(A++B).Perm C->SortM C->K (.tup []) (upd h r ⟨ver,some ⟨(U++C++V).map mC,5,true⟩⟩)
 | _=>False
@[congr] theorem Vbt {fc N:Nat} {d:Option Nat} {l l' : List AV} {h h' : Nat->HB} {K:AV->(Nat->HB)->Prop} (e1:l=l') (e2:h=h'):kh fc N d l h K=kh fc N d l' h' K:=by subst e1;subst e2;rfl
def zd:AC:=(.o [.N 10 0] [0,1,2,3,10] (.block 0 (.loop (.f (.o [.M 11 10,.M 12 3,.B 13 .lss 11 12] [0,1,2,3,10,13] (.cond (.t 13) .skip (.exit 0))) [0,1,2,3,10] (.f (.block 1 (.y [.M 16 0,.M 17 1,.M 18 10,.B 19 .add 17 18,.M 20 0,.M 21 2,.M 22 10,.B 23 .add 21 22,.M 24 0,.M 25 2,.M 26 10,.B 27 .add 25 26,.J 28 5 24 27,.L 29 5 28,.M 30 0,.M 31 1,.M 32 10,.B 33 .add 31 32,.J 34 5 30 33,.L 35 5 34,.J 36 5 16 19,.S 5 36 29,.J 37 5 20 23,.S 5 37 35])) [0,1,2,3,10] (.p [.M 14 10,.I 15 .add 14 1,.M 10 15]))))))
def ud(f0:Nat):AC:=(.o [.M 12 2,.M 13 1,.B 14 .sub 12 13,.M 10 14] [0,2,3,4,10] (.o [.M 15 3,.M 16 2,.B 17 .sub 15 16,.M 11 17] [0,2,4,10,11] (.f (.block 0 (.loop (.f (.o [.M 18 10,.M 19 11,.B 20 .neq 18 19] [0,2,4,10,11,20] (.cond (.t 20) .skip (.exit 0))) [0,2,4,10,11] (.block 1 (.o [.M 21 10,.M 22 11,.B 23 .gtr 21 22] [0,2,4,10,11,23] (.cond (.t 23) (.o [.M 24 0,.M 25 2,.M 26 10,.B 27 .sub 25 26,.M 28 2,.M 29 11,.M 30 4,.u 31 (.call f0 [(.t 24),(.t 27),(.t 28),(.t 29),(.t 30)])] [0,2,4,10,11] (.p [.M 32 10,.M 33 11,.B 34 .sub 32 33,.M 10 34])) (.o [.M 35 0,.M 36 2,.M 37 10,.B 38 .sub 36 37,.M 39 2,.M 40 11,.B 41 .add 39 40,.M 42 10,.B 43 .sub 41 42,.M 44 10,.M 45 4,.u 46 (.call f0 [(.t 35),(.t 38),(.t 43),(.t 44),(.t 45)])] [0,2,4,10,11] (.p [.M 47 11,.M 48 10,.B 49 .sub 47 48,.M 11 49])))))))) [0,2,4,10] (.p [.M 50 0,.M 51 2,.M 52 10,.B 53 .sub 51 52,.M 54 2,.M 55 10,.M 56 4,.u 57 (.call f0 [(.t 50),(.t 53),(.t 54),(.t 55),(.t 56)])]))))
def ua(f0 f1:Nat):AC:=(.f (.o [.M 25 2,.M 26 1,.B 27 .sub 25 26,.I 28 .eql 27 1] [0,1,2,3,4,28] (.cond (.t 28) (.o [.M 29 2,.M 10 29] [0,1,3,4,10] (.o [.M 30 3,.M 11 30] [0,1,4,10,11] (.f (.block 0 (.loop (.f (.o [.M 31 10,.M 32 11,.B 33 .lss 31 32] [0,1,4,10,11,33] (.cond (.t 33) .skip (.exit 0))) [0,1,4,10,11] (.block 1 (.o [.M 34 10,.M 35 11,.B 36 .add 34 35,.u 37 (.conv .u64 (.t 36)),.u 38 (.bin .shr (.t 37) (.c (.one (.lit (.int .u64 1))))),.u 39 (.conv .i64 (.t 38)),.M 12 39] [0,1,4,10,11,12] (.f (.y [.M 40 4,.M 41 0,.M 42 12,.J 43 5 41 42,.L 44 5 43,.M 45 0,.M 46 1,.J 47 5 45 46,.L 48 5 47,.u 49 (.callv (.t 40) [(.t 44),(.t 48)]),.I 50 .lss 49 0]) [0,1,4,10,11,12,50] (.cond (.t 50) (.p [.M 51 12,.I 52 .add 51 1,.M 10 52]) (.p [.M 53 12,.M 11 53])))))))) [0,1,10] (.seq (.o [.M 54 1,.M 13 54] [0,10,13] (.block 2 (.loop (.f (.o [.M 55 13,.M 56 10,.I 57 .sub 56 1,.B 58 .lss 55 57] [0,10,13,58] (.cond (.t 58) .skip (.exit 2))) [0,10,13] (.f (.block 3 (.y [.M 61 0,.M 62 13,.M 63 0,.M 64 13,.I 65 .add 64 1,.M 66 0,.M 67 13,.I 68 .add 67 1,.J 69 5 66 68,.L 70 5 69,.M 71 0,.M 72 13,.J 73 5 71 72,.L 74 5 73,.J 75 5 61 62,.S 5 75 70,.J 76 5 63 65,.S 5 76 74])) [0,10,13] (.p [.M 59 13,.I 60 .add 59 1,.M 13 60])))))) .ret)))) .skip)) [0,1,2,3,4] (.f (.o [.M 77 3,.M 78 2,.B 79 .sub 77 78,.I 80 .eql 79 1] [0,1,2,3,4,80] (.cond (.t 80) (.o [.M 81 1,.M 14 81] [0,2,4,14] (.o [.M 82 2,.M 15 82] [0,2,4,14,15] (.f (.block 4 (.loop (.f (.o [.M 83 14,.M 84 15,.B 85 .lss 83 84] [0,2,4,14,15,85] (.cond (.t 85) .skip (.exit 4))) [0,2,4,14,15] (.block 5 (.o [.M 86 14,.M 87 15,.B 88 .add 86 87,.u 89 (.conv .u64 (.t 88)),.u 90 (.bin .shr (.t 89) (.c (.one (.lit (.int .u64 1))))),.u 91 (.conv .i64 (.t 90)),.M 16 91] [0,2,4,14,15,16] (.f (.y [.M 92 4,.M 93 0,.M 94 2,.J 95 5 93 94,.L 96 5 95,.M 97 0,.M 98 16,.J 99 5 97 98,.L 100 5 99,.u 101 (.callv (.t 92) [(.t 96),(.t 100)]),.I 102 .lss 101 0,.u 103 (.un .not (.t 102))]) [0,2,4,14,15,16,103] (.cond (.t 103) (.p [.M 104 16,.I 105 .add 104 1,.M 14 105]) (.p [.M 106 16,.M 15 106])))))))) [0,2,14] (.seq (.o [.M 107 2,.M 17 107] [0,14,17] (.block 6 (.loop (.f (.o [.M 108 17,.M 109 14,.B 110 .gtr 108 109] [0,14,17,110] (.cond (.t 110) .skip (.exit 6))) [0,14,17] (.f (.block 7 (.y [.M 113 0,.M 114 17,.M 115 0,.M 116 17,.I 117 .sub 116 1,.M 118 0,.M 119 17,.I 120 .sub 119 1,.J 121 5 118 120,.L 122 5 121,.M 123 0,.M 124 17,.J 125 5 123 124,.L 126 5 125,.J 127 5 113 114,.S 5 127 122,.J 128 5 115 117,.S 5 128 126])) [0,14,17] (.p [.M 111 17,.I 112 .sub 111 1,.M 17 112])))))) .ret)))) .skip)) [0,1,2,3,4] (.o [.M 129 1,.M 130 3,.B 131 .add 129 130,.u 132 (.conv .u64 (.t 131)),.u 133 (.bin .shr (.t 132) (.c (.one (.lit (.int .u64 1))))),.u 134 (.conv .i64 (.t 133)),.M 18 134] [0,1,2,3,4,18] (.o [.M 135 18,.M 136 2,.B 137 .add 135 136,.M 19 137] [0,1,2,3,4,18,19] (.o [.N 20 0,.N 21 0] [0,1,2,3,4,18,19] (.f (.o [.M 138 2,.M 139 18,.B 140 .gtr 138 139] [0,1,2,3,4,18,19,140] (.cond (.t 140) (.o [.M 141 19,.M 142 3,.B 143 .sub 141 142,.M 20 143] [0,1,2,3,4,18,19,20] (.p [.M 144 18,.M 21 144])) (.o [.M 145 1,.M 20 145] [0,1,2,3,4,18,19,20] (.p [.M 146 2,.M 21 146])))) [0,1,2,3,4,18,19,20,21] (.o [.M 147 19,.I 148 .sub 147 1,.M 22 148] [0,1,2,3,4,18,19,20,21,22] (.f (.block 8 (.loop (.f (.o [.M 149 20,.M 150 21,.B 151 .lss 149 150] [0,1,2,3,4,18,19,20,21,22,151] (.cond (.t 151) .skip (.exit 8))) [0,1,2,3,4,18,19,20,21,22] (.block 9 (.o [.M 152 20,.M 153 21,.B 154 .add 152 153,.u 155 (.conv .u64 (.t 154)),.u 156 (.bin .shr (.t 155) (.c (.one (.lit (.int .u64 1))))),.u 157 (.conv .i64 (.t 156)),.M 23 157] [0,1,2,3,4,18,19,20,21,22,23] (.f (.y [.M 158 4,.M 159 0,.M 160 22,.M 161 23,.B 162 .sub 160 161,.J 163 5 159 162,.L 164 5 163,.M 165 0,.M 166 23,.J 167 5 165 166,.L 168 5 167,.u 169 (.callv (.t 158) [(.t 164),(.t 168)]),.I 170 .lss 169 0,.u 171 (.un .not (.t 170))]) [0,1,2,3,4,18,19,20,21,22,23,171] (.cond (.t 171) (.p [.M 172 23,.I 173 .add 172 1,.M 20 173]) (.p [.M 174 23,.M 21 174])))))))) [0,1,2,3,4,18,19,20] (.o [.M 175 19,.M 176 20,.B 177 .sub 175 176,.M 24 177] [0,1,2,3,4,18,20,24] (.f (.o [.M 178 20,.M 179 2,.B 180 .lss 178 179,.M 181 180,.V 182 181 true 2,.V 183 181 true 24,.w 184 181 true (.bin .lss (.t 182) (.t 183)),.P 185 181 184] [0,1,2,3,4,18,20,24,185] (.cond (.t 185) (.p [.M 186 0,.M 187 20,.M 188 2,.M 189 24,.M 190 4,.u 191 (.call f0 [(.t 186),(.t 187),(.t 188),(.t 189),(.t 190)])]) .skip)) [0,1,3,4,18,20,24] (.f (.o [.M 192 1,.M 193 20,.B 194 .lss 192 193,.M 195 194,.V 196 195 true 20,.V 197 195 true 18,.w 198 195 true (.bin .lss (.t 196) (.t 197)),.P 199 195 198] [0,1,3,4,18,20,24,199] (.cond (.t 199) (.p [.M 200 0,.M 201 1,.M 202 20,.M 203 18,.M 204 4,.u 205 (.call f1 [(.t 200),(.t 201),(.t 202),(.t 203),(.t 204)])]) .skip)) [0,3,4,18,24] (.o [.M 206 18,.M 207 24,.B 208 .lss 206 207,.M 209 208,.V 210 209 true 24,.V 211 209 true 3,.w 212 209 true (.bin .lss (.t 210) (.t 211)),.P 213 209 212] [0,3,4,18,24,213] (.cond (.t 213) (.p [.M 214 0,.M 215 18,.M 216 24,.M 217 3,.M 218 4,.u 219 (.call f1 [(.t 214),(.t 215),(.t 216),(.t 217),(.t 218)])]) .skip)))))))))))))
theorem wav(hΓ:Holds P Γ){f fc:Nat}(hc:check P f=some (38,zd.strip,[])):Sound P f (.own (Xy fc)):=by
 refine xf hc hΓ (λd args h K hG=>?_);unfold Xy at hG;split at hG
 case h_2=>exact hG.elim
 rename_i r ver len x1 x2 x3 c;obtain⟨U,A,M,B,V,rfl,hx1,hx2,hx3,hAB,hlen,hlen2,hroom,hr,hK⟩:=hG;obtain⟨D,hD⟩:∃D,D=U++A++M++B++V:=⟨_,rfl⟩;rw [<-hD]at hr;have hDl:D.length=U.length+A.length+M.length+B.length+V.length:=by rw [hD];simp [Nat.add_assoc]
 refine⟨[r],[⟨D.map mC,5,true⟩],[.one (.own 1048576 ver 5 0 len),.one (.lit (.int .i64 x1)),.one (.lit (.int .i64 x2)),.one (.lit (.int .i64 x3)),fnV fc],by simp,rfl,?_,?_,?_,λhfi=>⟨by simp,?_⟩⟩
 .intro i r' b h1 h2;cases i with
  | zero=>simp only [List.getElem?_cons_zero,Option.some.injEq]at h1 h2;subst h1 h2;exact⟨by rw [hr],rfl,of_eq_true (Yg _)⟩
  | succ i=>simp at h1
 .simp [exA,exC,exB,nameOf,pinA,fnV]
 .intro a ha;simp only [List.mem_cons,List.not_mem_nil,or_false]at ha;rcases ha with rfl | rfl | rfl | rfl | rfl
  .simp [pasA,pasC,pasB,nameOf,pinA]
  .exact .lit _
  .exact .lit _
  .exact .lit _
  .exact .lit _
 simp only [go_sem,zd,hr,fnV];refine ja (λp:List Mo×List Mo×List Mo×List Mo=>⟨mkV [(0,.one (.own 1048576 ver 5 0 len)),(1,.one (.lit (.int .i64 x1))),(2,.one (.lit (.int .i64 x2))),(3,.one (.lit (.int .i64 x3))),(10,.one (.lit (.int .i64 p.1.length)))],mkH [(1048576,⟨ver,some ⟨(U++(p.2.2.1++p.2.1)++M++(p.1++p.2.2.2)++V).map mC,5,true⟩⟩)]⟩)
  (λp=>A=p.1++p.2.1/\B=p.2.2.1++p.2.2.2/\p.1.length=p.2.2.1.length) (λp=>p.2.1.length) ([],A,[],B) ?_ ?_ ?_
 .exact za (by simp [bitvec_to_nat]) (Wi (by simp [hD]))
 .exact⟨rfl,rfl,rfl⟩
 .rintro⟨A1,A2,B1,B2⟩ ⟨hA,hB,h1⟩;simp only at hA hB h1;have lA:=congrArg List.length hA;have lB:=congrArg List.length hB;simp only [List.length_append]at lA lB;rcases A2 with _ | ⟨x,A2⟩
  .have hlt:¬((A1.length:Int)<x3):=by simp only [List.length_nil]at lA;omega
   simp only [go_sem,hr,hlt];rcases B2 with _ | ⟨y,B2⟩
   .simp only [List.append_nil]at hA hB ⊢;subst hA hB;exact hK
   .simp only [List.length_nil,List.length_cons]at *;omega
  .rcases B2 with _ | ⟨y,B2⟩
   .simp only [List.length_nil,List.length_cons]at *;omega
   .simp only [List.length_cons]at lA lB;have hlt:(A1.length:Int)<x3:=by omega
    obtain⟨E,hE⟩:∃E,E=U++(B1++x::A2)++M++(A1++y::B2)++V:=⟨_,rfl⟩;have hEl:E.length=D.length:=by rw [hE,hDl];simp only [List.length_append,List.length_cons];omega
    have e1:E=(U++B1)++x::(A2++M++(A1++y::B2)++V):=by rw [hE];simp
    have e2:E=(U++(B1++x::A2)++M++A1)++y::(B2++V):=by rw [hE];simp
    obtain⟨i1,hi1⟩:∃i1:Nat,i1=U.length+A1.length:=⟨_,rfl⟩;obtain⟨i2,hi2⟩:∃i2:Nat,i2=U.length+A.length+M.length+A1.length:=⟨_,rfl⟩;have n1:x1+(A1.length:Int)=(i1:Int):=by omega
    have n2:x2+(A1.length:Int)=(i2:Int):=by omega
    have g1:E.getD i1 mo0=x:=by rw [e1];exact getMM _ _ _ _ (by simp;omega)
    have g2:E.getD i2 mo0=y:=by rw [e2];exact getMM _ _ _ _ (by simp;omega)
    have b1:i1<len:=by omega
    have b2:i2<len:=by omega
    have c1:i1<E.length:=by omega
    have c2:i2<E.length:=by omega
    have s1:(E.set i1 y).set i2 x=U++((B1++[y])++A2)++M++((A1++[x])++B2)++V:=by
     have:E.set i1 y=(U++B1)++y::(A2++M++(A1++y::B2)++V):=by rw [e1];exact setMM _ _ _ _ (by simp;omega)
     rw [this];have:(U++B1)++y::(A2++M++(A1++y::B2)++V)=(U++(B1++y::A2)++M++A1)++y::(B2++V):=by simp
     rw [this,setMM _ _ _ _ (by simp;omega)]
     simp
    simp only [<-hE];simp only [go_sem,hr,hlt,n1,n2,g1,g2,b1,b2,c1,c2,s1,List.length_set];refine⟨by omega,by omega,by omega,by omega,by omega,(A1++[x],A2,B1++[y],B2),za (by simp [bitvec_to_nat]) (Wi rfl),⟨by rw [hA];simp,by rw [hB];simp,by simp [h1]⟩,by simp⟩
theorem Vax(hΓ:Holds P Γ){f fs fc:Nat}(hs:Γ fs=.own (Xy fc))(hc:check P f=some (58,(ud fs).strip,[])):Sound P f (.own (vB fc)):=by
 refine xf hc hΓ (λd args h K hG=>?_);unfold vB at hG;split at hG
 case h_2=>exact hG.elim
 rename_i r ver len x1 x2 x3 c;obtain⟨U,A,B,V,rfl,hx1,hx2,hx3,hA0,hB0,hlen,hlen2,hroom,hr,hK⟩:=hG;obtain⟨D,hD⟩:∃D,D=U++A++B++V:=⟨_,rfl⟩;rw [<-hD]at hr;have hDl:D.length=U.length+A.length+B.length+V.length:=by rw [hD];simp [Nat.add_assoc]
 have hAp:=List.length_pos_iff.2 hA0;have hBp:=List.length_pos_iff.2 hB0;refine⟨[r],[⟨D.map mC,5,true⟩],[.one (.own 1048576 ver 5 0 len),.one (.lit (.int .i64 x1)),.one (.lit (.int .i64 x2)),.one (.lit (.int .i64 x3)),fnV fc],by simp,rfl,?_,?_,?_,λhfi=>⟨by simp,?_⟩⟩
 .intro i r' b h1 h2;cases i with
  | zero=>simp only [List.getElem?_cons_zero,Option.some.injEq]at h1 h2;subst h1 h2;exact⟨by rw [hr],rfl,of_eq_true (Yg _)⟩
  | succ i=>simp at h1
 .simp [exA,exC,exB,nameOf,pinA,fnV]
 .intro a ha;simp only [List.mem_cons,List.not_mem_nil,or_false]at ha;rcases ha with rfl | rfl | rfl | rfl | rfl
  .simp [pasA,pasC,pasB,nameOf,pinA]
  .exact .lit _
  .exact .lit _
  .exact .lit _
  .exact .lit _
 have n1:x2-x1=(A.length:Int):=by omega
 have n2:x3-x2=(B.length:Int):=by omega
 simp only [go_sem,ud,hr,fnV,hs,n1,n2];refine⟨by omega,by omega,?_⟩
 refine ja (λp:List Mo×List Mo×List Mo×List Mo=>⟨mkV [(0,.one (.own 1048576 ver 5 0 len)),(2,.one (.lit (.int .i64 x2))),(4,.one (.lit (.func (.func fc) ⟨[]⟩ ⟨[]⟩))),(10,.one (.lit (.int .i64 p.2.1.length))),(11,.one (.lit (.int .i64 p.2.2.1.length)))],mkH [(1048576,⟨ver,some ⟨(p.1++p.2.1++p.2.2.1++p.2.2.2).map mC,5,true⟩⟩)]⟩)
  (λp=>p.1++p.2.2.1++p.2.1++p.2.2.2=U++B++A++V/\x2=(p.1.length+p.2.1.length:Nat)/\p.2.1≠[]/\p.2.2.1≠[]/\(p.2.1.length+p.2.2.1.length<=A.length+B.length)/\x2+p.2.2.1.length<=x3) (λp=>p.2.1.length+p.2.2.1.length) (U,A,B,V) ?_ ?_ ?_
 .exact za (by simp [bitvec_to_nat]) (Wi (by simp [hD]))
 .exact⟨rfl,by simp only;omega,hA0,hB0,Nat.le_refl _,by simp only;omega⟩
 .rintro⟨U',A',B',V'⟩ ⟨hT,hx2',hA1,hB1,hsz,hx3'⟩;simp only at hT hx2' hA1 hB1 hsz hx3';have hTl:=congrArg List.length hT;simp only [List.length_append]at hTl;have hAp':=List.length_pos_iff.2 hA1;have hBp':=List.length_pos_iff.2 hB1;have n1:x2-(A'.length:Int)=(U'.length:Int):=by omega
  by_cases heq:A'.length=B'.length
  .have heq' : (A'.length:Int)=(B'.length:Int):=by omega
   simp only [go_sem,hr,hs,fnV,n1,<-heq',ne_eq,not_true_eq_false];refine⟨by omega,?_⟩
   simp only [Xy];refine⟨U',A',[],B',V',rfl,rfl,by simp;omega,rfl,heq,by simp;omega,by simp;omega,by omega,by simp [qa],?_⟩
   simp only [go_sem,hr];have:U'++B'++[]++A'++V' = U++B++A++V:=by rw [<-hT];simp
   rw [List.append_nil]at this;rw [this];exact hK
  .have heq' : ¬(A'.length:Int)=(B'.length:Int):=by omega
   by_cases hgt:B'.length<A'.length
   .have hgt' : (B'.length:Int)<(A'.length:Int):=by omega
    simp only [go_sem,hr,hs,fnV,n1,heq',hgt',ne_eq];obtain⟨A1,A2,rfl,hA1l⟩:∃A1 A2,A' = A1++A2/\A1.length=B'.length:=⟨A'.take B'.length,A'.drop B'.length,(List.take_append_drop _ _).symm,by rw [List.length_take];omega⟩
    have hA12:(A1++A2).length=A1.length+A2.length:=List.length_append;have n3:((A1++A2).length:Int)-(B'.length:Int)=(A2.length:Int):=by omega
    refine⟨by omega,?_⟩
    simp only [Xy];refine⟨U',A1,A2,B',V',rfl,rfl,by omega,by omega,hA1l,by omega,by omega,by omega,by simp [qa],?_⟩
    rw [n3];simp only [go_sem,hr];have z1:A2.length≠0:=by omega
    have z2:A1.length≠0:=by omega
    refine⟨by omega,(U'++B',A2,A1,V'),za (by simp [bitvec_to_nat];omega) (Wi rfl),⟨by simp only;rw [<-hT];simp,by simp only [List.length_append];omega,?_,?_,by simp only;omega,by simp only;omega⟩,by simp only;omega⟩
    .exact λh=>z1 (List.length_eq_zero_iff.2 h)
    .exact λh=>z2 (List.length_eq_zero_iff.2 h)
   .have hgt' : ¬(B'.length:Int)<(A'.length:Int):=by omega
    simp only [go_sem,hr,hs,fnV,n1,heq',hgt',ne_eq];obtain⟨B1,B2,rfl,hB2l⟩:∃B1 B2,B' = B1++B2/\B2.length=A'.length:=⟨B'.take (B'.length-A'.length),B'.drop (B'.length-A'.length),(List.take_append_drop _ _).symm,by rw [List.length_drop];omega⟩
    have hB12:(B1++B2).length=B1.length+B2.length:=List.length_append;have n3:((B1++B2).length:Int)-(A'.length:Int)=(B1.length:Int):=by omega
    refine⟨by omega,by omega,by omega,?_⟩
    simp only [Xy];refine⟨U',A',B1,B2,V',rfl,rfl,by omega,by omega,by omega,by omega,by omega,by omega,by simp [qa],?_⟩
    rw [n3];simp only [go_sem,hr];have z1:B1.length≠0:=by omega
    have z2:B2.length≠0:=by omega
    refine⟨by omega,(U',B2,B1,A'++V'),za (by simp [bitvec_to_nat];omega) (Wi (by simp)),⟨by simp only;rw [<-hT];simp,by simp only;omega,?_,?_,by simp only;omega,by simp only;omega⟩,by simp only;omega⟩
    .exact λh=>z2 (List.length_eq_zero_iff.2 h)
    .exact λh=>z1 (List.length_eq_zero_iff.2 h)
theorem ju{A B:List Mo}(hA:SortM A)(hB:SortM B)(h:∀x∈A,∀y∈B,kM x<=kM y):SortM (A++B):=
 List.pairwise_append.2 ⟨hA,hB,h⟩
theorem ut{A B:List Mo}(h:SortM (A++B)):SortM A:=(List.pairwise_append.1 h).1
theorem yq{A B:List Mo}(h:SortM (A++B)):SortM B:=(List.pairwise_append.1 h).2.1
theorem uq{A B:List Mo}(h:SortM (A++B)):∀x∈A,∀y∈B,kM x<=kM y:=(List.pairwise_append.1 h).2.2
theorem VP{A:List Mo}(h:SortM A){i j:Nat}(hi:i<A.length)(hj:j<A.length)(hij:i<=j):kM (A[i])<=kM (A[j]):=by
 by_cases e:i=j
 .subst e;exact Nat.le_refl _
 .exact List.pairwise_iff_getElem.1 h i j hi hj (by omega)
theorem VF{A:List Mo}(hA:SortM A){s:Nat}(hs:0<s)(hsl:s<=A.length){q:Nat}(h:kM (A.getD (s-1) mo0)<=q):∀x∈A.take s,kM x<=q:=by
 intro x hx;obtain⟨i,hi,rfl⟩:=List.mem_iff_getElem.1 hx;rw [List.length_take]at hi;rw [List.getElem_take];refine Nat.le_trans (VP hA (by omega) (show s-1<A.length by omega) (by omega)) ?_
 rw [List.getD_eq_getElem?_getD,List.getElem?_eq_getElem (by omega)]at h
 exact h
theorem xF{A:List Mo}(hA:SortM A){s:Nat}(hsl:s<A.length){q:Nat}(h:q<=kM (A.getD s mo0)):∀x∈A.drop s,q<=kM x:=by
 intro x hx;obtain⟨i,hi,rfl⟩:=List.mem_iff_getElem.1 hx;rw [List.length_drop]at hi;rw [List.getElem_drop];refine Nat.le_trans ?_ (VP hA hsl (show s+i<A.length by omega) (by omega))
 rw [List.getD_eq_getElem?_getD,List.getElem?_eq_getElem (by omega)]at h
 exact h
theorem getLM(U A V:List Mo){k i:Nat}(h1:k=U.length+i)(h2:i<A.length):(U++A++V).getD k mo0=A.getD i mo0:=by
 subst h1;simp only [List.getD_eq_getElem?_getD];rw [List.getElem?_append_left (by simp;omega),List.getElem?_append_right (by omega)]
 congr 2;omega
end Go.Abs
end
section
namespace Go.Num
def PcsM(k:Nat)(Ls:List (List Mo)):Prop:=∀c∈Ls,c.length=k/\SortM c
theorem uB{k:Nat}:∀{Ls:List (List Mo)},PcsM k Ls->Ls.flatten.length=k*Ls.length
 | [],_=>by simp
 | c::Ls,h=>by
  have:=uB (Ls:=Ls) λd hd=>h d (by simp [hd])
  have hc:=(h c (by simp)).1
  rw [List.flatten_cons,List.length_append,this,hc,List.length_cons,Nat.mul_succ,Nat.add_comm]
theorem Y2{k:Nat}{Ls:List (List Mo)}{c:List Mo}(h:PcsM k Ls)(h1:c.length=k)(h2:SortM c):PcsM k (Ls++[c]):=by
 intro d hd;rcases List.mem_append.1 hd with hd | hd
 .exact h d hd
 .rw [List.mem_singleton]at hd;subst hd;exact⟨h1,h2⟩
end Go.Num
namespace Go.Abs
open Go.Num
variable {P:Program} {Γ:Nat->Spec}
set_option maxHeartbeats 4000000 in
theorem Xaf(hΓ:Holds P Γ){f fi fm fc m N:Nat}(hmN:m<=N)(hm30:m<=1073741824)(hi:Γ fi=.own (yA fc))(hg:Γ fm=.own (kh fc N))(hc:check P f=some (63,(Ud fi fm).strip,[])):Sound P f (.own (xw fc m)):=by
 refine xf hc hΓ (λd args h K hG=>?_);unfold xw at hG;split at hG
 case h_2=>exact hG.elim
 rename_i r ver len n c;obtain⟨rfl,l,post,rfl,rfl,hlen,hr,hok,hK⟩:=hG;refine⟨[r],[⟨(l++post).map mC,5,true⟩],[.one (.own 1048576 ver 5 0 l.length),.one (.lit (.int .i64 l.length)),fnV fc],by simp,rfl,?_,?_,?_,λhfi=>⟨by simp,?_⟩⟩
 .intro i r' b h1 h2;cases i with
  | zero=>simp only [List.getElem?_cons_zero,Option.some.injEq]at h1 h2;subst h1 h2;exact⟨by rw [hr],rfl,of_eq_true (Yg _)⟩
  | succ i=>simp at h1
 .simp [exA,exC,exB,nameOf,pinA,fnV]
 .intro a ha;simp only [List.mem_cons,List.not_mem_nil,or_false]at ha;rcases ha with rfl | rfl | rfl
  .simp [pasA,pasC,pasB,nameOf,pinA]
  .exact .lit _
  .exact .lit _
 simp only [go_sem,Ud,hr,fnV,hi,hg];refine ja (λp:List (List Mo)×List Mo=>⟨mkV [(0,.one (.own 1048576 ver 5 0 l.length)),(1,.one (.lit (.int .i64 l.length))),(2,.one (.lit (.func (.func fc) ⟨[]⟩ ⟨[]⟩))),(6,.one (.lit (.int .i64 20))),(7,.one (.lit (.int .i64 (20*p.1.length:Nat)))),(8,.one (.lit (.int .i64 (20*p.1.length+20:Nat))))],mkH [(1048576,⟨ver,some ⟨(p.1.flatten++p.2++post).map mC,5,true⟩⟩)]⟩)
  (λp=>PcsM 20 p.1/\l.Perm (p.1.flatten++p.2)) (λp=>p.2.length) ([],l) ?_ ?_ ?_
 .exact za (by simp [bitvec_to_nat]) (Wi (by simp))
 .exact⟨λc hc=>by simp at hc,by simp⟩
 .rintro⟨Ls,R⟩ ⟨hL,hp⟩;simp only at hL hp;have lL:=uB hL;have hpl:=hp.length_eq;rw [List.length_append,lL]at hpl;have hokp:=WH hp hok;obtain⟨hokL,hokR⟩:=Jh.1 hokp;by_cases hR:20<=R.length
  .have hle:((20*Ls.length+20:Nat):Int)<=(l.length:Int):=by omega
   obtain⟨S,R',rfl,hS⟩:∃S R',R=S++R'/\S.length=20:=⟨R.take 20,R.drop 20,(List.take_append_drop _ _).symm,by rw [List.length_take];omega⟩
   rw [List.length_append]at hpl;simp only [go_sem,hr,hi,hg,hle];simp only [yA];refine⟨Ls.flatten,S,R'++post,rfl,by rw [lL],by rw [lL,hS],by rw [lL,hS,List.length_append];omega,by omega,by omega,by simp [qa],(Jh.1 hokR).1,λS' hpS hS'=>?_⟩
   have lS':=hpS.length_eq;simp only [go_sem,hr,hi,hg];refine⟨by omega,(Ls++[S'],R'),za (by simp [bitvec_to_nat];omega) (Wi (by simp)),⟨Y2 hL (by omega) hS',?_⟩,by simp only;rw [List.length_append];omega⟩
   simp only;refine hp.trans ?_;simp only [List.flatten_append,List.flatten_cons,List.flatten_nil,List.append_nil,List.append_assoc];exact List.Perm.append_left _ (List.Perm.append_right _ hpS)
  .have hle:¬((20*Ls.length+20:Nat):Int)<=(l.length:Int):=by omega
   simp only [go_sem,hr,hi,hg,hle];simp only [yA];refine⟨Ls.flatten,R,post,rfl,by rw [lL],by rw [lL];omega,by rw [lL];omega,by omega,by omega,by simp [qa],hokR,λR' hpR hR'=>?_⟩
   have lR':=hpR.length_eq;simp only [go_sem,hr,hi,hg];refine ja (λp:Nat×List (List Mo)×List Mo=>⟨mkV [(0,.one (.own 1048576 ver 5 0 l.length)),(1,.one (.lit (.int .i64 l.length))),(2,.one (.lit (.func (.func fc) ⟨[]⟩ ⟨[]⟩))),(6,.one (.lit (.int .i64 p.1)))],mkH [(1048576,⟨ver,some ⟨(p.2.1.flatten++p.2.2++post).map mC,5,true⟩⟩)]⟩)
    (λp=>PcsM p.1 p.2.1/\SortM p.2.2/\p.2.2.length<p.1/\p.1<=2147483648/\l.Perm (p.2.1.flatten++p.2.2)) (λp=>4294967296-p.1) (20,Ls,R') ?_ ?_ ?_
   .exact za (by simp [bitvec_to_nat]) (Wi (by simp))
   .exact⟨hL,hR',by simp only;omega,by simp only;omega,hp.trans (List.Perm.append_left _ hpR)⟩
   .rintro⟨bs,Ks,Q⟩ ⟨hKs,hQ,hQl,hbs,hpK⟩;simp only at hKs hQ hQl hbs hpK;have lK:=uB hKs;have hpl2:=hpK.length_eq;rw [List.length_append,lK]at hpl2;by_cases hdone:bs<l.length
    .have hd' : (bs:Int)<(l.length:Int):=by omega
     have n2:(2:Int)*(bs:Int)=((2*bs:Nat):Int):=by omega
     simp only [go_sem,hr,hi,hg,hd',n2];refine⟨by omega,?_⟩
     refine ja (λp:Nat×List (List Mo)×List (List Mo)=>⟨mkV [(0,.one (.own 1048576 ver 5 0 l.length)),(1,.one (.lit (.int .i64 l.length))),(2,.one (.lit (.func (.func fc) ⟨[]⟩ ⟨[]⟩))),(6,.one (.lit (.int .i64 bs))),(7,.one (.lit (.int .i64 p.1))),(8,.one (.lit (.int .i64 (p.1+2*bs:Nat))))],mkH [(1048576,⟨ver,some ⟨(p.2.1.flatten++p.2.2.flatten++Q++post).map mC,5,true⟩⟩)]⟩)
      (λp=>(p.1=p.2.1.flatten.length/\PcsM (2*bs) p.2.1)/\PcsM bs p.2.2/\l.Perm (p.2.1.flatten++p.2.2.flatten++Q)) (λp=>p.2.2.length) (0,[],Ks) ?_ ?_ ?_
     .exact za (by simp [bitvec_to_nat]) (Wi (by simp))
     .exact⟨⟨rfl,λc hc=>by simp at hc⟩,hKs,by simpa using hpK⟩
     .rintro⟨g,Ms,Js⟩ ⟨⟨hg0,hMs⟩,hJs,hpJ⟩;simp only at hg0 hMs hJs hpJ;have lM:=uB hMs;have lJ:=uB hJs;have hpl3:=hpJ.length_eq;rw [List.length_append,List.length_append,<-hg0]at hpl3;have hokJ:=WH hpJ hok;have n3:(g:Int)+(bs:Int)=((g+bs:Nat):Int):=by omega
      match Js,hJs,lJ,hpl3,hpJ,hokJ with
      | X::Y::Js,hJs,lJ,hpl3,hpJ,hokJ=>
       have hX:=hJs X (by simp)
       have hY:=hJs Y (by simp)
       have hJ' : PcsM bs Js:=λc hc=>hJs c (by simp [hc])
       simp only [List.flatten_cons,List.length_append,hX.1,hY.1]at hpl3;have hle:((g+2*bs:Nat):Int)<=(l.length:Int):=by omega
       simp only [List.flatten_cons,List.append_assoc,Jh]at hokJ;simp only [go_sem,hr,hi,hg,hle,n2,n3];refine⟨by omega,?_⟩
       simp only [kh];refine⟨Ms.flatten,X,Y,Js.flatten++Q++post,rfl,by rw [<-hg0],by rw [<-hg0,hX.1],by rw [<-hg0,hX.1,hY.1];omega,λh=>?_,λh=>?_,by omega,by omega,by simp only [List.length_append];omega,by omega,hokJ.2.1,hokJ.2.2.1,hX.2,hY.2,by simp [qa],λC hpC hsC=>?_⟩
       .rw [h]at hX;simp only [List.length_nil]at hX;omega
       .rw [h]at hY;simp only [List.length_nil]at hY;omega
       have lC:=hpC.length_eq;rw [List.length_append,hX.1,hY.1]at lC;simp only [go_sem,hr,hi,hg,n2,n3];have lMC:(Ms++[C]).flatten.length=g+2*bs:=by simp only [List.flatten_append,List.flatten_cons,List.flatten_nil,List.append_nil,List.length_append];omega
       refine⟨by omega,by omega,(g+2*bs,Ms++[C],Js),za (by simp [bitvec_to_nat]) (Wi (by simp)),⟨⟨lMC.symm,Y2 hMs (by omega) hsC⟩,hJ',?_⟩,by simp only;omega⟩
       refine hpJ.trans ?_;simp only [List.flatten_append,List.flatten_cons,List.flatten_nil,List.append_nil,List.append_assoc];refine List.Perm.append_left _ ?_;rw [<-List.append_assoc];exact List.Perm.append_right _ hpC
      | [X],hJs,lJ,hpl3,hpJ,hokJ=>
       have hX:=hJs X (by simp)
       simp only [List.flatten_cons,List.flatten_nil,List.append_nil,hX.1]at hpl3;have hle:¬((g+2*bs:Nat):Int)<=(l.length:Int):=by omega
       simp only [List.flatten_cons,List.flatten_nil,List.append_nil,List.append_assoc,Jh]at hokJ hpJ;by_cases hQ0:Q=[]
       .have hlt:¬((g+bs:Nat):Int)<(l.length:Int):=by rw [hQ0,List.length_nil]at hpl3;omega
        simp only [go_sem,hr,hi,hg,hle,n2,n3,hlt];have n4:(bs:Int)*2=((2*bs:Nat):Int):=by omega
        simp only [n4];refine⟨by omega,by omega,(2*bs,Ms,X),za (by simp [bitvec_to_nat]) (Wi (by simp [hQ0])),⟨hMs,hX.2,by simp only [hX.1];omega,by simp only;omega,by simp only;rw [hQ0,List.append_nil]at hpJ;exact hpJ⟩,by simp only;omega⟩
       .have hQp:=List.length_pos_iff.2 hQ0;have hlt:((g+bs:Nat):Int)<(l.length:Int):=by omega
        simp only [go_sem,hr,hi,hg,hle,n2,n3,hlt];refine⟨by omega,?_⟩
        simp only [kh];refine⟨Ms.flatten,X,Q,post,rfl,by rw [<-hg0],by rw [<-hg0,hX.1],by rw [<-hg0,hX.1];omega,λh=>?_,hQ0,by omega,by omega,by omega,by omega,hokJ.2.1,hokJ.2.2,hX.2,hQ,by simp [qa],λC hpC hsC=>?_⟩
        .rw [h]at hX;simp only [List.length_nil]at hX;omega
        have lC:=hpC.length_eq;rw [List.length_append,hX.1]at lC;simp only [go_sem,hr,hi,hg,n2,n3];have n4:(bs:Int)*2=((2*bs:Nat):Int):=by omega
        simp only [n4];refine⟨by omega,(2*bs,Ms,C),za (by simp [bitvec_to_nat]) (Wi (by simp)),⟨hMs,hsC,by simp only;omega,by simp only;omega,hpJ.trans (List.Perm.append_left _ hpC)⟩,by simp only;omega⟩
      | [],hJs,lJ,hpl3,hpJ,hokJ=>
       simp only [List.flatten_nil,List.length_nil]at hpl3;have hle:¬((g+2*bs:Nat):Int)<=(l.length:Int):=by omega
       have hlt:¬((g+bs:Nat):Int)<(l.length:Int):=by omega
       simp only [go_sem,hr,hi,hg,hle,n2,n3,hlt];have n4:(bs:Int)*2=((2*bs:Nat):Int):=by omega
       simp only [n4];refine⟨by omega,by omega,(2*bs,Ms,Q),za (by simp [bitvec_to_nat]) (Wi (by simp)),⟨hMs,hQ,by simp only;omega,by simp only;omega,by simpa using hpJ⟩,by simp only;omega⟩
    .have hd' : ¬(bs:Int)<(l.length:Int):=by omega
     simp only [go_sem,hr,hi,hg,hd'];refine hK _ hpK ?_;match Ks,hKs,lK,hpl2 with
     | [],_,_,_=>exact hQ
     | [X],hKs,lK,hpl2=>
      have:Q=[]:=List.length_eq_zero_iff.1 (by simp only [List.length_singleton,Nat.mul_one]at hpl2;omega)
      rw [this];simp only [List.flatten_cons,List.flatten_nil,List.append_nil];exact(hKs X (by simp)).2
     | X::Y::Ks,hKs,lK,hpl2=>
      exfalso;simp only [List.length_cons]at hpl2;have h2:bs*2<=bs*(Ks.length+1+1):=Nat.mul_le_mul_left _ (by omega)
      omega
end Go.Abs
end
