/-
  Parts of the proof, merged: IntC, IntD, IntE, IntF, IntG, IntH, IntK, RefB, RefC, RefD, RefF, RunD.
-/
import Derived.Test.YtfichbefnpcdeaaGreatM11
import Derived.Lib.BitFns
set_option linter.unusedVariables false
set_option linter.unusedSimpArgs false
set_option linter.unnecessarySimpa false
set_option maxRecDepth 100000
section
namespace Go.Abs
open Go.Num
variable {P:Program} {Γ:Nat->Spec}
def vl:AC:=(.o [.m 2 (.c (.one .emp))] [0] (.o [.M 4 0,.Z 5 4,.M 3 5] [0,3] (.f (.block 0 (.loop (.f (.o [.M 6 3,.I 7 .gtr 6 0,.M 8 7,.V 9 8 true 0,.V 10 8 true 3,.w 11 8 true (.bin .sub (.t 10) (.i 1)),.w 12 8 true (.idx 1 (.t 9) (.t 11)),.U 13 8 true 1 false 12,.w 14 8 true (.bin .eql (.t 13) (.c (.one (.lit (.int .u32 0))))),.P 15 8 14] [0,3,15] (.cond (.t 15) .skip (.exit 0))) [0,3] (.block 1 (.p [.M 16 3,.I 17 .sub 16 1,.M 3 17]))))) [0,3] (.f (.o [.M 18 3,.I 19 .eql 18 0] [0,3,19] (.cond (.t 19) (.seq (.p [.m 2 (.c (.one .emp))]) .ret) .skip)) [0,3] (.seq (.p [.m 20 (.c (.one .emp)),.M 21 0,.M 22 3,.u 23 (.sl 1 (.t 21) none (some (.t 22))),.u 24 (.app0 1 (.t 20) (.t 23)),.M 2 24]) .ret)))))
def xg:AC:=(.o [.m 4 (.c (.one (.lit (.int .u64 0))))] [0,1] (.f (.o [.M 5 1,.M 6 0,.Z 7 6,.B 8 .lss 5 7] [0,1,8] (.cond (.t 8) (.seq (.p [.M 9 0,.M 10 1,.J 11 1 9 10,.F 12 1 11,.u 13 (.conv .u64 (.t 12)),.M 4 13]) .ret) .skip)) [] (.seq (.p [.m 4 (.c (.one (.lit (.int .u64 0))))]) .ret)))
def Jl(f0 f1:Nat):AC:=(.o [.m 4 (.c (.one .emp))] [0,1] (.o [.M 8 0,.Z 9 8,.M 10 1,.Z 11 10,.u 12 (.max [(.t 9),(.t 11)]),.I 13 .add 12 1,.u 14 (.mk 1 [(.lit (.int .u32 0))] (.t 13) (.t 13)),.M 5 14] [0,1,5] (.o [.m 6 (.c (.one (.lit (.int .u64 0))))] [0,1,5,6] (.f (.o [.M 15 5,.Z 16 15,.N 17 0] [0,1,5,6,16,17] (.block 0 (.loop (.o [.B 18 .lss 17 16] [0,1,5,6,16,17,18] (.f (.cond (.t 18) .skip (.exit 0)) [0,1,5,6,16,17] (.f (.block 1 (.o [.M 19 17,.M 7 19] [0,1,5,6,7,16,17] (.o [.M 20 6,.M 21 0,.M 22 7,.D 23 f0 21 22,.M 24 1,.M 25 7,.D 26 f0 24 25,.B 27 .add 23 26,.B 28 .add 20 27,.M 6 28] [0,1,5,6,7,16,17] (.o [.M 29 5,.M 30 7,.M 31 6,.u 32 (.conv .u32 (.t 31)),.J 33 1 29 30,.S 1 33 32] [0,1,5,6,16,17] (.p [.M 34 6,.u 35 (.bin .shr (.t 34) (.c (.one (.lit (.int .u64 32))))),.M 6 35]))))) [0,1,5,6,16,17] (.p [.I 36 .add 17 1,.M 17 36]))))))) [5] (.seq (.p [.M 37 5,.H 38 f1 37,.M 4 38]) .ret)))))
theorem yak(hΓ:Holds P Γ){f:Nat}(hc:check P f=some (25,vl.strip,[.tmp 2])):Sound P f (.dat false Up):=by
 refine qa hc Wat hΓ (λargs K hcl hfi hG=>?_);match args,hG with
 | [a],hG=>
  obtain⟨l,rfl,hl,hlen,hK⟩:=hG;refine⟨by simp,?_⟩
  simp only [go_sem,vl];intro hmax;refine Wa (λn:Nat=>⟨mkV [(0,wsA l),(3,.one (.lit (.int .i64 n)))],mkH []⟩) (λn=>n<=l.length/\val (l.take n)=val l) id l.length ?_ ?_ ?_
  .exact ja (by simp [bitvec_to_nat]) trivial
  .simp
  .rintro n ⟨hn,ht⟩;simp only [go_sem];refine⟨λh=>⟨by omega,by omega,by omega,λh0=>⟨by omega,n-1,ja (by simp [bitvec_to_nat];omega) trivial,⟨by omega,?_⟩,?_⟩,λh0=>⟨λh1=>by omega,λ_=>⟨by omega,by simp;omega,?_⟩⟩⟩,λh=>⟨λh1=>?_,λh1=>by omega⟩⟩
   .rw [show((n:Int)-1).toNat=n-1 by omega]at h0
    have:=jb l (n-1);rw [show n-1+1=n by omega,h0,Nat.mul_zero,Nat.add_zero]at this
    rw [<-this];exact ht
   .simp only [id];omega
   .rw [show((n:Int)-1).toNat=n-1 by omega]at h0
    have:=Jc (uo hl n) (xE h hn h0);rw [<-this,ht];exact hK
   .subst h1;have:val l=0:=by rw [<-ht];simp [val]
    rw [this,Xa]at hK;exact hK
theorem XF(hΓ:Holds P Γ){f:Nat}(hc:check P f=some (14,xg.strip,[.tmp 4])):Sound P f (.dat true zj):=by
 refine qa hc yau hΓ (λargs K hcl hfi hG=>?_);match args,hG with
 | [a,b],hG=>
  obtain⟨l,rfl,hl,hG⟩:=hG;obtain⟨k,i,rfl,rfl,hi,hK⟩:=yb hG;refine⟨by simp,?_⟩
  simp only [go_sem,xg];intro hmax;refine⟨λh=>⟨hi,by omega,?_⟩,λh=>?_⟩
  .have:=Wb hl i.toNat;rw [Nat.mod_eq_of_lt (by omega)];exact hK
  .rw [List.getD_eq_getElem?_getD,List.getElem?_eq_none (by omega)]at hK;exact hK
theorem Jai(hΓ:Holds P Γ){f fw ft:Nat}(hw:Γ fw=.dat true zj)(ht:Γ ft=.dat false Up)(hc:check P f=some (39,(Jl fw ft).strip,[.tmp 4])):Sound P f (.dat false Xp):=by
 refine qa hc XQ hΓ (λargs K hcl hfi hG=>?_);match args,hG with
 | [a,b],hG=>
  obtain⟨x,rfl,hx,y,rfl,hy,hxl,hyl,hK⟩:=hG;refine⟨by simp,?_⟩
  simp only [go_sem,Jl,hw,ht];intro h1 h2;refine⟨by omega,by omega,λhN=>?_⟩
  generalize hNN:max x.length y.length+1=N at hN;refine Wa (λp:List Nat×Nat=>⟨mkV [(0,wsA x),(1,wsA y),(5,.one (.own 14 1 1 0 N)),(6,.one (.lit (.int .u64 p.2))),(16,.one (.lit (.int .i64 N))),(17,.one (.lit (.int .i64 p.1.length)))],mkH [(14,⟨1,some ⟨(p.1++List.replicate (N-p.1.length) 0).map wc,1,true⟩⟩)]⟩)
   (λp=>p.1.length<=N/\WL p.1/\p.2<=1/\val p.1+4294967296 ^ p.1.length*p.2=val (x.take p.1.length)+val (y.take p.1.length)) (λp=>N-p.1.length) ([],0) ?_ ?_ ?_
  .exact ja (by simp [bitvec_to_nat]) (ue (by simp))
  .simp [Ub,val]
  .rintro⟨o,c⟩ ⟨hoN,ho,hc1,hval⟩;simp only at hoN ho hc1 hval;have hlen:(o++List.replicate (N-o.length) 0).length=N:=by simp;omega
   simp only [go_sem,hw,ht,hlen];refine⟨λhlt=>⟨hx,hy,hlt,hlt,by omega,by omega,?_⟩,λhge=>?_⟩
   .have g1:=Wb hx o.length;have g2:=Wb hy o.length;rw [Nat.mod_eq_of_lt (show x.getD o.length 0+y.getD o.length 0<18446744073709551616 by omega),Nat.mod_eq_of_lt (show c+(x.getD o.length 0+y.getD o.length 0)<18446744073709551616 by omega)]
    generalize hs:c+(x.getD o.length 0+y.getD o.length 0)=s;refine⟨(o++[s % 4294967296],s / 4294967296),ja (by simp [bitvec_to_nat]) (ue ?_),⟨by simp;omega,uc.2 ⟨ho,Xb.2 ⟨Nat.mod_lt _ (by omega),Ub⟩⟩,by simp only;omega,?_⟩,by simp;omega⟩
    .rw [show N-o.length=N-(o.length+1)+1 by omega,WX];simp
    .simp only [List.length_append,List.length_cons,List.length_nil,Nat.zero_add,jb,kb,uf,Jj,Nat.mul_zero,Nat.add_zero,Nat.pow_succ];rw [Nat.mul_assoc,Nat.add_assoc,<-Nat.mul_add,Nat.mod_add_div,<-hs,Nat.mul_add,<-Nat.add_assoc,hval,Nat.mul_add];omega
   .have e:o.length=N:=by omega
    simp only [e,Nat.sub_self,List.replicate_zero,List.append_nil,Nat.le_refl,if_true,UB];have hv:val o=val x+val y:=by
     rw [e,Uf (by omega),Uf (by omega)]at hval
     exact wY hx hy (by omega) (by omega) (by omega) hval
    refine⟨ho,by omega,?_⟩
    rw [hv];exact hK
end Go.Abs
end
section
namespace Go.Abs
open Go.Num
variable {P:Program} {Γ:Nat->Spec}
def Ql(f0 f1:Nat):AC:=(.o [.m 4 (.c (.one .emp))] [0,1] (.o [.M 9 0,.Z 10 9,.u 11 (.mk 1 [(.lit (.int .u32 0))] (.t 10) (.t 10)),.M 5 11] [0,1,5] (.o [.m 6 (.c (.one (.lit (.int .u64 0))))] [0,1,5,6] (.f (.o [.M 12 5,.Z 13 12,.N 14 0] [0,1,5,6,13,14] (.block 0 (.loop (.o [.B 15 .lss 14 13] [0,1,5,6,13,14,15] (.f (.cond (.t 15) .skip (.exit 0)) [0,1,5,6,13,14] (.f (.block 1 (.o [.M 16 14,.M 7 16] [0,1,5,6,7,13,14] (.f (.y [.M 17 0,.M 18 7,.J 19 1 17 18,.F 20 1 19,.u 21 (.conv .u64 (.t 20)),.M 22 1,.M 23 7,.D 24 f0 22 23,.B 25 .sub 21 24,.M 26 6,.B 27 .sub 25 26,.M 8 27]) [0,1,5,7,8,13,14] (.o [.M 28 5,.M 29 7,.M 30 8,.u 31 (.conv .u32 (.t 30)),.J 32 1 28 29,.S 1 32 31] [0,1,5,8,13,14] (.p [.M 33 8,.u 34 (.bin .shr (.t 33) (.c (.one (.lit (.int .u64 63))))),.M 6 34]))))) [0,1,5,6,13,14] (.p [.I 35 .add 14 1,.M 14 35]))))))) [5] (.seq (.p [.M 36 5,.H 37 f1 36,.M 4 37]) .ret)))))
def qh:AC:=(.o [.N 4 0] [0,1] (.f (.o [.M 6 0,.Z 7 6,.M 8 1,.Z 9 8,.B 10 .neq 7 9] [0,1,10] (.cond (.t 10) (.f (.o [.M 11 0,.Z 12 11,.M 13 1,.Z 14 13,.B 15 .lss 12 14] [15] (.cond (.t 15) (.seq (.p [.N 4 (-1)]) .ret) .skip)) [] (.seq (.p [.N 4 1]) .ret)) .skip)) [0,1] (.f (.o [.M 16 0,.Z 17 16,.I 18 .sub 17 1,.M 5 18] [0,1,5] (.block 0 (.loop (.f (.o [.M 19 5,.I 20 .geq 19 0] [0,1,5,20] (.cond (.t 20) .skip (.exit 0))) [0,1,5] (.f (.block 1 (.f (.y [.M 23 0,.M 24 5,.J 25 1 23 24,.F 26 1 25,.M 27 1,.M 28 5,.J 29 1 27 28,.F 30 1 29,.B 31 .neq 26 30]) [0,1,5,31] (.cond (.t 31) (.f (.f (.y [.M 32 0,.M 33 5,.J 34 1 32 33,.F 35 1 34,.M 36 1,.M 37 5,.J 38 1 36 37,.F 39 1 38,.B 40 .lss 35 39]) [40] (.cond (.t 40) (.seq (.p [.N 4 (-1)]) .ret) .skip)) [] (.seq (.p [.N 4 1]) .ret)) .skip))) [0,1,5] (.p [.M 21 5,.I 22 .sub 21 1,.M 5 22])))))) [] (.seq (.p [.N 4 0]) .ret))))
def Zj(f0:Nat):AC:=(.o [.m 4 (.c (.one .emp)),.m 5 (.c (.one (.lit (.int .u32 0))))] [0,1] (.o [.M 9 0,.Z 10 9,.u 11 (.mk 1 [(.lit (.int .u32 0))] (.t 10) (.t 10)),.M 6 11] [0,1,6] (.o [.m 7 (.c (.one (.lit (.int .u64 0))))] [0,1,6,7] (.f (.o [.M 12 0,.Z 13 12,.I 14 .sub 13 1,.M 8 14] [0,1,6,7,8] (.block 0 (.loop (.f (.o [.M 15 8,.I 16 .geq 15 0] [0,1,6,7,8,16] (.cond (.t 16) .skip (.exit 0))) [0,1,6,7,8] (.f (.block 1 (.o [.M 19 7,.u 20 (.bin .shl (.t 19) (.c (.one (.lit (.int .u64 32))))),.M 21 0,.M 22 8,.J 23 1 21 22,.F 24 1 23,.u 25 (.conv .u64 (.t 24)),.B 26 .or 20 25,.M 7 26] [0,1,6,7,8] (.o [.M 27 6,.M 28 8,.M 29 7,.M 30 1,.u 31 (.conv .u64 (.t 30)),.B 32 .quo 29 31,.u 33 (.conv .u32 (.t 32)),.J 34 1 27 28,.S 1 34 33] [0,1,6,7,8] (.p [.M 35 7,.M 36 1,.u 37 (.conv .u64 (.t 36)),.B 38 .rem 35 37,.M 7 38])))) [0,1,6,7,8] (.p [.M 17 8,.I 18 .sub 17 1,.M 8 18])))))) [6,7] (.seq (.p [.M 39 6,.H 40 f0 39,.M 41 7,.u 42 (.conv .u32 (.t 41)),.M 4 40,.M 5 42]) .ret)))))
theorem Uah(hΓ:Holds P Γ){f fw ft:Nat}(hw:Γ fw=.dat true zj)(ht:Γ ft=.dat false Up)(hc:check P f=some (38,(Ql fw ft).strip,[.tmp 4])):Sound P f (.dat false Wq):=by
 refine qa hc kO hΓ (λargs K hcl hfi hG=>?_);match args,hG with
 | [a,b],hG=>
  obtain⟨x,rfl,hx,y,rfl,hy,hxl,hle,hK⟩:=hG;refine⟨by simp,?_⟩
  simp only [go_sem,Ql,hw,ht];intro h1;refine⟨by omega,λ_=>?_⟩
  generalize hN:x.length=N at h1 hxl;refine Wa (λp:List Nat×Nat=>⟨mkV [(0,wsA x),(1,wsA y),(5,.one (.own 11 1 1 0 N)),(6,.one (.lit (.int .u64 p.2))),(13,.one (.lit (.int .i64 N))),(14,.one (.lit (.int .i64 p.1.length)))],mkH [(11,⟨1,some ⟨(p.1++List.replicate (N-p.1.length) 0).map wc,1,true⟩⟩)]⟩)
   (λp=>p.1.length<=N/\WL p.1/\p.2<=1/\val p.1+val (y.take p.1.length)=val (x.take p.1.length)+4294967296 ^ p.1.length*p.2) (λp=>N-p.1.length) ([],0) ?_ ?_ ?_
  .exact ja (by simp [bitvec_to_nat]) (ue (by simp))
  .simp [Ub,val]
  .rintro⟨o,c⟩ ⟨hoN,ho,hc1,hval⟩;simp only at hoN ho hc1 hval;have hlen:(o++List.replicate (N-o.length) 0).length=N:=by simp;omega
   simp only [go_sem,hw,ht,hlen];refine⟨λhlt=>⟨by omega,hy,hlt,hlt,by omega,by omega,?_⟩,λhge=>?_⟩
   .have g1:=Wb hx o.length;have g2:=Wb hy o.length;rw [Nat.mod_eq_of_lt (show x.getD o.length 0<18446744073709551616 by omega)]
    obtain⟨s1,s2⟩:=V6 g1 g2 hc1;generalize sub64 (sub64 (x.getD o.length 0) (y.getD o.length 0)) c=s at s1 s2;refine⟨(o++[s % 4294967296],s / 9223372036854775808),ja (by simp [bitvec_to_nat]) (ue ?_),⟨by simp;omega,uc.2 ⟨ho,Xb.2 ⟨Nat.mod_lt _ (by omega),Ub⟩⟩,s2,?_⟩,by simp;omega⟩
    .rw [show N-o.length=N-(o.length+1)+1 by omega,WX];simp
    .simp only [List.length_append,List.length_cons,List.length_nil,Nat.zero_add,jb,kb,uf,Jj,Nat.mul_zero,Nat.add_zero,Nat.pow_succ];exact Uy hval s1
   .have e:o.length=N:=by omega
    have hv:=Jy ho hx (by omega) hle hval
    simp only [e,Nat.sub_self,List.replicate_zero,List.append_nil];refine⟨ho,by omega,?_⟩
    rw [hv];exact hK
theorem jK(hΓ:Holds P Γ){f:Nat}(hc:check P f=some (41,qh.strip,[.tmp 4])):Sound P f (.dat false qj):=by
 refine qa hc qN hΓ (λargs K hcl hfi hG=>?_);match args,hG with
 | [a,b],hG=>
  obtain⟨x,rfl,hx,y,rfl,hy,hzx,hzy,hK⟩:=hG;refine⟨by simp,?_⟩
  simp only [go_sem,qh];intro h1 h2;refine⟨λhl _=>⟨by omega,?_⟩,λhne _ _=>⟨λhlt=>?_,λhge=>?_⟩⟩
  rotate_left
  .rw [vK (ZC hx hzy hlt)]at hK;exact hK
  .rw [UW (ZC hy hzx (by omega))]at hK;exact hK
  refine Wa (λn:Nat=>⟨mkV [(0,wsA x),(1,wsA y),(5,.one (.lit (.int .i64 ((n:Int)-1))))],mkH []⟩) (λn=>n<=x.length/\x.drop n=y.drop n) id x.length ?_ ?_ ?_
  .exact ja (by simp [bitvec_to_nat]) trivial
  .simp [hl]
  .rintro n ⟨hn,hd⟩;simp only [go_sem];refine⟨λh=>⟨by omega,by omega,by omega,by omega,λhe=>⟨by omega,n-1,ja (by simp [bitvec_to_nat];omega) trivial,⟨by omega,?_⟩,by simp only [id];omega⟩,λhne=>?_⟩,λh=>?_⟩
   .rw [show((n:Int)-1).toNat=n-1 by omega]at he
    rw [List.getD_eq_getElem?_getD,List.getD_eq_getElem?_getD,List.getElem?_eq_getElem (by omega),List.getElem?_eq_getElem (by omega)]at he
    have e1:=List.getElem_cons_drop (as:=x) (i:=n-1) (by omega)
    have e2:=List.getElem_cons_drop (as:=y) (i:=n-1) (by omega)
    rw [show n-1+1=n by omega]at e1 e2
    rw [<-e1,<-e2,hd];simp only [Option.getD_some]at he;rw [he]
   .rw [show((n:Int)-1).toNat=n-1 by omega]at hne ⊢
    refine⟨by omega,by omega,by omega,by omega,λhlt=>?_,λhge=>?_⟩
    .rw [vK (UaN (i:=n-1) hx hl (by omega) (by rw [show n-1+1=n by omega];exact hd) hlt)]at hK;exact hK
    .rw [UW (UaN (i:=n-1) hy hl.symm (by omega) (by rw [show n-1+1=n by omega];exact hd.symm) (by omega))]at hK;exact hK
   .have:n=0:=by omega
    subst this;simp only [List.drop_zero]at hd;rw [hd,zav]at hK;exact hK
theorem yX(hΓ:Holds P Γ){f ft:Nat}(ht:Γ ft=.dat false Up)(hc:check P f=some (43,(Zj ft).strip,[.tmp 4,.tmp 5])):Sound P f (.dat false Zx):=by
 refine qa hc Uag hΓ (λargs K hcl hfi hG=>?_);match args,hG with
 | [a,b],hG=>
  obtain⟨x,rfl,hx,hG⟩:=hG;obtain⟨k,m,rfl,rfl,hm,hmB,hxl,hK⟩:=yb hG;obtain⟨m,rfl⟩:∃n:Nat,m=n:=⟨m.toNat,by omega⟩
  simp only [Int.toNat_natCast]at hK;refine⟨by simp,?_⟩
  simp only [go_sem,Zj,ht];intro h1;refine⟨hxl,λ_=>⟨by omega,?_⟩⟩
  refine Wa (λp:List Nat×Nat=>⟨mkV [(0,wsA x),(1,.one (.lit (.int .u32 m))),(6,.one (.own 11 1 1 0 x.length)),(7,.one (.lit (.int .u64 p.2))),(8,.one (.lit (.int .i64 ((x.length:Int)-p.1.length-1))))],mkH [(11,⟨1,some ⟨(List.replicate (x.length-p.1.length) 0++p.1).map wc,1,true⟩⟩)]⟩)
   (λp=>p.1.length<=x.length/\WL p.1/\p.2<m/\val p.1*m+p.2=val (x.drop (x.length-p.1.length))) (λp=>x.length-p.1.length) ([],0) ?_ ?_ ?_
  .exact ja (by simp [bitvec_to_nat]) (ue (by simp))
  .simp [Ub,val];omega
  .rintro⟨q,r⟩ ⟨hq,hqw,hr,hval⟩;simp only at hq hqw hr hval;have hlen:(List.replicate (x.length-q.length) 0++q).length=x.length:=by simp;omega
   simp only [go_sem,ht,hlen];refine⟨λh=>?_,λh=>?_⟩
   .obtain⟨n,hn⟩:∃n,n=x.length-q.length:=⟨_,rfl⟩;have hn0:0<n:=by omega
    have hi:((x.length:Int)-q.length-1).toNat=n-1:=by omega
    have g1:=Wb hx (n-1);have hd:=Vz x hn0 (by omega)
    obtain⟨s1,s2⟩:=waD (by omega) hr g1
    have s3:=wau (B:=4294967296) (a:=x.getD (n-1) 0) (by omega) (hn▸hval)
    have e1:r*4294967296 % 18446744073709551616=r*4294967296:=by omega
    have e2:x.getD (n-1) 0 % 18446744073709551616=x.getD (n-1) 0:=by omega
    have e3:m % 18446744073709551616=m:=by omega
    rw [hi,<-hn,e1,e2,e3,or32 _ _ g1];generalize hs:r*4294967296+x.getD (n-1) 0=s at s1 s2 s3;rw [Nat.mod_eq_of_lt (show s / m<18446744073709551616 by omega),Nat.mod_eq_of_lt s1]
    have hm0:s % m<m:=Nat.mod_lt _ (by omega)
    refine⟨by omega,by omega,by omega,⟨rfl,by omega,by omega⟩,by omega,⟨by omega,by omega⟩,by omega,by omega,by omega,(s / m::q,s % m),ja (by simp [bitvec_to_nat];omega) (ue ?_),⟨by simp;omega,Xb.2 ⟨s1,hqw⟩,hm0,?_⟩,by simp;omega⟩
    .simp only [List.length_cons];rw [xl q _ hn0,show x.length-(q.length+1)=n-1 by omega]
    .rw [uf,List.length_cons,show x.length-(q.length+1)=n-1 by omega,hd];exact s3
   .have e:x.length-q.length=0:=by omega
    simp only [e,List.replicate_zero,List.nil_append,List.drop_zero]at hval ⊢;have h1:=Nat.div_mod_unique (show 0<m by omega) (a:=val x) (c:=r) (d:=val q)
    obtain⟨h2,h3⟩:=h1.2 ⟨by rw [<-hval,Nat.mul_comm m,Nat.add_comm],hr⟩
    rw [h2,h3]at hK;refine⟨hqw,by omega,?_⟩
    rw [Nat.mod_eq_of_lt (by omega)];exact hK
end Go.Abs
end
section
namespace Go.Abs
open Go.Num
variable {P:Program} {Γ:Nat->Spec}
def qp:AC:=(.o [.m 4 (.c (.one .emp))] [0,1] (.o [.M 9 0,.Z 10 9,.I 11 .add 10 1,.u 12 (.mk 1 [(.lit (.int .u32 0))] (.t 11) (.t 11)),.M 5 12] [0,1,5] (.f (.o [.M 13 0,.Z 14 13,.N 15 0] [1,5,13,14,15] (.block 0 (.loop (.o [.B 16 .lss 15 14] [1,5,13,14,15,16] (.f (.cond (.t 16) .skip (.exit 0)) [1,5,13,14,15] (.f (.block 1 (.o [.M 17 15,.J 18 1 13 15,.F 19 1 18,.M 6 17,.M 7 19] [1,5,6,7,13,14,15] (.o [.M 20 7,.u 21 (.conv .u64 (.t 20)),.M 22 1,.B 23 .shl 21 22,.M 8 23] [1,5,6,8,13,14,15] (.o [.M 24 5,.M 25 6,.J 26 1 24 25,.F 27 1 26,.M 28 8,.u 29 (.conv .u32 (.t 28)),.B 30 .or 27 29,.J 31 1 24 25,.S 1 31 30] [1,5,6,8,13,14,15] (.p [.M 32 5,.M 33 6,.I 34 .add 33 1,.M 35 8,.u 36 (.bin .shr (.t 35) (.c (.one (.lit (.int .u64 32))))),.u 37 (.conv .u32 (.t 36)),.J 38 1 32 34,.S 1 38 37]))))) [1,5,13,14,15] (.p [.I 39 .add 15 1,.M 15 39]))))))) [5] (.seq (.p [.M 40 5,.M 4 40]) .ret))))
def Yl(f0 f1:Nat):AC:=(.o [.m 4 (.c (.one .emp))] [0,1] (.o [.M 7 0,.Z 8 7,.u 9 (.mk 1 [(.lit (.int .u32 0))] (.t 8) (.t 8)),.M 5 9] [0,1,5] (.f (.o [.M 10 0,.Z 11 10,.N 12 0] [0,1,5,11,12] (.block 0 (.loop (.o [.B 13 .lss 12 11] [0,1,5,11,12,13] (.f (.cond (.t 13) .skip (.exit 0)) [0,1,5,11,12] (.f (.block 1 (.o [.M 14 12,.M 6 14] [0,1,5,6,11,12] (.y [.M 15 5,.M 16 6,.M 17 0,.M 18 6,.J 19 1 17 18,.F 20 1 19,.u 21 (.conv .u64 (.t 20)),.M 22 0,.M 23 6,.I 24 .add 23 1,.D 25 f0 22 24,.u 26 (.bin .shl (.t 25) (.c (.one (.lit (.int .u64 32))))),.B 27 .or 21 26,.M 28 1,.B 29 .shr 27 28,.u 30 (.conv .u32 (.t 29)),.J 31 1 15 16,.S 1 31 30]))) [0,1,5,11,12] (.p [.I 32 .add 12 1,.M 12 32]))))))) [5] (.seq (.p [.M 33 5,.H 34 f1 33,.M 4 34]) .ret))))
def wj(f0:Nat):AC:=(.o [.m 4 (.c (.one .emp))] [0,1] (.o [.M 11 0,.Z 12 11,.M 13 1,.Z 14 13,.B 15 .add 12 14,.u 16 (.mk 1 [(.lit (.int .u32 0))] (.t 15) (.t 15)),.M 5 16] [0,1,5] (.f (.o [.M 17 0,.Z 18 17,.N 19 0] [1,5,17,18,19] (.block 0 (.loop (.o [.B 20 .lss 19 18] [1,5,17,18,19,20] (.f (.cond (.t 20) .skip (.exit 0)) [1,5,17,18,19] (.f (.block 1 (.o [.M 21 19,.J 22 1 17 19,.F 23 1 22,.M 6 21,.M 7 23] [1,5,6,7,17,18,19] (.o [.m 8 (.c (.one (.lit (.int .u64 0))))] [1,5,6,7,8,17,18,19] (.f (.o [.M 24 1,.Z 25 24,.N 26 0] [1,5,6,7,8,17,18,19,24,25,26] (.block 2 (.loop (.o [.B 27 .lss 26 25] [1,5,6,7,8,17,18,19,24,25,26,27] (.f (.cond (.t 27) .skip (.exit 2)) [1,5,6,7,8,17,18,19,24,25,26] (.f (.block 3 (.o [.M 28 26,.J 29 1 24 26,.F 30 1 29,.M 9 28,.M 10 30] [1,5,6,7,8,9,10,17,18,19,24,25,26] (.o [.M 31 8,.M 32 7,.u 33 (.conv .u64 (.t 32)),.M 34 10,.u 35 (.conv .u64 (.t 34)),.B 36 .mul 33 35,.M 37 5,.M 38 6,.M 39 9,.B 40 .add 38 39,.J 41 1 37 40,.F 42 1 41,.u 43 (.conv .u64 (.t 42)),.B 44 .add 36 43,.B 45 .add 31 44,.M 8 45] [1,5,6,7,8,9,17,18,19,24,25,26] (.o [.M 46 5,.M 47 6,.M 48 9,.B 49 .add 47 48,.M 50 8,.u 51 (.conv .u32 (.t 50)),.J 52 1 46 49,.S 1 52 51] [1,5,6,7,8,17,18,19,24,25,26] (.p [.M 53 8,.u 54 (.bin .shr (.t 53) (.c (.one (.lit (.int .u64 32))))),.M 8 54]))))) [1,5,6,7,8,17,18,19,24,25,26] (.p [.I 55 .add 26 1,.M 26 55]))))))) [1,5,6,8,17,18,19] (.p [.M 56 5,.M 57 6,.M 58 1,.Z 59 58,.B 60 .add 57 59,.M 61 8,.u 62 (.conv .u32 (.t 61)),.J 63 1 56 60,.S 1 63 62]))))) [1,5,17,18,19] (.p [.I 64 .add 19 1,.M 19 64]))))))) [5] (.seq (.p [.M 65 5,.H 66 f0 65,.M 4 66]) .ret))))
theorem qaF(hΓ:Holds P Γ){f:Nat}(hc:check P f=some (41,qp.strip,[.tmp 4])):Sound P f (.fresh 1 up_G):=by
 refine jC hc UaS hΓ (λargs K hcl hfi hG=>?_);match args,hG with
 | [a,b],hG=>
  obtain⟨x,rfl,hx,hG⟩:=hG;obtain⟨k,m,rfl,rfl,hm,hmB,hxl,hK⟩:=yb hG;obtain⟨m,rfl⟩:∃n:Nat,m=n:=⟨m.toNat,by omega⟩
  simp only [Int.toNat_natCast]at hK;refine⟨by simp,?_⟩
  simp only [go_sem,qp];intro h1;refine⟨by omega,by omega,λ_=>?_⟩
  refine Wa (λp:List Nat×Nat=>⟨mkV [(1,.one (.lit (.int .i64 m))),(5,.one (.own 12 1 1 0 (x.length+1))),(13,wsA x),(14,.one (.lit (.int .i64 x.length))),(15,.one (.lit (.int .i64 p.1.length)))],mkH [(12,⟨1,some ⟨(p.1++p.2::List.replicate (x.length-p.1.length) 0).map wc,1,true⟩⟩)]⟩)
   (λp=>p.1.length<=x.length/\WL p.1/\p.2<2 ^ m/\val p.1+4294967296 ^ p.1.length*p.2=val (x.take p.1.length)*2 ^ m) (λp=>x.length-p.1.length) ([],0) ?_ ?_ ?_
  .exact ja (by simp [bitvec_to_nat]) (ue (by simp [List.replicate_succ]))
  .simp [Ub,val];exact Nat.pow_pos (by omega)
  .rintro⟨o,c⟩ ⟨hoN,ho,hc1,hval⟩;simp only at hoN ho hc1 hval;have hlen:(o++c::List.replicate (x.length-o.length) 0).length=x.length+1:=by simp;omega
   simp only [go_sem,hlen,List.length_set];refine⟨λhlt=>?_,λhge=>?_⟩
   .have g1:=Wb hx o.length;obtain⟨s1,s2,s3,s4⟩:=QaR (by omega) hc1 g1
    have e1:x.getD o.length 0 % 18446744073709551616=x.getD o.length 0:=by omega
    have hp:=kL (show m<32 by omega)
    rw [Qa8,e1,Nat.mod_eq_of_lt s1,s2,Xa2];generalize hy:x.getD o.length 0*2 ^ m=y at s1 s2 s3 s4;rw [Nat.mod_eq_of_lt (show y / 4294967296<4294967296 by omega)]
    refine⟨hlt,by omega,by omega,by omega,⟨rfl,by omega,by omega⟩,by omega,by omega,by omega,by omega,by omega,by omega,by omega,(o++[y % 4294967296+c],y / 4294967296),ja (by simp [bitvec_to_nat]) (ue ?_),⟨by simp;omega,uc.2 ⟨ho,Xb.2 ⟨s3,Ub⟩⟩,s4,?_⟩,by simp;omega⟩
    .rw [show x.length-o.length=(x.length-(o.length+1))+1 by omega,List.replicate_succ,yaQ];simp
    .simp only [List.length_append,List.length_cons,List.length_nil,Nat.zero_add,jb,kb,uf,Jj,Nat.mul_zero,Nat.add_zero,Nat.pow_succ];rw [ja1 (B:=4294967296) (x:=y) hval rfl,Nat.add_mul,<-hy,Nat.mul_assoc]
   .have e:o.length=x.length:=by omega
    have hcB:c<4294967296:=by have:=kL (show m<32 by omega);omega
    rw [e,Uf (Nat.le_refl _)]at hval;simp only [e,Nat.sub_self,List.replicate_zero];have hw:WL (o++[c]):=uc.2 ⟨ho,Xb.2 ⟨hcB,Ub⟩⟩;have hv:val (o++[c])=val x*2 ^ m:=by rw [kb,e];simpa [val] using hval
    have:=Yt hw;rw [hv,List.length_append,List.length_singleton,e]at this;rw [<-this];exact hK
theorem Xaj(hΓ:Holds P Γ){f fw ft:Nat}(hw:Γ fw=.dat true zj)(ht:Γ ft=.dat false Up)(hc:check P f=some (35,(Yl fw ft).strip,[.tmp 4])):Sound P f (.dat false jG):=by
 refine qa hc jat hΓ (λargs K hcl hfi hG=>?_);match args,hG with
 | [a,b],hG=>
  obtain⟨x,rfl,hx,hG⟩:=hG;obtain⟨k,m,rfl,rfl,hm,hmB,hxl,hK⟩:=yb hG;obtain⟨m,rfl⟩:∃n:Nat,m=n:=⟨m.toNat,by omega⟩
  simp only [Int.toNat_natCast]at hK;refine⟨by simp,?_⟩
  simp only [go_sem,Yl,hw,ht];intro h1;refine⟨by omega,λ_=>?_⟩
  refine Wa (λo:List Nat=>⟨mkV [(0,wsA x),(1,.one (.lit (.int .i64 m))),(5,.one (.own 9 1 1 0 x.length)),(11,.one (.lit (.int .i64 x.length))),(12,.one (.lit (.int .i64 o.length)))],mkH [(9,⟨1,some ⟨(o++List.replicate (x.length-o.length) 0).map wc,1,true⟩⟩)]⟩)
   (λo=>o.length<=x.length/\WL o/\val o=val x / 2 ^ m % 4294967296 ^ o.length) (λo=>x.length-o.length) [] ?_ ?_ ?_
  .exact ja (by simp [bitvec_to_nat]) (ue (by simp))
  .simp [Ub,val,Nat.mod_one]
  .rintro o ⟨hoN,ho,hval⟩;have hlen:(o++List.replicate (x.length-o.length) 0).length=x.length:=by simp;omega
   simp only [go_sem,hw,ht,hlen];refine⟨λhlt=>⟨hlt,by omega,hx,by omega,⟨rfl,by omega,by omega⟩,by omega,hlt,hlt,by omega,?_⟩,λhge=>?_⟩
   .have g1:=Wb hx o.length;have g2:=Wb hx (o.length+1);have e1:x.getD o.length 0 % 18446744073709551616=x.getD o.length 0:=by omega
    have e2:x.getD (o.length+1) 0*4294967296 % 18446744073709551616=x.getD (o.length+1) 0*4294967296:=by omega
    rw [e1,e2,or32' _ _ g1,show x.getD (o.length+1) 0*4294967296+x.getD o.length 0=x.getD o.length 0+4294967296*x.getD (o.length+1) 0 by omega,WQ hx (by omega)]
    generalize hv:val x / 2 ^ m / 4294967296 ^ o.length % 4294967296=v;have hvB:v<4294967296:=by rw [<-hv];exact Nat.mod_lt _ (by omega)
    refine⟨o++[v],ja (by simp [bitvec_to_nat]) (ue ?_),⟨by simp;omega,uc.2 ⟨ho,Xb.2 ⟨hvB,Ub⟩⟩,?_⟩,by simp;omega⟩
    .rw [show x.length-o.length=x.length-(o.length+1)+1 by omega,WX];simp
    .rw [kb,List.length_append,List.length_singleton,Xx,hv,<-hval];simp [val]
   .have e:o.length=x.length:=by omega
    have hlt:val x / 2 ^ m<4294967296 ^ x.length:=Nat.lt_of_le_of_lt (Nat.div_le_self _ _) (Vh hx);rw [e,Nat.mod_eq_of_lt hlt]at hval;simp only [e,Nat.sub_self,List.replicate_zero,List.append_nil];refine⟨ho,by omega,?_⟩
    rw [hval];exact hK
theorem UV(hΓ:Holds P Γ){f ft:Nat}(ht:Γ ft=.dat false Up)(hc:check P f=some (67,(wj ft).strip,[.tmp 4])):Sound P f (.dat false Uw):=by
 refine qa hc Xak hΓ (λargs K hcl hfi hG=>?_);match args,hG with
 | [a,b],hG=>
  obtain⟨x,rfl,hx,y,rfl,hy,hxl,hyl,hK⟩:=hG;refine⟨by simp,?_⟩
  simp only [go_sem,wj,ht];intro h1 h2;refine⟨by omega,by omega,λ_=>?_⟩
  generalize hN:x.length+y.length=N;refine Wa (λp:Nat×List Nat=>⟨mkV [(1,wsA y),(5,.one (.own 16 1 1 0 N)),(17,wsA x),(18,.one (.lit (.int .i64 x.length))),(19,.one (.lit (.int .i64 p.1)))],mkH [(16,⟨1,some ⟨p.2.map wc,1,true⟩⟩)]⟩)
   (λp=>p.1<=x.length/\WL p.2/\p.2.length=N/\val p.2=val (x.take p.1)*val y/\∀j,p.1+y.length<=j->p.2.getD j 0=0) (λp=>x.length-p.1) (0,List.replicate N 0) ?_ ?_ ?_
  .exact ja (by simp [bitvec_to_nat]) (ue (by simp))
  .simp [YaZ,val,xav];intro j _;rw [List.getElem?_replicate];split <;> rfl
  .rintro⟨i,o⟩ ⟨hi,ho,hoN,hval,hz⟩;simp only at hi ho hoN hval hz;simp only [go_sem,ht,hoN];refine⟨λhlt=>⟨hlt,λ_=>?_⟩,λhge=>?_⟩
   .have g1:=Wb hx i;refine Wa (λp:Nat×Nat×List Nat=>⟨mkV [(1,wsA y),(5,.one (.own 16 1 1 0 N)),(6,.one (.lit (.int .i64 i))),(7,.one (.lit (.int .u32 (x.getD i 0:Nat)))),(8,.one (.lit (.int .u64 p.2.1))),(17,wsA x),(18,.one (.lit (.int .i64 x.length))),(19,.one (.lit (.int .i64 i))),(24,wsA y),(25,.one (.lit (.int .i64 y.length))),(26,.one (.lit (.int .i64 p.1)))],mkH [(16,⟨1,some ⟨p.2.2.map wc,1,true⟩⟩)]⟩)
     (λp=>p.1<=y.length/\p.2.1<4294967296/\WL p.2.2/\p.2.2.length=N/\val p.2.2+4294967296 ^ i*4294967296 ^ p.1*p.2.1=val (x.take i)*val y+4294967296 ^ i*x.getD i 0*val (y.take p.1)/\∀j,i+y.length<=j->p.2.2.getD j 0=0) (λp=>y.length-p.1) (0,0,o) ?_ ?_ ?_
    .exact ja (by simp [bitvec_to_nat]) (ue rfl)
    .exact⟨Nat.zero_le _,by simp,ho,hoN,by simp [val,hval],hz⟩
    .rintro⟨k,c,o⟩ ⟨hk,hc,ho,hoN,hval,hz⟩;simp only at hk hc ho hoN hval hz;simp only [go_sem,ht,hoN];refine⟨λhlt2=>?_,λhge2=>?_⟩
     .have g2:=Wb hy k;have g3:=Wb ho (i+k);have s1:=Y6 g1 g2 hc g3;have e1:x.getD i 0 % 18446744073709551616=x.getD i 0:=by omega
      have e2:y.getD k 0 % 18446744073709551616=y.getD k 0:=by omega
      have e3:o.getD (i+k) 0 % 18446744073709551616=o.getD (i+k) 0:=by omega
      have hstep:=Uaj hval (by omega) rfl
      rw [e1,e2,e3,Nat.mod_eq_of_lt (show x.getD i 0*y.getD k 0<18446744073709551616 by omega),Nat.mod_eq_of_lt (show x.getD i 0*y.getD k 0+o.getD (i+k) 0<18446744073709551616 by omega),Nat.mod_eq_of_lt s1]
      generalize hs:c+(x.getD i 0*y.getD k 0+o.getD (i+k) 0)=s at s1 hstep;refine⟨hlt2,by omega,by omega,by omega,by omega,by omega,by omega,by omega,by omega,(k+1,s / 4294967296,o.set (i+k) (s % 4294967296)),ja (by simp [bitvec_to_nat]) (ue rfl),⟨by simp only;omega,by simp only;omega,UaL ho _ (Nat.mod_lt _ (by omega)),by simp [hoN],hstep,?_⟩,by simp only;omega⟩
      intro j hj;simp only;rw [Num.getD_set_ne (by omega)];exact hz j hj
     .have e:k=y.length:=by omega
      subst e;have hend:=vas hval (by omega) (hz _ (Nat.le_refl _))
      rw [Nat.mod_eq_of_lt hc];refine λ_=>⟨by omega,by omega,by omega,by omega,(i+1,o.set (i+y.length) c),ja (by simp [bitvec_to_nat]) (ue rfl),⟨by simp only;omega,UaL ho _ hc,by simp [hoN],hend,?_⟩,by simp only;omega⟩
      intro j hj;simp only at hj ⊢;rw [Num.getD_set_ne (by omega)];exact hz j (by omega)
   .have e:i=x.length:=by omega
    subst e;rw [Uf (Nat.le_refl _)]at hval;refine⟨ho,by omega,?_⟩
    rw [hval];exact hK
end Go.Abs
end
section
namespace Go.Abs
open Go.Num
variable {P:Program} {Γ:Nat->Spec}
def wh(f0:Nat):AC:=(.o [.m 6 .fa] [0,1,2] (.o [.m 7 (.c (.one (.lit (.int .u64 0)))),.m 8 (.c (.one (.lit (.int .u64 0))))] [0,1,2,7,8] (.f (.o [.M 11 0,.Z 12 11,.N 13 0] [0,1,2,7,8,12,13] (.block 0 (.loop (.o [.B 14 .lss 13 12] [0,1,2,7,8,12,13,14] (.f (.cond (.t 14) .skip (.exit 0)) [0,1,2,7,8,12,13] (.f (.block 1 (.o [.M 15 13,.M 9 15] [0,1,2,7,8,9,12,13] (.o [.M 16 7,.M 17 2,.M 18 1,.M 19 9,.D 20 f0 18 19,.B 21 .mul 17 20,.B 22 .add 16 21,.M 7 22] [0,1,2,7,8,9,12,13] (.o [.M 23 0,.M 24 9,.J 25 1 23 24,.F 26 1 25,.u 27 (.conv .u64 (.t 26)),.M 28 7,.u 29 (.conv .u32 (.t 28)),.u 30 (.conv .u64 (.t 29)),.B 31 .sub 27 30,.M 32 8,.B 33 .sub 31 32,.M 10 33] [0,1,2,7,9,10,12,13] (.o [.M 34 0,.M 35 9,.M 36 10,.u 37 (.conv .u32 (.t 36)),.J 38 1 34 35,.S 1 38 37] [0,1,2,7,10,12,13] (.o [.M 39 10,.u 40 (.bin .shr (.t 39) (.c (.one (.lit (.int .u64 63))))),.M 8 40] [0,1,2,7,8,12,13] (.p [.M 41 7,.u 42 (.bin .shr (.t 41) (.c (.one (.lit (.int .u64 32))))),.M 7 42]))))))) [0,1,2,7,8,12,13] (.p [.I 43 .add 13 1,.M 13 43]))))))) [8] (.seq (.p [.M 44 8,.u 45 (.bin .eql (.t 44) (.c (.one (.lit (.int .u64 1))))),.M 6 45]) .ret))))
def Xk(f0:Nat):AC:=(.o [.m 4 (.c (.one (.lit (.int .u64 0))))] [0,1,4] (.o [.M 6 0,.Z 7 6,.N 8 0] [0,1,4,7,8] (.block 0 (.loop (.o [.B 9 .lss 8 7] [0,1,4,7,8,9] (.f (.cond (.t 9) .skip (.exit 0)) [0,1,4,7,8] (.f (.block 1 (.o [.M 10 8,.M 5 10] [0,1,4,5,7,8] (.f (.y [.M 11 4,.M 12 0,.M 13 5,.J 14 1 12 13,.F 15 1 14,.u 16 (.conv .u64 (.t 15)),.M 17 1,.M 18 5,.D 19 f0 17 18,.B 20 .add 16 19,.B 21 .add 11 20,.M 4 21]) [0,1,4,5,7,8] (.o [.M 22 0,.M 23 5,.M 24 4,.u 25 (.conv .u32 (.t 24)),.J 26 1 22 23,.S 1 26 25] [0,1,4,7,8] (.p [.M 27 4,.u 28 (.bin .shr (.t 27) (.c (.one (.lit (.int .u64 32))))),.M 4 28]))))) [0,1,4,7,8] (.p [.I 29 .add 8 1,.M 8 29]))))))))
theorem jO(hΓ:Holds P Γ){f fw:Nat}(hw:Γ fw=.dat true zj)(hc:check P f=some (46,(wh fw).strip,[.tmp 6])):Sound P f (.own qk):=by
 refine Qq hc hΓ (λd args h K hG=>?_);unfold qk at hG;split at hG
 case h_2=>exact hG.elim
 rename_i r ver off len b n;obtain⟨v,rfl,hv,pre,seg,post,m,rfl,rfl,rfl,hr,hseg,hm,hvl,hlt,hsl,hK⟩:=hG;refine⟨[r],[⟨(pre++seg++post).map wc,1,true⟩],[.one (.own 1048576 ver 1 pre.length seg.length),wsA v,.one (.lit (.int .u64 m))],by simp,rfl,?_,?_,?_,λhfi=>⟨by simp,?_⟩⟩
 .intro i r' b h1 h2;cases i with
  | zero=>simp only [List.getElem?_cons_zero,Option.some.injEq]at h1 h2;subst h1 h2;exact⟨by rw [hr],rfl,of_eq_true (Wc _)⟩
  | succ i=>simp at h1
 .simp [exA,exC,exB,nameOf,pinA,wsA,ws]
 .intro a ha;simp only [List.mem_cons,List.not_mem_nil,or_false]at ha;rcases ha with rfl | rfl | rfl
  .simp [pasA,pasC,pasB,nameOf,pinA]
  .exact .slice _ (of_eq_true (Wc _))
  .exact .lit _
 simp only [go_sem,wh,hw,hr];intro h1;refine Wa (λp:List Nat×Nat×Nat×Nat=>⟨mkV [(0,.one (.own 1048576 ver 1 pre.length seg.length)),(1,wsA v),(2,.one (.lit (.int .u64 m))),(7,.one (.lit (.int .u64 p.2.1))),(8,.one (.lit (.int .u64 p.2.2.1))),(12,.one (.lit (.int .i64 seg.length))),(13,.one (.lit (.int .i64 p.1.length)))],
   mkH [(1048576,⟨ver,some ⟨(pre++(p.1++seg.drop p.1.length)++post).map wc,1,true⟩⟩)]⟩)
  (λp=>p.1.length<=seg.length/\WL p.1/\(p.2.1=0∨p.2.1<m)/\p.2.2.1<=1/\p.2.2.2+4294967296 ^ p.1.length*p.2.1=m*val (v.take p.1.length)/\val p.1+p.2.2.2=val (seg.take p.1.length)+4294967296 ^ p.1.length*p.2.2.1) (λp=>seg.length-p.1.length) ([],0,0,0) ?_ ?_ ?_
 .exact ja (by simp [bitvec_to_nat]) (ue (by simp))
 .simp [Ub,val]
 .rintro⟨o,c,bw,p⟩ ⟨hoN,ho,hc1,hb1,hp1,hp2⟩;simp only at hoN ho hc1 hb1 hp1 hp2;have hlen:(pre++(o++seg.drop o.length)++post).length=pre.length+seg.length+post.length:=by simp;omega
  simp only [go_sem,hw,hr,hlen];refine⟨λhlt2=>?_,λhge=>?_⟩
  .have g1:=Wb hseg o.length;have g2:=Wb hv o.length;obtain⟨s1,s2⟩:=wat hm g2 hc1;have a1:=VaF (B:=4294967296) (v:=v.getD o.length 0) hp1;have e1:m*v.getD o.length 0 % 18446744073709551616=m*v.getD o.length 0:=Nat.mod_eq_of_lt (by omega)
   have e2:seg.getD o.length 0 % 18446744073709551616=seg.getD o.length 0:=by omega
   rw [Uaz _ _ _ _ hlt2,e1,e2,Nat.mod_eq_of_lt s1,QY _ _ _ _ _ hlt2];generalize hs:c+m*v.getD o.length 0=s at s1 s2 a1;have e3:s % 4294967296 % 18446744073709551616=s % 4294967296:=by omega
   rw [e3];obtain⟨t1,t2⟩:=V6 (b:=s % 4294967296) g1 (by omega) hb1
   generalize sub64 (sub64 (seg.getD o.length 0) (s % 4294967296)) bw=d at t1 t2;have a2:=vaE hp2 t1;refine⟨hv,hlt2,by omega,hlt2,by omega,by omega,by omega,by omega,(o++[d % 4294967296],s / 4294967296,d / 9223372036854775808,p+4294967296 ^ o.length*(s % 4294967296)),ja (by simp [bitvec_to_nat]) (ue rfl),⟨by simp;omega,uc.2 ⟨ho,Xb.2 ⟨Nat.mod_lt _ (by omega),Ub⟩⟩,s2,t2,?_,?_⟩,by simp;omega⟩
   .simp only [List.length_append,List.length_cons,List.length_nil,Nat.zero_add,jb,Nat.pow_succ];exact a1
   .simp only [List.length_append,List.length_cons,List.length_nil,Nat.zero_add,jb,kb,uf,Jj,Nat.mul_zero,Nat.add_zero,Nat.pow_succ];exact a2
  .have e:o.length=seg.length:=by omega
   rw [e]at hp1 hp2;rw [Uf hvl]at hp1;rw [Uf (Nat.le_refl _)]at hp2;obtain⟨t1,t2⟩:=zaV ho e hp1 hlt hp2 hb1;rw [List.drop_of_length_le (by omega),List.append_nil]
   rw [<-t1]at hK;have:(decide ((bw:Int)=1))=decide (val seg<m*val v):=by
    rw [decide_eq_decide,<-t2];omega
   rw [this];exact hK
theorem Qah(hΓ:Holds P Γ){f fw:Nat}(hw:Γ fw=.dat true zj)(hc:check P f=some (30,(Xk fw).strip,[])):Sound P f (.own ku):=by
 refine Qq hc hΓ (λd args h K hG=>?_);unfold ku at hG;split at hG
 case h_2=>exact hG.elim
 rename_i r ver off len b;obtain⟨v,rfl,hv,pre,seg,post,rfl,rfl,hr,hseg,hvl,hsl,hK⟩:=hG;refine⟨[r],[⟨(pre++seg++post).map wc,1,true⟩],[.one (.own 1048576 ver 1 pre.length seg.length),wsA v],by simp,rfl,?_,?_,?_,λhfi=>⟨by simp,?_⟩⟩
 .intro i r' b h1 h2;cases i with
  | zero=>simp only [List.getElem?_cons_zero,Option.some.injEq]at h1 h2;subst h1 h2;exact⟨by rw [hr],rfl,of_eq_true (Wc _)⟩
  | succ i=>simp at h1
 .simp [exA,exC,exB,nameOf,pinA,wsA,ws]
 .intro a ha;simp only [List.mem_cons,List.not_mem_nil,or_false]at ha;rcases ha with rfl | rfl
  .simp [pasA,pasC,pasB,nameOf,pinA]
  .exact .slice _ (of_eq_true (Wc _))
 simp only [go_sem,Xk,hw,hr];intro h1;refine Wa (λp:List Nat×Nat=>⟨mkV [(0,.one (.own 1048576 ver 1 pre.length seg.length)),(1,wsA v),(4,.one (.lit (.int .u64 p.2))),(7,.one (.lit (.int .i64 seg.length))),(8,.one (.lit (.int .i64 p.1.length)))],
   mkH [(1048576,⟨ver,some ⟨(pre++(p.1++seg.drop p.1.length)++post).map wc,1,true⟩⟩)]⟩)
  (λp=>p.1.length<=seg.length/\WL p.1/\p.2<=1/\val p.1+4294967296 ^ p.1.length*p.2=val (seg.take p.1.length)+val (v.take p.1.length)) (λp=>seg.length-p.1.length) ([],0) ?_ ?_ ?_
 .exact ja (by simp [bitvec_to_nat]) (ue (by simp))
 .simp [Ub,val]
 .rintro⟨o,c⟩ ⟨hoN,ho,hc1,hp1⟩;simp only at hoN ho hc1 hp1;have hlen:(pre++(o++seg.drop o.length)++post).length=pre.length+seg.length+post.length:=by simp;omega
  simp only [go_sem,hw,hr,hlen];refine⟨λhlt2=>?_,λhge=>?_⟩
  .have g1:=Wb hseg o.length;have g2:=Wb hv o.length;have e2:seg.getD o.length 0 % 18446744073709551616=seg.getD o.length 0:=by omega
   rw [Uaz _ _ _ _ hlt2,e2,Nat.mod_eq_of_lt (show seg.getD o.length 0+v.getD o.length 0<18446744073709551616 by omega),Nat.mod_eq_of_lt (show c+(seg.getD o.length 0+v.getD o.length 0)<18446744073709551616 by omega),QY _ _ _ _ _ hlt2]
   have a1:=YaE (B:=4294967296) (a:=seg.getD o.length 0) (b:=v.getD o.length 0) hp1 rfl;generalize hs:c+(seg.getD o.length 0+v.getD o.length 0)=s at a1;refine⟨hlt2,by omega,hv,hlt2,by omega,by omega,by omega,(o++[s % 4294967296],s / 4294967296),ja (by simp [bitvec_to_nat]) (ue rfl),⟨by simp;omega,uc.2 ⟨ho,Xb.2 ⟨Nat.mod_lt _ (by omega),Ub⟩⟩,by simp only;omega,?_⟩,by simp;omega⟩
   simp only [List.length_append,List.length_cons,List.length_nil,Nat.zero_add,jb,kb,uf,Jj,Nat.mul_zero,Nat.add_zero,Nat.pow_succ];exact a1
  .have e:o.length=seg.length:=by omega
   rw [e,Uf hvl,Uf (Nat.le_refl _)]at hp1;have t1:=qaE ho e hp1;rw [List.drop_of_length_le (by omega),List.append_nil]
   rw [<-t1]at hK;exact hK
end Go.Abs
end
section
namespace Go.Num
theorem Qs:∀(a b X:Nat),dig (a+b) X=dig a X++dig b (X / 4294967296 ^ a)
 | 0,b,X=>by simp [dig]
 | a+1,b,X=>by
  rw [show a+1+b=(a+b)+1 by omega,dig,dig,Qs a b,Nat.div_div_eq_div_mul,Nat.pow_succ,Nat.mul_comm 4294967296];simp
theorem Q6:∀k,dig k 0=List.replicate k 0
 | 0=>rfl
 | k+1=>by rw [dig,Nat.zero_mod,Nat.zero_div,Q6 k,List.replicate_succ]
theorem VM:∀(k i X:Nat),i<k->(dig k X).getD i 0=X / 4294967296 ^ i % 4294967296
 | k+1,0,X,_=>by simp [dig]
 | k+1,i+1,X,h=>by
  rw [dig,List.getD_cons_succ,VM k i _ (by omega),Nat.div_div_eq_div_mul,Nat.pow_succ,Nat.mul_comm 4294967296]
theorem qK:∀(k X:Nat),dig k (X % 4294967296 ^ k)=dig k X:=by
 intro k X;refine QU (kh _ _) (kh _ _) (by rw [va,va]) ?_
 rw [Wg,Wg,Nat.mod_mod]
theorem WaX{j X Y:Nat}:dig j (X % 4294967296 ^ j+4294967296 ^ j*Y)=dig j X:=by
 rw [<-qK,Nat.add_mul_mod_self_left,Nat.mod_mod,qK]
theorem jD{L j n X:Nat}(h:j+(n+1)<=L)(hX:X / 4294967296 ^ j<4294967296 ^ (n+1)) :
  dig L X=dig j X++dig (n+1) (X / 4294967296 ^ j)++List.replicate (L-(j+(n+1))) 0:=by
 conv=>lhs;rw [show L=j+(n+1)+(L-(j+(n+1))) by omega]
 rw [Qs,Qs,Nat.pow_add,<-Nat.div_div_eq_div_mul,Nat.div_eq_of_lt hX,Q6]
theorem zaa{L j n X R:Nat}(h:j+(n+1)<=L)(hR:R<4294967296 ^ (n+1)) :
  dig j X++dig (n+1) R++List.replicate (L-(j+(n+1))) 0=dig L (X % 4294967296 ^ j+4294967296 ^ j*R):=by
 have e:(X % 4294967296 ^ j+4294967296 ^ j*R) / 4294967296 ^ j=R:=by
  rw [Nat.add_mul_div_left _ _ (pow_pos j),Nat.div_eq_of_lt (Nat.mod_lt _ (pow_pos j)),Nat.zero_add]
 rw [jD h (by rw [e];exact hR),e,WaX]
structure Step (B n V P top next head u2:Nat):Prop where
 hB:2<=B
 hn:2<=n
 vlow:∃l,V=(top*B+next)*B ^ (n-2)+l/\l<B ^ (n-2)
 plow:∃l,P=(head*B+u2)*B ^ (n-2)+l/\l<B ^ (n-2)
 nextB:next<B
 topB:top<B
 half:B<=2*top
 u2B:u2<B
 lt:P<V*B
namespace Step
variable {B n V P top next head u2:Nat}
theorem vpos(s:Step B n V P top next head u2):0<V:=by
 obtain⟨l,h,_⟩:=s.vlow;have:0<B ^ (n-2):=Nat.pow_pos (by have:=s.hB;omega)
 have h2:0<top*B+next:=by
  have:=Nat.mul_pos (show 0<top by have:=s.half;have:=s.hB;omega) (show 0<B by have:=s.hB;omega)
  omega
 have:=Nat.mul_pos h2 this;omega
theorem down(s:Step B n V P top next head u2){g r:Nat}(hg:g*top+r=head)(h:B<=g∨r*B+u2<g*next):P / V<g:=by
 rw [Nat.div_lt_iff_lt_mul s.vpos];rcases h with h | h
 .have h1:=Nat.mul_le_mul_right V h;have:=s.lt;rw [Nat.mul_comm V]at this;omega
 .obtain⟨lv,hv,hlv⟩:=s.vlow;obtain⟨lp,hp,hlp⟩:=s.plow;generalize B ^ (n-2)=p at hv hlv hp hlp;have h1:head*B+u2+1<=g*(top*B+next):=by
   rw [<-hg];have:(g*top+r)*B=g*(top*B)+r*B:=by rw [Nat.add_mul,Nat.mul_assoc]
   rw [this,Nat.mul_add];omega
  have h2:=Nat.mul_le_mul_right p h1;rw [Nat.add_mul,Nat.one_mul]at h2;have h3:g*(top*B+next)*p<=g*V:=by
   rw [Nat.mul_assoc];exact Nat.mul_le_mul_left _ (by omega)
  omega
theorem stop(s:Step B n V P top next head u2){g r:Nat}(hg:g*top+r=head)(hgB:g<=B)(h:B<=r∨(g<B/\g*next<=r*B+u2)):g*V<=P+V:=by
 obtain⟨lv,hv,hlv⟩:=s.vlow;obtain⟨lp,hp,hlp⟩:=s.plow;have hB:=s.hB;have hn:=s.hn;have hpp:0<B ^ (n-2):=Nat.pow_pos (by omega)
 have h1:g*(top*B+next)<=head*B+u2:=by
  rw [<-hg,Nat.add_mul,Nat.mul_add,Nat.mul_assoc];rcases h with h | h
  .have h3:g*next<=B*B:=Nat.mul_le_mul hgB (Nat.le_of_lt s.nextB)
   have h4:B*B<=r*B:=Nat.mul_le_mul_right _ h;omega
  .omega
 have hVtop:B*B ^ (n-2)<=V:=by
  have:B<=top*B:=Nat.le_mul_of_pos_left _ (by have:=s.half;omega)
  have:=Nat.mul_le_mul_right (B ^ (n-2)) (show B<=top*B+next by omega)
  omega
 generalize B ^ (n-2)=p at hv hlv hp hlp hpp hVtop;have h2:=Nat.mul_le_mul_right p h1;have h5:g*V<=g*((top*B+next)*p)+g*p:=by
  rw [hv,Nat.mul_add];exact Nat.add_le_add_left (Nat.mul_le_mul_left _ (Nat.le_of_lt hlv)) _
 have h6:g*p<=B*p:=Nat.mul_le_mul_right _ hgB;rw [<-Nat.mul_assoc]at h5;omega
theorem first(s:Step B n V P top next head u2):head / top<=B+1/\P / V<=head / top:=by
 have hB:=s.hB;have ht:0<top:=by have:=s.half;omega
 obtain⟨lv,hv,hlv⟩:=s.vlow;obtain⟨lp,hp,hlp⟩:=s.plow;have hlt:=s.lt;have hnext:=s.nextB;have hu2:=s.u2B;constructor
 .have h1:head<=top*B+next:=by
   rcases Nat.lt_or_ge (top*B+next) head with h | h
   .exfalso;have h2:=Nat.mul_le_mul_right (B ^ (n-2)) (Nat.mul_le_mul_right B h);have h3:(top*B+next+1)*B*B ^ (n-2)=((top*B+next)*B ^ (n-2)+B ^ (n-2))*B:=by
     generalize B ^ (n-2)=p;grind
    rw [Nat.succ_eq_add_one,h3]at h2;have h4:V*B<=((top*B+next)*B ^ (n-2)+B ^ (n-2))*B:=Nat.mul_le_mul_right _ (by omega)
    have h5:head*B*B ^ (n-2)<=P:=by
     rw [hp,Nat.add_mul];omega
    omega
   .exact h
  have h2:head<(B+2)*top:=by
   have:=s.half;have:(B+2)*top=top*B+2*top:=by rw [Nat.add_mul,Nat.mul_comm B]
   omega
  have:=(Nat.div_lt_iff_lt_mul ht).2 h2;omega
 .have:P / V<head / top+1:=by
   rw [Nat.div_lt_iff_lt_mul s.vpos];have h1:head<(head / top+1)*top:=by
    have:=Nat.div_add_mod head top;have:=Nat.mod_lt head ht;rw [Nat.add_mul,Nat.one_mul,Nat.mul_comm (head / top)];omega
   have h2:head+1<=(head / top+1)*top:=h1;have h3:=Nat.mul_le_mul_right (B ^ (n-2)) (Nat.mul_le_mul_right B h2);have h4:(head / top+1)*top*B*B ^ (n-2)<=(head / top+1)*V:=by
    rw [Nat.mul_assoc,Nat.mul_assoc];refine Nat.mul_le_mul_left _ ?_;rw [hv,Nat.add_mul,<-Nat.mul_assoc];omega
   have h5:P<(head+1)*B*B ^ (n-2):=by
    rw [hp];have:(head*B+u2+1)*B ^ (n-2)<=(head+1)*B*B ^ (n-2):=Nat.mul_le_mul_right _ (by rw [Nat.add_mul,Nat.one_mul];omega)
    rw [Nat.add_mul,Nat.one_mul]at this;omega
   omega
  omega
theorem left(s:Step B n V P top next head u2){g:Nat}(h1:P / V<=g)(h2:g*V<=P+V) :
  (P<g*V->g=P / V+1)/\(¬P<g*V->g=P / V):=by
 have hv:=s.vpos;have e:=Nat.div_add_mod P V;have m:=Nat.mod_lt P hv;constructor
 .intro h;have h3:g<=P / V+1:=by
   rcases Nat.lt_or_ge (P / V+1) g with h4 | h4
   .exfalso;have:=Nat.mul_le_mul_right V (show P / V+2<=g from h4);rw [Nat.add_mul,Nat.mul_comm (P / V)]at this;omega
   .exact h4
  have h5:P / V<g:=by rw [Nat.div_lt_iff_lt_mul hv];exact h
  omega
 .intro h;have:g<=P / V:=by rw [Nat.le_div_iff_mul_le hv];omega
  omega
theorem quot(s:Step B n V P top next head u2):P / V<B:=by
 rw [Nat.div_lt_iff_lt_mul s.vpos,Nat.mul_comm];exact s.lt
end Step
theorem XaF(n k X:Nat):(dig (n+k) X).take n=dig n X:=by
 rw [Qs,List.take_append_of_le_length (by rw [va];exact Nat.le_refl _),List.take_of_length_le (by rw [va];exact Nat.le_refl _)]
theorem kah{t:Nat}(h0:0<t)(h:t<4294967296):Lib.bitLen t=Nat.log2 t+1:=by
 have h1:2 ^ Nat.log2 t<=t:=Nat.log2_self_le (by omega)
 have h2:t<2 ^ (Nat.log2 t+1):=Nat.lt_log2_self;rw [Lib.bitLen_shift _ _ h1 (by omega)]
 have:t / 2 ^ Nat.log2 t=1:=by
  rw [Nat.pow_succ]at h2;have hp:0<2 ^ Nat.log2 t:=Nat.pow_pos (by omega)
  generalize 2 ^ Nat.log2 t=p at h1 h2 hp;have a:t / p<2:=(Nat.div_lt_iff_lt_mul hp).2 (by omega)
  have b:1<=t / p:=(Nat.le_div_iff_mul_le hp).2 (by omega)
  omega
 rw [this];rfl
theorem kaY{t:Nat}(h0:0<t)(h:t<4294967296):∃s:Nat,s<32/\(32-(Lib.bitLen t:Int))=s/\2147483648<=t*2 ^ s/\(t+1)*2 ^ s<=4294967296:=by
 have h1:2 ^ Nat.log2 t<=t:=Nat.log2_self_le (by omega)
 have h2:t<2 ^ (Nat.log2 t+1):=Nat.lt_log2_self;have hl:Nat.log2 t<32:=by rw [Nat.log2_lt (by omega)];exact h
 rw [kah h0 h];refine⟨31-Nat.log2 t,by omega,by omega,?_,?_⟩
 .have:=Nat.mul_le_mul_right (2 ^ (31-Nat.log2 t)) h1;rw [<-Nat.pow_add,show Nat.log2 t+(31-Nat.log2 t)=31 by omega]at this
  exact this
 .have:=Nat.mul_le_mul_right (2 ^ (31-Nat.log2 t)) (show t+1<=_ from h2);rw [<-Nat.pow_add,show Nat.log2 t+1+(31-Nat.log2 t)=32 by omega]at this
  exact this
theorem shifted{y:List Nat}{s:Nat}(hy:WL y)(hn:0<y.length)(h1:2147483648<=y.getD (y.length-1) 0*2 ^ s)(h2:(y.getD (y.length-1) 0+1)*2 ^ s<=4294967296) :
  val y*2 ^ s<4294967296 ^ y.length/\4294967296 ^ y.length<=2*(val y*2 ^ s):=by
 have e:=xC y (y.length-1) (by omega)
 rw [List.drop_of_length_le (by omega),Jj,Nat.mul_zero,Nat.add_zero]at e
 have hl:=Vh (uo hy (y.length-1));rw [List.length_take,Nat.min_eq_left (by omega)]at hl
 rw [e,Vy hn];generalize y.getD (y.length-1) 0=t at *
 generalize 4294967296 ^ (y.length-1)=p at *
 generalize val (y.take (y.length-1))=v at *
 have hs:0<2 ^ s:=Nat.pow_pos (by omega)
 generalize 2 ^ s=q at *
 have a1:=Nat.mul_le_mul_left p h1;have a2:=Nat.mul_le_mul_left p h2;have a3:=(Nat.mul_lt_mul_right hs).2 hl;rw [Nat.add_mul,Nat.one_mul,Nat.mul_add]at a2;rw [Nat.add_mul,Nat.mul_assoc p t q];constructor
 .omega
 .have:2*(p*2147483648)=p*(2*2147483648):=Nat.mul_left_comm _ _ _;rw [show 2*2147483648=4294967296 from rfl]at this;rw [<-this];exact Nat.mul_le_mul_left 2 (Nat.le_trans a1 (Nat.le_add_left _ _))
theorem zaD{x y:List Nat}{s:Nat}(hx:WL x)(hs:s<32)(hV:4294967296 ^ y.length<=2*(val y*2 ^ s))(hl:y.length<=x.length+1) :
  val x*2 ^ s<val y*2 ^ s*4294967296 ^ (x.length+1-y.length):=by
 have h1:=Vh hx;have h2:=kL hs;have h3:4294967296 ^ x.length*4294967296=4294967296 ^ y.length*4294967296 ^ (x.length+1-y.length):=by
  rw [<-Nat.pow_succ,<-Nat.pow_add];congr 1;omega
 have h4:=Nat.mul_le_mul_right (4294967296 ^ (x.length+1-y.length)) hV;rw [<-h3,Nat.mul_assoc]at h4;have h5:val x*2 ^ s<4294967296 ^ x.length*2147483648:=
  Nat.lt_of_lt_of_le ((Nat.mul_lt_mul_right (Nat.pow_pos (by omega))).2 h1) (Nat.mul_le_mul_left _ h2)
 omega
theorem uaT{n V P:Nat}(hn:2<=n)(hV1:V<4294967296 ^ n)(hV2:4294967296 ^ n<=2*V)(hP:P<V*4294967296) :
  Step 4294967296 n V P (V / 4294967296 ^ (n-1) % 4294967296) (V / 4294967296 ^ (n-2) % 4294967296) (P / 4294967296 ^ n % 4294967296*4294967296+P / 4294967296 ^ (n-1) % 4294967296) (P / 4294967296 ^ (n-2) % 4294967296):=by
 have e1:4294967296 ^ n=4294967296 ^ (n-1)*4294967296:=Vy (by omega)
 have e2:4294967296 ^ (n-1)=4294967296 ^ (n-2)*4294967296:=by rw [Vy (show 0<n-1 by omega),show n-1-1=n-2 by omega]
 have hp:=pow_pos (n-2);have ht:V / 4294967296 ^ (n-1)<4294967296:=by
  rw [Nat.div_lt_iff_lt_mul (pow_pos _),Nat.mul_comm,<-e1];exact hV1
 have hh:P / 4294967296 ^ n<4294967296:=by
  rw [Nat.div_lt_iff_lt_mul (pow_pos _)];have:=(Nat.mul_lt_mul_right (show 0<4294967296 by omega)).2 hV1
  rw [Nat.mul_comm (4294967296 ^ n)]at this;omega
 have q1:V / 4294967296 ^ (n-1)=V / 4294967296 ^ (n-2) / 4294967296:=by rw [e2,Nat.div_div_eq_div_mul]
 have q2:P / 4294967296 ^ (n-1)=P / 4294967296 ^ (n-2) / 4294967296:=by rw [e2,Nat.div_div_eq_div_mul]
 have q3:P / 4294967296 ^ n=P / 4294967296 ^ (n-1) / 4294967296:=by rw [e1,Nat.div_div_eq_div_mul]
 refine⟨by omega,hn,⟨V % 4294967296 ^ (n-2),?_,Nat.mod_lt _ hp⟩,⟨P % 4294967296 ^ (n-2),?_,Nat.mod_lt _ hp⟩,Nat.mod_lt _ (by omega),Nat.mod_lt _ (by omega),?_,Nat.mod_lt _ (by omega),hP⟩
 .rw [Nat.mod_eq_of_lt ht,q1];rw [Nat.div_add_mod' (V / 4294967296 ^ (n-2)),Nat.mul_comm];exact(Nat.div_add_mod _ _).symm
 .rw [Nat.mod_eq_of_lt hh,q3,q2];rw [Nat.div_add_mod' (P / 4294967296 ^ (n-2) / 4294967296),Nat.div_add_mod' (P / 4294967296 ^ (n-2)),Nat.mul_comm];exact(Nat.div_add_mod _ _).symm
 .rw [Nat.mod_eq_of_lt ht];have:2147483648<=V / 4294967296 ^ (n-1):=by
   rw [Nat.le_div_iff_mul_le (pow_pos _)];rw [e1]at hV2;generalize 4294967296 ^ (n-1)=p at hV2 ⊢;omega
  omega
theorem zaC{a b:Nat}(h:¬a<b):(ordN a b<0)=False:=by
 unfold ordN;rw [if_neg h];split <;> simp
theorem W1{j X V A q Q:Nat}(hV:0<V)(hA:A=X+V*4294967296 ^ (j+1)*Q)(hq:q=X / 4294967296 ^ j / V) :
  A=(X % 4294967296 ^ j+4294967296 ^ j*(X / 4294967296 ^ j % V))+V*4294967296 ^ j*(q+4294967296*Q)/\X % 4294967296 ^ j+4294967296 ^ j*(X / 4294967296 ^ j % V)<V*4294967296 ^ j:=by
 have hp:=pow_pos j;rw [Nat.pow_succ]at hA;generalize 4294967296 ^ j=p at *
 have e1:=Nat.div_add_mod X p;have e2:=Nat.div_add_mod (X / p) V;have m1:=Nat.mod_lt X hp;have m2:=Nat.mod_lt (X / p) hV;rw [<-hq]at e2;generalize X % p=r at *
 generalize hS:X / p % V=S at *
 generalize X / p=Z at *
 generalize 4294967296=B at hA ⊢;subst hA e2 e1;constructor
 .grind
 .have:p*(S+1)<=p*V:=Nat.mul_le_mul_left _ m2;rw [Nat.mul_add,Nat.mul_one]at this;rw [Nat.mul_comm V];omega
theorem VF(k X:Nat):dig k (X+4294967296 ^ k)=dig k X:=by
 rw [<-qK,Nat.add_mod_right,qK]
theorem JaO{k P V g:Nat}(hg:g=P / V):dig k (P+4294967296 ^ k-g*V)=dig k (P % V):=by
 have e:g*V+P % V=P:=by rw [hg,Nat.mul_comm];exact Nat.div_add_mod P V
 clear hg;generalize P % V=r at *
 generalize hp:4294967296 ^ k=p;rw [show P+p-g*V=r+p by omega,<-hp,VF]
theorem VaK{k P V g:Nat}(hg:g=P / V+1)(hb:P<g*V)(hk:g*V<4294967296 ^ k):dig k (val (dig k (P+4294967296 ^ k-g*V))+V)=dig k (P % V):=by
 have e:P / V*V+P % V=P:=by rw [Nat.mul_comm];exact Nat.div_add_mod P V
 have:g*V=P / V*V+V:=by rw [hg,Nat.add_mul,Nat.one_mul]
 rw [Wg,Nat.mod_eq_of_lt (by omega)]
 clear hg;generalize P / V*V=q at *
 generalize P % V=r at *
 generalize g*V=gv at *
 generalize hp:4294967296 ^ k=p at *
 rw [show P+p-gv+V=r+p by omega,<-hp,VF]
theorem qaA{a b:Nat}(ha:a<4294967296)(hb:b<4294967296):a*b<18446744073709551616:=by
 have h:=Y6 ha hb (c:=0) (d:=0) (by decide) (by decide)
 rwa [Nat.zero_add,Nat.add_zero]at h
theorem QI{q:Nat}(h:q<4294967296):sub64 (q+1) 1=q:=by rw [Jr (by omega) (by omega)];omega
theorem kaR{r:Nat}(h:r<4294967296):r*4294967296 % 18446744073709551616=r*4294967296:=by omega
end Go.Num
end
section
namespace Go.Abs
open Go.Num
variable {P:Program} {Γ:Nat->Spec}
def Zf(f0 f1 f2 f3 f4 f5 f6 f7:Nat):AC:=(.o [.m 4 (.c (.one .emp)),.m 5 (.c (.one .emp))] [0,1] (.f (.o [.M 19 0,.M 20 1,.D 21 f0 19 20,.I 22 .lss 21 0] [0,1,22] (.cond (.t 22) (.seq (.p [.M 23 0,.H 24 f1 23,.m 4 (.c (.one .emp)),.M 5 24]) .ret) .skip)) [0,1] (.f (.o [.M 25 1,.Z 26 25,.I 27 .eql 26 1] [0,1,27] (.cond (.t 27) (.o [.M 29 0,.M 30 1,.u 31 (.idx 1 (.t 30) (.i 0)),.F 32 1 31,.D 33 f2 29 32,.M 28 33,.X 34 0 28,.X 35 1 28,.M 6 34,.M 7 35] [6,7] (.seq (.p [.M 36 6,.M 37 7,.u 38 (.row 1 [[.x 1 (.t 37)]]),.H 39 f1 38,.M 4 36,.M 5 39]) .ret)) .skip)) [0,1] (.o [.M 40 1,.M 41 1,.Z 42 41,.I 43 .sub 42 1,.J 44 1 40 43,.F 45 1 44,.H 46 f3 45,.M 8 46] [0,1,8] (.f (.y [.M 47 1,.M 48 8,.u 49 (.callf f4 [(.t 47),(.t 48)]),.M 50 1,.Z 51 50,.u 52 (.sl 1 (.t 49) none (some (.t 51))),.M 53 0,.M 54 8,.u 55 (.callf f4 [(.t 53),(.t 54)]),.M 9 52,.M 10 55]) [8,9,10] (.fz [9] (.o [.M 56 10,.Z 57 56,.M 58 9,.Z 59 58,.B 60 .sub 57 59,.u 61 (.mk 1 [(.lit (.int .u32 0))] (.t 60) (.t 60)),.M 11 61] [8,9,10,11] (.f (.y [.M 62 9,.M 63 9,.Z 64 63,.I 65 .sub 64 1,.J 66 1 62 65,.F 67 1 66,.u 68 (.conv .u64 (.t 67)),.M 69 9,.M 70 9,.Z 71 70,.I 72 .sub 71 2,.J 73 1 69 72,.F 74 1 73,.u 75 (.conv .u64 (.t 74)),.M 12 68,.M 13 75]) [8,9,10,11,12,13] (.f (.o [.M 76 11,.Z 77 76,.I 78 .sub 77 1,.M 14 78] [8,9,10,11,12,13,14] (.block 0 (.loop (.f (.o [.M 79 14,.I 80 .geq 79 0] [8,9,10,11,12,13,14,80] (.cond (.t 80) .skip (.exit 0))) [8,9,10,11,12,13,14] (.f (.block 1 (.o [.M 83 10,.M 84 14,.M 85 14,.M 86 9,.Z 87 86,.B 88 .add 85 87,.I 89 .add 88 1,.u 90 (.sl 1 (.t 83) (some (.t 84)) (some (.t 89))),.M 15 90] [8,9,10,11,12,13,14,15] (.f (.y [.M 91 15,.M 92 9,.Z 93 92,.J 94 1 91 93,.F 95 1 94,.u 96 (.conv .u64 (.t 95)),.u 97 (.bin .shl (.t 96) (.c (.one (.lit (.int .u64 32))))),.M 98 15,.M 99 9,.Z 100 99,.I 101 .sub 100 1,.J 102 1 98 101,.F 103 1 102,.u 104 (.conv .u64 (.t 103)),.B 105 .or 97 104,.M 16 105]) [8,9,10,11,12,13,14,15,16] (.f (.y [.M 106 16,.M 107 12,.B 108 .quo 106 107,.M 109 16,.M 110 12,.B 111 .rem 109 110,.M 17 108,.M 18 111]) [8,9,10,11,12,13,14,15,17,18] (.f (.block 2 (.loop (.f (.o [.M 112 18,.u 113 (.bin .lss (.t 112) (.c (.one (.lit (.int .u64 4294967296))))),.M 114 113,.V 115 114 true 17,.w 116 114 true (.bin .geq (.t 115) (.c (.one (.lit (.int .u64 4294967296))))),.V 117 114 true 116,.V 118 117 false 17,.V 119 117 false 13,.w 120 117 false (.bin .mul (.t 118) (.t 119)),.V 121 117 false 18,.w 122 117 false (.bin .shl (.t 121) (.c (.one (.lit (.int .u64 32))))),.V 123 117 false 15,.V 124 117 false 9,.w 125 117 false (.len (.t 124)),.w 126 117 false (.bin .sub (.t 125) (.i 2)),.w 127 117 false (.idx 1 (.t 123) (.t 126)),.U 128 117 false 1 false 127,.w 129 117 false (.conv .u64 (.t 128)),.w 130 117 false (.bin .or (.t 122) (.t 129)),.w 131 117 false (.bin .gtr (.t 120) (.t 130)),.w 132 114 true (.pick (.t 117) .tr (.t 131)),.P 133 114 132] [8,9,10,11,12,13,14,15,17,18,133] (.cond (.t 133) .skip (.exit 2))) [8,9,10,11,12,13,14,15,17,18] (.block 3 (.o [.M 134 17,.u 135 (.bin .sub (.t 134) (.c (.one (.lit (.int .u64 1))))),.M 17 135] [8,9,10,11,12,13,14,15,17,18] (.p [.M 136 18,.M 137 12,.B 138 .add 136 137,.M 18 138])))))) [8,9,10,11,12,13,14,15,17] (.f (.o [.M 139 15,.M 140 9,.M 141 17,.E 142 f5 139 140 141] [8,9,10,11,12,13,14,15,17,142] (.cond (.t 142) (.o [.M 143 17,.u 144 (.bin .sub (.t 143) (.c (.one (.lit (.int .u64 1))))),.M 17 144] [8,9,10,11,12,13,14,15,17] (.p [.M 145 15,.M 146 9,.D 147 f6 145 146])) .skip)) [8,9,10,11,12,13,14,17] (.p [.M 148 11,.M 149 14,.M 150 17,.u 151 (.conv .u32 (.t 150)),.J 152 1 148 149,.S 1 152 151]))))))) [8,9,10,11,12,13,14] (.p [.M 81 14,.I 82 .sub 81 1,.M 14 82])))))) [8,10,11] (.seq (.p [.M 153 11,.H 154 f1 153,.M 155 10,.M 156 8,.D 157 f7 155 156,.M 4 154,.M 5 157]) .ret))))))))))
set_option maxHeartbeats 4000000 in
theorem QQ(hΓ:Holds P Γ){f fcmp ftrim fshort flz fup frem fback fdown:Nat}(h1:Γ fcmp=.dat false qj)(h2:Γ ftrim=.dat false Up)(h3:Γ fshort=.dat false Zx)(h4:Γ flz=.dat true lz_G)
  (h5:Γ fup=.fresh 1 up_G) (h6:Γ frem=.own qk) (h7:Γ fback=.own ku) (h8:Γ fdown=.dat false jG)
  (hc:check P f=some (158,(Zf fcmp ftrim fshort flz fup frem fback fdown).strip,[.tmp 4,.tmp 5])):Sound P f (.dat false Uo):=by
 refine qa hc zY hΓ (λargs K hcl hfi hG=>?_);match args,hG with
 | [a,b],hG=>
  obtain⟨x,rfl,hx,y,rfl,hy,hzx,hzy,hy0,hxl,hyl,hK⟩:=hG;refine⟨by simp,?_⟩
  have hn:0<y.length:=by cases y with | nil=>exact(hy0 rfl).elim | cons=>simp
  have ht0:y.getD (y.length-1) 0≠0:=by
   intro e;refine hzy ?_;rw [List.getLast?_eq_getElem?];rw [List.getD_eq_getElem?_getD,List.getElem?_eq_getElem (by omega)]at e
   rw [List.getElem?_eq_getElem (by omega)]
   simpa using e
  have htB:=Wb hy (y.length-1);obtain⟨s,hs32,hs,hs1,hs2⟩:=kaY (Nat.pos_of_ne_zero ht0) htB;have hlast:((y.length:Int)-1).toNat=y.length-1:=by omega
  have hle:(y.length<=y.length+1)=True:=eq_true (by omega)
  obtain⟨hV1,hV2⟩:=shifted hy hn hs1 hs2;by_cases hlt:val x<val y
  .simp only [go_sem,Zf,h1,h2,h3,h4,h5,h8,vK hlt];refine⟨hx,hy,hzx,hzy,λ_=>⟨hx,by omega,?_⟩,λh=>absurd (show(-1:Int)<0 by omega) h⟩
   rw [Nat.div_eq_of_lt hlt,Nat.mod_eq_of_lt hlt,Xa]at hK;exact hK
  have hlen:y.length<=x.length:=by
   rcases Nat.lt_or_ge x.length y.length with h | h
   .exact absurd (ZC hx hzy h) hlt
   .exact h
  obtain⟨M,hM⟩:∃M,M=x.length+1-y.length:=⟨_,rfl⟩;have hM2:((x.length+1:Nat):Int)-(y.length:Int)=(M:Int):=by omega
  simp only [go_sem,Zf,h1,h2,h3,h4,h5,h8,hlast,hs,va,XaF,hle,zaC hlt,hM2];refine⟨hx,hy,hzx,hzy,λ_=>⟨λhone=>?_,λhone=>?_⟩⟩
  .have hone:y.length=1:=by omega
   match y,hone with
   | [t],_=>
    simp only [List.length_singleton,Nat.sub_self,List.getD_cons_zero]at ht0 htB ⊢;refine⟨by omega,by omega,hx,by omega,by omega,by omega,Xb.2 ⟨Nat.lt_trans (Nat.mod_lt _ (by omega)) htB,Ub⟩,?_⟩
    simpa [val] using hK
  have hone:2<=y.length:=by omega
  generalize hV:val y*2 ^ s=V at hV1 hV2;generalize hA:val x*2 ^ s=A;generalize hnn:y.length=n at *
  generalize hLL:x.length+1=L at *
  have hV0:0<V:=by have:=pow_pos n;omega
  have htop:(dig n V).getD (n-1) 0=V / 4294967296 ^ (n-1) % 4294967296:=VM _ _ _ (by omega)
  have hnext:(dig n V).getD ((n:Int)-2).toNat 0=V / 4294967296 ^ (n-2) % 4294967296:=by
   rw [show((n:Int)-2).toNat=n-2 by omega];exact VM _ _ _ (by omega)
  have hvv:val (dig n V)=V:=by rw [Wg,Nat.mod_eq_of_lt hV1]
  repeat first | refine q_Wk ?_ | intro _
  obtain⟨top,htd⟩:∃t,t=V / 4294967296 ^ (n-1) % 4294967296:=⟨_,rfl⟩;obtain⟨next,hnd⟩:∃t,t=V / 4294967296 ^ (n-2) % 4294967296:=⟨_,rfl⟩
  have htB:top<4294967296:=by rw [htd];exact Nat.mod_lt _ (by omega)
  have hnB:next<4294967296:=by rw [hnd];exact Nat.mod_lt _ (by omega)
  rw [htop,hnext,<-htd,<-hnd,Nat.mod_eq_of_lt (show top<18446744073709551616 by omega),Nat.mod_eq_of_lt (show next<18446744073709551616 by omega)]
  have hstart:=zaD hx hs32 (y:=y) (by rw [hnn,hV];exact hV2) (by omega)
  rw [hV,hA,hLL,hnn,<-hM]at hstart;refine Wa (λp:Nat×Nat×List Nat=>⟨mkV [(8,.one (.lit (.int .i64 s))),(9,wsA (dig n V)),(10,.one (.own 55 1 1 0 L)),(11,.one (.own 61 1 1 0 M)),(12,.one (.lit (.int .u64 top))),(13,.one (.lit (.int .u64 next))),(14,.one (.lit (.int .i64 ((p.1:Int)-1))))],
    mkH [(55,⟨1,some ⟨(dig L p.2.1).map wc,1,true⟩⟩),(61,⟨1,some ⟨(List.replicate p.1 0++p.2.2).map wc,1,true⟩⟩)]⟩)
   (λp=>p.1<=M/\p.2.1<V*4294967296 ^ p.1/\A=p.2.1+V*4294967296 ^ p.1*val p.2.2/\WL p.2.2/\p.2.2.length=M-p.1) (λp=>p.1) (M,A,[]) ?_ ?_ ?_
  .exact ja (by simp [bitvec_to_nat]) ⟨ua rfl,ua (by simp),trivial⟩
  .exact⟨Nat.le_refl _,hstart,by simp [val],Ub,by simp⟩
  .rintro⟨j1,X,qd⟩ ⟨hj,hX,hAX,hqd,hqdl⟩;simp only at hj hX hAX hqd hqdl;have hql:(List.replicate j1 0++qd).length=M:=by simp;omega
   rcases Nat.eq_zero_or_pos j1 with hj0 | hj0
   .subst hj0;simp only [Nat.pow_zero,Nat.mul_one]at hX hAX;have h0f:((0:Int)<=((0:Nat):Int)-1)=False:=eq_false (by omega)
    simp only [go_sem,h1,h2,h3,h4,h5,h8,va,hql,h0f];refine⟨hqd,by omega,kh _ _,by omega,by omega,?_⟩
    have hXL:X<4294967296 ^ L:=Nat.lt_trans hX (Nat.lt_of_lt_of_le hV1 (Nat.pow_le_pow_right (by omega) (by omega)))
    rw [Wg,Nat.mod_eq_of_lt hXL];have hs0:0<2 ^ s:=Nat.pow_pos (by omega)
    have hA2:=(Nat.div_mod_unique hV0 (a:=A) (c:=X) (d:=val qd)).2 ⟨hAX.symm,hX⟩;have e1:val x / val y=val qd:=by rw [<-hA2.1,<-hA,<-hV,Nat.mul_div_mul_right _ _ hs0]
    have e2:val x % val y=X / 2 ^ s:=by
     rw [<-hA2.2,<-hA,<-hV,Nat.mul_mod_mul_right,Nat.mul_div_cancel _ hs0]
    rw [e1,e2]at hK;exact hK
   .obtain⟨j,rfl⟩:∃j,j1=j+1:=⟨j1-1,by omega⟩
    have hj1:(((j+1:Nat):Int)-1)=(j:Int):=by omega
    simp only [hj1];generalize hPP:X / 4294967296 ^ j=P';have hPV:P' < V*4294967296:=by
     rw [<-hPP,Nat.div_lt_iff_lt_mul (pow_pos _),Nat.mul_assoc,Nat.mul_comm 4294967296,<-Nat.pow_succ];exact hX
    have hPL:P' < 4294967296 ^ (n+1):=by
     have:=(Nat.mul_lt_mul_right (show 0<4294967296 by omega)).2 hV1
     rw [Nat.pow_succ];exact Nat.lt_trans hPV this
    have st:=uaT hone hV1 hV2 hPV;rw [<-htd,<-hnd]at st;have hread:∀k,k<=n->(dig L X).getD (j+k) 0=P' / 4294967296 ^ k % 4294967296:=by
     intro k hk;rw [VM _ _ _ (by omega),Nat.pow_add,<-Nat.div_div_eq_div_mul,hPP]
    have hr0:=hread n (Nat.le_refl _);have hr1:=hread (n-1) (by omega)
    have hr2:=hread (n-2) (by omega)
    obtain⟨a,ha⟩:∃a,a=P' / 4294967296 ^ n % 4294967296:=⟨_,rfl⟩;obtain⟨b,hb⟩:∃b,b=P' / 4294967296 ^ (n-1) % 4294967296:=⟨_,rfl⟩;obtain⟨u2,hu⟩:∃u2,u2=P' / 4294967296 ^ (n-2) % 4294967296:=⟨_,rfl⟩;rw [<-ha]at hr0 st;rw [<-hb]at hr1 st;rw [<-hu]at hr2 st;have haB:a<4294967296:=by rw [ha];exact Nat.mod_lt _ (by omega)
    have hbB:b<4294967296:=by rw [hb];exact Nat.mod_lt _ (by omega)
    have huB:u2<4294967296:=by rw [hu];exact Nat.mod_lt _ (by omega)
    have htop0:0<top:=by have:=st.half;omega
    have hsub:j+n+1-j=n+1:=by omega
    have hsub1:((n:Int)-1).toNat=n-1:=by omega
    have hsub2:((n:Int)-2).toNat=n-2:=by omega
    have ea1:a % 18446744073709551616=a:=by omega
    have ea2:a*4294967296 % 18446744073709551616=a*4294967296:=by omega
    have eb1:b % 18446744073709551616=b:=by omega
    have eu1:u2 % 18446744073709551616=u2:=by omega
    have eor:=or32 a b hbB;simp only [go_sem,h1,h2,h3,h4,h5,h8,va,hql,hsub,hsub1,hsub2,hr0,hr1,hr2,ea1,ea2,eb1,eor];repeat first | refine q_Wk ?_ | intro _
    obtain⟨q1,q2⟩:=st.first
    generalize hhead:a*4294967296+b=head at *
    have hqB:=st.quot;rw [Nat.mod_eq_of_lt (show head / top<18446744073709551616 by omega)]
    refine Wa (λp:Nat×Nat=>⟨mkV [(8,.one (.lit (.int .i64 s))),(9,wsA (dig n V)),(10,.one (.own 55 1 1 0 L)),(11,.one (.own 61 1 1 0 M)),(12,.one (.lit (.int .u64 top))),(13,.one (.lit (.int .u64 next))),(14,.one (.lit (.int .i64 j))),(15,.one (.own 55 1 1 j (n+1))),(17,.one (.lit (.int .u64 p.1))),(18,.one (.lit (.int .u64 p.2)))],
      mkH [(55,⟨1,some ⟨(dig L X).map wc,1,true⟩⟩),(61,⟨1,some ⟨(List.replicate (j+1) 0++qd).map wc,1,true⟩⟩)]⟩)
     (λp=>p.1*top+p.2=head/\P' / V<=p.1/\p.1<=4294967297/\p.2<8589934592/\(4294967296<p.1->p.2<4294967296)) (λp=>p.1) (head / top,head % top) ?_ ?_ ?_
    .exact ja (by simp [bitvec_to_nat]) ⟨ua rfl,ua rfl,trivial⟩
    .have m1:=Nat.mod_lt head htop0;exact⟨Nat.div_add_mod' head top,q2,q1,by simp only;omega,λ_=>by simp only;omega⟩
    .rintro⟨g,r⟩ ⟨hg,hqg,hgB,hrB,hgr⟩;simp only at hg hqg hgB hrB hgr;rcases Nat.lt_or_ge r 4294967296 with hr | hr
     .have hr' : ((r:Int)<4294967296)=True:=eq_true (by omega)
      rcases Nat.lt_or_ge g 4294967296 with hgl | hgl
      .have hg' : ((4294967296:Int)<=(g:Int))=False:=eq_false (by omega)
       have hm:g*next<18446744073709551616:=qaA hgl hnB
       have em:g*next % 18446744073709551616=g*next:=by rw [Nat.mod_eq_of_lt hm]
       have er:=kaR hr;have eo:=or32 r u2 huB;by_cases hcmp:r*4294967296+u2<g*next
       .simp only [go_sem,h1,h2,h3,h4,h5,h6,h7,h8,va,hql,hsub,hsub1,hsub2,hr0,hr1,hr2,eu1,hr',hg',em,er,eo,hcmp];repeat first | refine q_Wk ?_ | intro _
        have hdown:4294967296<=g∨r*4294967296+u2<g*next:=.inr hcmp
        have hdn:=st.down hg hdown;have hg0:1<=g:=Nat.lt_of_le_of_lt (Nat.zero_le _) hdn;have hqg1:P' / V<=g-1:=Nat.le_sub_one_of_lt hdn;have hg1:sub64 g 1=g-1:=Jr hg0 (by omega)
        refine⟨(g-1,r+top),ja (by simp [bitvec_to_nat,hg1];omega) ⟨ua rfl,ua rfl,trivial⟩,⟨?_,hqg1,by simp only;omega,by simp only;omega,λ_=>by simp only at *;omega⟩,by simp only;omega⟩
        simp only;obtain⟨g',rfl⟩:∃g',g=g' + 1:=⟨g-1,by omega⟩
        rw [Nat.add_sub_cancel,<-hg,Nat.add_mul];omega
       .simp only [go_sem,h1,h2,h3,h4,h5,h6,h7,h8,va,hql,hsub,hsub1,hsub2,hr0,hr1,hr2,eu1,hr',hg',em,er,eo,hcmp];repeat first | refine q_Wk ?_ | intro _
        have hstop:4294967296<=r∨(g<4294967296/\g*next<=r*4294967296+u2):=.inr ⟨hgl,by omega⟩
        have hgB2:g<=4294967296:=by omega
        have hle:=st.stop hg hgB2 hstop;obtain⟨l1,l2⟩:=st.left hqg hle;have hgV:g*V<4294967296 ^ (n+1):=by
         have a1:=Nat.mul_le_mul_right V hgB2;have a2:=(Nat.mul_lt_mul_left (show 0<4294967296 by omega)).2 hV1
         rw [Nat.pow_succ,Nat.mul_comm (4294967296 ^ n)];exact Nat.lt_of_le_of_lt a1 a2
        have hsplit:=jD (L:=L) (j:=j) (n:=n) (X:=X) (by omega) (by rw [hPP];exact hPL)
        rw [hPP]at hsplit;have hvp:val (dig (n+1) P')=P':=by rw [Wg,Nat.mod_eq_of_lt hPL]
        have hrl:P' % V<4294967296 ^ (n+1):=Nat.lt_of_le_of_lt (Nat.mod_le _ _) hPL;have hjoin:=zaa (L:=L) (j:=j) (n:=n) (X:=X) (by omega) hrl
        have hdiv:=W1 (j:=j) (q:=P' / V) hV0 hAX (by rw [hPP])
        rw [hPP]at hdiv;simp only [qk,UB];refine⟨kh _ _,dig j X,dig (n+1) P',List.replicate (L-(j+(n+1))) 0,g,(va _ _).symm,(va _ _).symm,rfl,by simp only [Ua,↓reduceIte,Nat.reduceEqDiff];rw [hsplit],kh _ _,hgB2,by rw [va,va];omega,by rw [hvv,va];exact hgV,by rw [va];omega,?_⟩
        rw [hvp,hvv,va];by_cases hb:P' < g*V
        .have hgq:=l1 hb;simp only [go_sem,h1,h2,h3,h4,h5,h7,h8,hb,hql];simp only [ku,UB];refine⟨kh _ _,dig j X,dig (n+1) (P' + 4294967296 ^ (n+1)-g*V),List.replicate (L-(j+(n+1))) 0,(va _ _).symm,(va _ _).symm,by simp only [Ua,↓reduceIte,Nat.reduceEqDiff],kh _ _,by rw [va,va];omega,by rw [va];omega,?_⟩
         rw [va,hvv,VaK hgq hb hgV,hjoin];have hg1:sub64 g 1=P' / V:=by rw [hgq];exact QI hqB
         simp only [go_sem,h1,h2,h3,h4,h5,h7,h8,hql,hg1];rw [Nat.mod_eq_of_lt hqB];have hset:=xl (n:=j+1) qd (P' / V) (by omega)
         rw [Nat.add_sub_cancel]at hset;rw [hset];repeat first | refine q_Wk ?_ | intro _
         exact⟨(j,X % 4294967296 ^ j+4294967296 ^ j*(P' % V),P' / V::qd),ja (by simp [bitvec_to_nat]) ⟨ua rfl,ua rfl,trivial⟩,⟨by simp only;omega,hdiv.2,hdiv.1,Xb.2 ⟨hqB,hqd⟩,by simp only [List.length_cons];omega⟩,by simp only;omega⟩
        .have hgq:=l2 hb;rw [JaO hgq,hjoin];simp only [go_sem,h1,h2,h3,h4,h5,h7,h8,hb,hql];rw [hgq,Nat.mod_eq_of_lt hqB];have hset:=xl (n:=j+1) qd (P' / V) (by omega)
         rw [Nat.add_sub_cancel]at hset;rw [hset];repeat first | refine q_Wk ?_ | intro _
         exact⟨(j,X % 4294967296 ^ j+4294967296 ^ j*(P' % V),P' / V::qd),ja (by simp [bitvec_to_nat]) ⟨ua rfl,ua rfl,trivial⟩,⟨by simp only;omega,hdiv.2,hdiv.1,Xb.2 ⟨hqB,hqd⟩,by simp only [List.length_cons];omega⟩,by simp only;omega⟩
      .have hg' : ((4294967296:Int)<=(g:Int))=True:=eq_true (by omega)
       simp only [go_sem,h1,h2,h3,h4,h5,h6,h7,h8,va,hql,hsub,hsub1,hsub2,hr0,hr1,hr2,eu1,hr',hg'];repeat first | refine q_Wk ?_ | intro _
       have hdown:4294967296<=g∨r*4294967296+u2<g*next:=.inl hgl
       have hdn:=st.down hg hdown;have hg0:1<=g:=Nat.lt_of_le_of_lt (Nat.zero_le _) hdn;have hqg1:P' / V<=g-1:=Nat.le_sub_one_of_lt hdn;have hg1:sub64 g 1=g-1:=Jr hg0 (by omega)
       refine⟨(g-1,r+top),ja (by simp [bitvec_to_nat,hg1];omega) ⟨ua rfl,ua rfl,trivial⟩,⟨?_,hqg1,by simp only;omega,by simp only;omega,λ_=>by simp only at *;omega⟩,by simp only;omega⟩
       simp only;obtain⟨g',rfl⟩:∃g',g=g' + 1:=⟨g-1,by omega⟩
       rw [Nat.add_sub_cancel,<-hg,Nat.add_mul];omega
     .have hr' : ((r:Int)<4294967296)=False:=eq_false (by omega)
      simp only [go_sem,h1,h2,h3,h4,h5,h6,h7,h8,va,hql,hsub,hsub1,hsub2,hr0,hr1,hr2,eu1,hr'];repeat first | refine q_Wk ?_ | intro _
      have hstop:4294967296<=r∨(g<4294967296/\g*next<=r*4294967296+u2):=.inl hr
      have hgB2:g<=4294967296:=by omega
      have hle:=st.stop hg hgB2 hstop;obtain⟨l1,l2⟩:=st.left hqg hle;have hgV:g*V<4294967296 ^ (n+1):=by
       have a1:=Nat.mul_le_mul_right V hgB2;have a2:=(Nat.mul_lt_mul_left (show 0<4294967296 by omega)).2 hV1
       rw [Nat.pow_succ,Nat.mul_comm (4294967296 ^ n)];exact Nat.lt_of_le_of_lt a1 a2
      have hsplit:=jD (L:=L) (j:=j) (n:=n) (X:=X) (by omega) (by rw [hPP];exact hPL)
      rw [hPP]at hsplit;have hvp:val (dig (n+1) P')=P':=by rw [Wg,Nat.mod_eq_of_lt hPL]
      have hrl:P' % V<4294967296 ^ (n+1):=Nat.lt_of_le_of_lt (Nat.mod_le _ _) hPL;have hjoin:=zaa (L:=L) (j:=j) (n:=n) (X:=X) (by omega) hrl
      have hdiv:=W1 (j:=j) (q:=P' / V) hV0 hAX (by rw [hPP])
      rw [hPP]at hdiv;simp only [qk,UB];refine⟨kh _ _,dig j X,dig (n+1) P',List.replicate (L-(j+(n+1))) 0,g,(va _ _).symm,(va _ _).symm,rfl,by simp only [Ua,↓reduceIte,Nat.reduceEqDiff];rw [hsplit],kh _ _,hgB2,by rw [va,va];omega,by rw [hvv,va];exact hgV,by rw [va];omega,?_⟩
      rw [hvp,hvv,va];by_cases hb:P' < g*V
      .have hgq:=l1 hb;simp only [go_sem,h1,h2,h3,h4,h5,h7,h8,hb,hql];simp only [ku,UB];refine⟨kh _ _,dig j X,dig (n+1) (P' + 4294967296 ^ (n+1)-g*V),List.replicate (L-(j+(n+1))) 0,(va _ _).symm,(va _ _).symm,by simp only [Ua,↓reduceIte,Nat.reduceEqDiff],kh _ _,by rw [va,va];omega,by rw [va];omega,?_⟩
       rw [va,hvv,VaK hgq hb hgV,hjoin];have hg1:sub64 g 1=P' / V:=by rw [hgq];exact QI hqB
       simp only [go_sem,h1,h2,h3,h4,h5,h7,h8,hql,hg1];rw [Nat.mod_eq_of_lt hqB];have hset:=xl (n:=j+1) qd (P' / V) (by omega)
       rw [Nat.add_sub_cancel]at hset;rw [hset];repeat first | refine q_Wk ?_ | intro _
       exact⟨(j,X % 4294967296 ^ j+4294967296 ^ j*(P' % V),P' / V::qd),ja (by simp [bitvec_to_nat]) ⟨ua rfl,ua rfl,trivial⟩,⟨by simp only;omega,hdiv.2,hdiv.1,Xb.2 ⟨hqB,hqd⟩,by simp only [List.length_cons];omega⟩,by simp only;omega⟩
      .have hgq:=l2 hb;rw [JaO hgq,hjoin];simp only [go_sem,h1,h2,h3,h4,h5,h7,h8,hb,hql];rw [hgq,Nat.mod_eq_of_lt hqB];have hset:=xl (n:=j+1) qd (P' / V) (by omega)
       rw [Nat.add_sub_cancel]at hset;rw [hset];repeat first | refine q_Wk ?_ | intro _
       exact⟨(j,X % 4294967296 ^ j+4294967296 ^ j*(P' % V),P' / V::qd),ja (by simp [bitvec_to_nat]) ⟨ua rfl,ua rfl,trivial⟩,⟨by simp only;omega,hdiv.2,hdiv.1,Xb.2 ⟨hqB,hqd⟩,by simp only [List.length_cons];omega⟩,by simp only;omega⟩
end Go.Abs
end
section
namespace Go.Abs
open Go.Num
variable {P:Program} {Γ:Nat->Spec}
def qg:AC:=(.o [.K 1 2 0,.m 2 .fa] [1] (.f (.o [.A 3 1 1,.F 4 1 3,.Z 5 4,.I 6 .eql 5 0] [1,6] (.cond (.t 6) (.seq (.p [.A 7 0 1,.F 8 1 7,.u 9 (.un .not (.t 8)),.M 2 9]) .ret) .skip)) [1] (.seq (.p [.A 10 1 1,.F 11 1 10,.A 12 1 1,.F 13 1 12,.Z 14 13,.I 15 .sub 14 1,.J 16 1 11 15,.F 17 1 16,.u 18 (.bin .neq (.t 17) (.c (.one (.lit (.int .u32 0))))),.M 2 18]) .ret)))
def yi(f0:Nat):AC:=(.o [.K 1 2 0,.m 2 (.c (.one .emp))] [1] (.f (.o [.L 3 2 1,.H 4 f0 3,.u 5 (.un .not (.t 4))] [1,5] (.cond (.t 5) (.seq (.p [.m 2 (.c (.one .emp))]) .ret) .skip)) [1] (.seq (.p [.A 6 1 1,.F 7 1 6,.M 2 7]) .ret)))
def Vi(f0:Nat):AC:=(.o [.K 1 2 0,.m 2 .fa] [1] (.seq (.p [.L 3 2 1,.H 4 f0 3,.M 5 4,.T 6 5 true 0 1,.U 7 5 true 1 false 6,.P 8 5 7,.M 2 8]) .ret))
def yj(f0:Nat):AC:=(.o [.G 4 [.z,.emp]] [0,1,4] (.o [.M 5 1,.H 6 f0 5,.M 1 6] [0,1,4] (.seq (.p [.M 7 0,.M 8 7,.V 9 8 true 1,.w 10 8 true (.len (.t 9)),.w 11 8 true (.bin .gtr (.t 10) (.i 0)),.P 12 8 11,.M 13 1,.u 14 (.build [.x 1 (.t 12),.x 1 (.t 13)]),.S 2 4 14]) .ret)))
def Zk(f0:Nat):AC:=(.o [.G 2 [.z,.emp]] [0,2] (.o [.M 4 0,.u 5 (.conv .u64 (.t 4)),.M 3 5] [0,2,3] (.f (.o [.M 6 0,.I 7 .lss 6 0] [0,2,3,7] (.cond (.t 7) (.p [.M 8 3,.u 9 (.un .neg (.t 8)),.M 3 9]) .skip)) [0,2,3] (.seq (.p [.M 10 0,.I 11 .lss 10 0,.M 12 3,.u 13 (.conv .u32 (.t 12)),.M 14 3,.u 15 (.bin .shr (.t 14) (.c (.one (.lit (.int .u64 32))))),.u 16 (.conv .u32 (.t 15)),.u 17 (.row 1 [[.x 1 (.t 13)],[.x 1 (.t 16)]]),.D 18 f0 11 17,.S 2 2 18]) .ret))))
def Uk(f0:Nat):AC:=(.o [.K 1 2 0,.N 2 0] [1] (.f (.block 0 (.o [.L 4 2 1,.H 5 f0 4,.Z 6 5,.I 7 .eql 6 0,.M 3 7] [1,3] (.cond (.t 3) (.seq (.p [.N 2 0]) .ret) (.o [.A 9 0 1,.F 10 1 9,.M 8 10] [8] (.cond (.t 8) (.seq (.p [.N 2 (-1)]) .ret) .skip))))) [] (.seq (.p [.N 2 1]) .ret)))
def zn(f0 f1 f2 f3:Nat):AC:=(.o [.K 2 2 0,.K 3 2 1,.N 4 0] [2,3] (.f (.f (.y [.L 8 2 2,.H 9 f0 8,.L 10 2 3,.H 11 f0 10,.M 5 9,.M 6 11]) [2,3,5,6] (.o [.M 12 5,.M 13 6,.B 14 .neq 12 13] [2,3,5,6,14] (.cond (.t 14) (.f (.o [.M 15 5,.M 16 6,.B 17 .lss 15 16] [17] (.cond (.t 17) (.seq (.p [.N 4 (-1)]) .ret) .skip)) [] (.seq (.p [.N 4 1]) .ret)) .skip))) [2,3] (.f (.y [.L 18 2 2,.H 19 f1 18,.L 20 2 3,.H 21 f1 20,.D 22 f2 19 21,.M 7 22]) [2,7] (.f (.o [.L 23 2 2,.H 24 f3 23] [7,24] (.cond (.t 24) (.seq (.p [.M 25 7,.u 26 (.un .neg (.t 25)),.M 4 26]) .ret) .skip)) [7] (.seq (.p [.M 27 7,.M 4 27]) .ret)))))
def Ji(f0 f1 f2:Nat):AC:=(.o [.K 1 2 0,.G 2 [.z,.emp]] [1,2] (.seq (.y [.L 3 2 1,.H 4 f0 3,.u 5 (.un .not (.t 4)),.L 6 2 1,.H 7 f1 6,.D 8 f2 5 7,.S 2 2 8]) .ret))
def vm(f0 f1 f2 f3 f4 f5:Nat):AC:=(.o [.K 2 2 0,.K 3 2 1,.G 4 [.z,.emp]] [2,3,4] (.f (.y [.L 7 2 2,.H 8 f0 7,.L 9 2 3,.H 10 f0 9,.M 5 8,.M 6 10]) [2,3,4,5,6] (.f (.block 0 (.f (.y [.L 12 2 2,.H 13 f1 12,.L 14 2 3,.H 15 f1 14,.u 16 (.binb .eql (.t 13) (.t 15)),.M 11 16]) [2,3,4,5,6,11] (.cond (.t 11) (.seq (.p [.L 17 2 2,.H 18 f1 17,.M 19 5,.M 20 6,.D 21 f2 19 20,.D 22 f3 18 21,.S 2 4 22]) .ret) (.o [.M 24 5,.M 25 6,.D 26 f4 24 25,.I 27 .geq 26 0,.M 23 27] [2,3,4,5,6,23] (.cond (.t 23) (.seq (.p [.L 28 2 2,.H 29 f1 28,.M 30 5,.M 31 6,.D 32 f5 30 31,.D 33 f3 29 32,.S 2 4 33]) .ret) .skip))))) [3,4,5,6] (.seq (.p [.L 34 2 3,.H 35 f1 34,.M 36 6,.M 37 5,.D 38 f5 36 37,.D 39 f3 35 38,.S 2 4 39]) .ret))))
def Jn(f0 f1 f2 f3:Nat):AC:=(.o [.K 2 2 0,.K 3 2 1,.G 4 [.z,.emp]] [2,3,4] (.seq (.y [.L 5 2 2,.H 6 f0 5,.L 7 2 3,.H 8 f0 7,.u 9 (.binb .neq (.t 6) (.t 8)),.L 10 2 2,.H 11 f1 10,.L 12 2 3,.H 13 f1 12,.D 14 f2 11 13,.D 15 f3 9 14,.S 2 4 15]) .ret))
def Qn(f0 f1 f2:Nat):AC:=(.o [.K 2 2 0,.K 3 2 1,.G 4 [.z,.emp]] [2,3,4] (.f (.y [.L 9 2 2,.H 10 f0 9,.L 11 2 3,.H 12 f0 11,.M 5 10,.M 6 12]) [4,5,6] (.f (.block 0 (.loop (.f (.o [.M 13 6,.Z 14 13,.I 15 .gtr 14 0] [4,5,6,15] (.cond (.t 15) .skip (.exit 0))) [4,5,6] (.block 1 (.o [.M 17 5,.M 18 6,.D 19 f1 17 18,.M 16 19,.X 20 0 16,.X 21 1 16,.M 7 20,.M 8 21] [4,6,8] (.p [.M 22 6,.M 23 8,.M 5 22,.M 6 23])))))) [4,5] (.seq (.p [.M 24 5,.u 25 (.call f2 [.fa,(.t 24)]),.S 2 4 25]) .ret))))
def wm(f0 f1 f2 f3 f4 f5 tE:Nat):AC:=(.o [.K 2 2 0,.K 3 2 1,.G 4 [.z,.emp],.G 5 [.z,.emp],.m 6 (.c (.one (.lit .nilIface)))] [2,3,4,5] (.o [.L 10 2 3,.H 11 f0 10,.M 7 11] [2,3,4,5,7] (.f (.o [.M 12 7,.Z 13 12,.I 14 .eql 13 0] [2,3,4,5,7,14] (.cond (.t 14) (.seq (.p [.u 15 (.build [.z [.z,.emp]]),.u 16 (.build [.z [.z,.emp]]),.u 17 (.iface tE (.i 8)),.S 2 4 15,.S 2 5 16,.M 6 17]) .ret) .skip)) [2,3,4,5,7] (.o [.L 19 2 2,.H 20 f0 19,.M 21 7,.D 22 f1 20 21,.M 18 22,.X 23 0 18,.X 24 1 18,.M 8 23,.M 9 24] [2,3,4,5,7,8,9] (.f (.o [.L 25 2 2,.H 26 f2 25,.M 27 26,.V 28 27 true 9,.w 29 27 true (.len (.t 28)),.w 30 27 true (.bin .gtr (.t 29) (.i 0)),.P 31 27 30] [2,3,4,5,7,8,9,31] (.cond (.t 31) (.p [.M 32 8,.u 33 (.row 1 [[.x 1 (.c (.one (.lit (.int .u32 1))))]]),.D 34 f3 32 33,.M 35 7,.M 36 9,.D 37 f4 35 36,.M 8 34,.M 9 37]) .skip)) [2,3,4,5,8,9] (.seq (.y [.L 38 2 2,.H 39 f2 38,.L 40 2 3,.H 41 f2 40,.u 42 (.binb .neq (.t 39) (.t 41)),.M 43 8,.D 44 f5 42 43,.M 45 9,.u 46 (.call f5 [.fa,(.t 45)]),.S 2 4 44,.S 2 5 46,.m 6 (.c (.one (.lit .nilIface)))]) .ret))))))
theorem xx(hΓ:Holds P Γ){f:Nat}(hc:check P f=some (19,qg.strip,[.tmp 2])):Sound P f (.dat true Wi):=by
 refine qa hc uU hΓ (λargs K hcl hfi hG=>?_);match args,hG with
 | [a],hG=>
  obtain⟨w,rfl,hw,hK⟩:=hG;refine⟨by simp,?_⟩
  simp only [go_sem,qg,ja3,QaD];unfold vldW at hK;intro hlen;refine⟨λh=>?_,λh _=>?_⟩
  .rw [if_pos (List.length_eq_zero_iff.1 h)]at hK;exact hK
  .have hn:w.2≠[]:=λe=>h (by rw [e];rfl)
   rw [if_neg hn]at hK;refine⟨⟨by omega,by omega⟩,by omega,by omega,?_⟩
   have e1:((w.2.length:Int)-1).toNat=w.2.length-1:=by omega
   rw [e1];have e2:(!decide (w.2.getD (w.2.length-1) 0=0))=decide (NZ w.2):=by
    rw [<-decide_not,decide_eq_decide];unfold NZ;rw [List.getLast?_eq_getElem?,List.getElem?_eq_getElem (by omega),List.getD_eq_getElem?_getD,List.getElem?_eq_getElem (by omega)]
    simp
   rw [e2];exact hK
theorem QF(hΓ:Holds P Γ){f fv:Nat}(hv:Γ fv=.dat true Wi)(hc:check P f=some (8,(yi fv).strip,[.tmp 2])):Sound P f (.dat false xi):=by
 refine qa hc uar hΓ (λargs K hcl hfi hG=>?_);match args,hG with
 | [a],hG=>
  obtain⟨w,rfl,hw,hK⟩:=hG;refine⟨by simp,?_⟩
  simp only [go_sem,yi,hv,hw];rw [<-Wa3 hw]at hK;refine⟨λh=>?_,λh=>?_⟩
  .rw [if_pos h]at hK;exact hK
  .rw [if_neg (by rw [h];simp)]at hK;exact hK
theorem VC(hΓ:Holds P Γ){f fv:Nat}(hv:Γ fv=.dat true Wi)(hc:check P f=some (9,(Vi fv).strip,[.tmp 2])):Sound P f (.dat true zh):=by
 refine qa hc Xag hΓ (λargs K hcl hfi hG=>?_);match args,hG with
 | [a],hG=>
  obtain⟨w,rfl,hw,hK⟩:=hG;refine⟨by simp,?_⟩
  simp only [go_sem,Vi,hv,hw];rw [<-Uan hw]at hK;refine⟨λh=>?_,λh=>?_⟩
  .rw [h,Bool.true_and]at hK;exact hK
  .rw [h,Bool.false_and]at hK;exact hK
theorem QW(hΓ:Holds P Γ){f ft:Nat}(ht:Γ ft=.dat false Up)(hc:check P f=some (15,(yj ft).strip,[.cell 4 2 true])):Sound P f (.dat false kf):=by
 refine qa hc JJ hΓ (λargs K hcl hfi hG=>?_);match args,hG with
 | [a,m],hG=>
  obtain⟨b,rfl,hG⟩:=qs hG;obtain⟨l,rfl,hl,hlen,hK⟩:=hG;refine⟨by simp,?_⟩
  simp only [go_sem,yj,ht];rw [<-QG]at hK;refine⟨hl,hlen,λh _=>?_,λh=>?_⟩
  .rw [h,Bool.true_and]at hK;exact hK
  .rw [h,Bool.false_and]at hK;exact hK
theorem kT(hΓ:Holds P Γ){f fw:Nat}(hw:Γ fw=.dat false kf)(hc:check P f=some (19,(Zk fw).strip,[.cell 2 2 true])):Sound P f (.dat false YL):=by
 refine qa hc JaF hΓ (λargs K hcl hfi hG=>?_);match args,hG with
 | [a],hG=>
  obtain⟨k,n,rfl,rfl,hn1,hn2,hK⟩:=yb hG;refine⟨by simp,?_⟩
  simp only [go_sem,Zk,hw];have e0:(18446744073709551616:Int)=((18446744073709551616:Nat):Int):=rfl;have key:∀(x:Nat) (b:Bool),x<18446744073709551616->sg b x=n->
    onWs (λl=>l.length<=68719476736/\K (AV.agg [zb (zcan (sg b (val l))),zm (zcan (sg b (val l)))]))
     (AV.one (C.slice [[C.lit (Value.int IntKind.u32 ((x:Int) % 4294967296))],[C.lit (Value.int IntKind.u32 ((x:Int) / 2 ^ 32 % 4294967296))]])):=by
   intro x b hx hs;have e1:((x:Int) % 4294967296)=((x % 4294967296:Nat):Int):=by omega
   have e2:((x:Int) / 2 ^ 32 % 4294967296)=((x / 4294967296:Nat):Int):=by omega
   rw [e1,e2,Zas];refine⟨?_,by simp,?_⟩
   .rw [Xb,Xb];exact⟨by omega,by omega,Ub⟩
   .have:val [x % 4294967296,x / 4294967296]=x:=by
     simp only [uf,Jj];omega
    rw [this,hs];exact hK
  refine⟨λh=>⟨⟨by omega,by omega,by decide⟩,?_⟩,λh=>⟨⟨by omega,by omega,by decide⟩,?_⟩⟩
  .have e:(-(n % 18446744073709551616) % 18446744073709551616:Int)=((-n).toNat:Int):=by omega
   rw [e];refine key _ _ (by omega) ?_
   rw [decide_eq_true h];unfold sg;rw [if_pos rfl];omega
  .have e:(n % 18446744073709551616:Int)=(n.toNat:Int):=by omega
   rw [e];refine key _ _ (by omega) ?_
   rw [decide_eq_false h];unfold sg;rw [if_neg (by simp)];omega
theorem VV(hΓ:Holds P Γ){f fm:Nat}(hm:Γ fm=.dat false xi)(hc:check P f=some (11,(Uk fm).strip,[.tmp 2])):Sound P f (.dat true Xh):=by
 refine qa hc zG hΓ (λargs K hcl hfi hG=>?_);match args,hG with
 | [a],hG=>
  obtain⟨w,rfl,hw,hK⟩:=hG;refine⟨by simp,?_⟩
  simp only [go_sem,Uk,hm,hw,ja3,QaD];intro _;show((digs (zv w).natAbs).length=0->_)/\(¬(digs (zv w).natAbs).length=0->_);have h0:(digs (zv w).natAbs).length=0↔zv w=0:=Yr;rw [h0];refine⟨λh=>?_,λh=>⟨λhb=>?_,λhb=>?_⟩⟩
  .rw [h]at hK;exact hK
  .have:zv w<0:=by
    have:=Uan hw;rw [hb,Bool.and_true]at this;have hv:vldW w=true:=by
     cases hv:vldW w with
     | true=>rfl
     | false=>exact absurd (QX hv) h
    rw [hv]at this;simpa using this.symm
   rw [Int.sign_eq_neg_one_of_neg this]at hK;exact hK
  .have:¬zv w<0:=by
    have:=Uan hw;rw [hb,Bool.and_false]at this;simpa using this.symm
   rw [Int.sign_eq_one_of_pos (by omega)]at hK;exact hK
theorem qal(hΓ:Holds P Γ){f fs fm fc fn:Nat}(hs:Γ fs=.dat true Xh)(hm:Γ fm=.dat false xi)(hc' : Γ fc=.dat false qj)(hn:Γ fn=.dat true zh)
  (hc:check P f=some (28,(zn fs fm fc fn).strip,[.tmp 4])):Sound P f (.dat true Xz):=by
 refine qa hc Uay hΓ (λargs K hcl hfi hG=>?_);match args,hG with
 | [a,b],hG=>
  obtain⟨v,rfl,hv,w,rfl,hw,hK⟩:=hG;refine⟨by simp,?_⟩
  simp only [go_sem,zn,hs,hm,hc',hn,hv,hw];simp only [wa];have hs:∀n:Int,Int.sign n=if n<0 then -1 else if n=0 then 0 else 1:=by
   intro n;split
   .exact Int.sign_eq_neg_one_of_neg ‹_›
   .split
    .rename_i h;rw [h];rfl
    .exact Int.sign_eq_one_of_pos (by omega)
  rw [hs,hs];generalize zv v=x at hK ⊢;generalize zv w=y at hK ⊢;refine⟨λh=>⟨ka _,ka _,jn _,jn _,λhx=>⟨?_,?_⟩,λhx=>?_⟩,λh=>⟨λh'=>?_,λh'=>?_⟩⟩
  .unfold ordN;split <;> (try split) <;> omega
  .have e:-ordN x.natAbs y.natAbs=ordI x y:=by
    unfold ordN ordI;rw [if_pos hx]at h;have hy:y<0:=by
     split at h
     .assumption
     .split at h <;> omega
    split <;> (try split) <;> (try split) <;> (try split) <;> omega
   rw [e];exact hK
  .have e:ordN x.natAbs y.natAbs=ordI x y:=by
    unfold ordN ordI;rw [if_neg hx]at h;have hy:¬y<0:=by
     intro hy;rw [if_pos hy]at h;split at h <;> omega
    split <;> (try split) <;> (try split) <;> (try split) <;> omega
   rw [e];exact hK
  .have e:ordI x y = -1:=JaS (by
    split at h' <;> split at h' <;> (try split at h') <;> (try split at h') <;> omega)
   rw [e]at hK;exact hK
  .have e:ordI x y=1:=kaU (by
    split at h' <;> split at h' <;> (try split at h') <;> (try split at h') <;> (try split at h) <;> (try split at h) <;> (try split at h) <;> (try split at h) <;> omega)
   rw [e]at hK;exact hK
theorem yH(hΓ:Holds P Γ){f fn fm fw:Nat}(hn:Γ fn=.dat true zh)(hm:Γ fm=.dat false xi)(hw' : Γ fw=.dat false kf)(hc:check P f=some (9,(Ji fn fm fw).strip,[.cell 2 2 true])):Sound P f (.dat false Vs):=by
 refine qa hc Waw hΓ (λargs K hcl hfi hG=>?_);match args,hG with
 | [a],hG=>
  obtain⟨w,rfl,hw,hz,hK⟩:=hG;refine⟨by simp,?_⟩
  simp only [go_sem,Ji,hn,hm,hw',hw];rw [wa];refine⟨ka _,hz,?_⟩;have e:sg (!decide (zv w<0)) (zv w).natAbs = -zv w:=by
   unfold sg;by_cases h:zv w<0 <;> simp [h] <;> omega
  rw [e];exact hK
theorem Qaj(hΓ:Holds P Γ){f fn fm ft fw:Nat}(hn:Γ fn=.dat true zh)(hm:Γ fm=.dat false xi)(ht:Γ ft=.dat false Uw)(hw' : Γ fw=.dat false kf)(hc:check P f=some (16,(Jn fn fm ft fw).strip,[.cell 4 2 true])):Sound P f (.dat false Vv):=by
 refine qa hc jal hΓ (λargs K hcl hfi hG=>?_);match args,hG with
 | [a,b],hG=>
  obtain⟨v,rfl,hv,w,rfl,hw,hz,hz',hK⟩:=hG;refine⟨by simp,?_⟩
  simp only [go_sem,Jn,hn,hm,ht,hw',hw,hv];simp only [wa];have e:sg (!(decide (zv v<0) == decide (zv w<0))) ((zv v).natAbs*(zv w).natAbs)=zv v*zv w:=Ua0 _ _;rw [e];refine⟨ka _,ka _,hz,hz',ka _,?_,hK⟩;have:=Wk (zv v) (zv w);unfold zs at *
  rw [<-Int.natAbs_mul];omega
theorem yah(hΓ:Holds P Γ){f fn fm fp fw fc fl:Nat}(hn:Γ fn=.dat true zh)(hm:Γ fm=.dat false xi)(hp:Γ fp=.dat false Xp)(hw' : Γ fw=.dat false kf)(hc' : Γ fc=.dat false qj)(hl:Γ fl=.dat false Wq)(hc:check P f=some (40,(vm fm fn fp fw fc fl).strip,[.cell 4 2 true])):Sound P f (.dat false Xs):=by
 refine qa hc WS hΓ (λargs K hcl hfi hG=>?_);match args,hG with
 | [a,b],hG=>
  obtain⟨v,rfl,hv,w,rfl,hw,hz,hz',hK⟩:=hG;refine⟨by simp,?_⟩
  simp only [go_sem,vm,hn,hm,hp,hw',hc',hl,hw,hv];simp only [wa];have hsz:=VJ (zv v) (zv w);refine⟨λh=>⟨ka _,ka _,hz,hz',ka _,?_,?_⟩,λh=>⟨ka _,ka _,jn _,jn _,λho=>⟨ka _,ka _,by unfold zs at hz;omega,?_,ka _,?_,?_⟩,λho=>⟨ka _,ka _,by unfold zs at hz';omega,?_,ka _,?_,?_⟩⟩⟩
  .have e:=Yp (ye h);rw [show(zv v).natAbs+(zv w).natAbs=(zv v+zv w).natAbs by have:=ye h;omega]
   unfold zs at *;omega
  .rw [Yp (ye h)];exact hK
  .exact(yq.1 ho)
  .have:=Va (Nat.sub_le (zv v).natAbs (zv w).natAbs);unfold zs at *;omega
  .have h1:=yq.1 ho;rw [jab (Jk h) h1];exact hK
  .have:=mt yq.2 ho;omega
  .have:=Va (Nat.sub_le (zv w).natAbs (zv v).natAbs);unfold zs at *;omega
  .have h1:=mt yq.2 ho;rw [jab (λe=>Jk h e.symm) (by omega),Int.add_comm];exact hK
theorem jah(hΓ:Holds P Γ){f fn fm fp fw fd fl tE:Nat}(hn:Γ fn=.dat true zh)(hm:Γ fm=.dat false xi)(hp:Γ fp=.dat false Xp)(hw' : Γ fw=.dat false kf)(hd:Γ fd=.dat false Uo)(hl:Γ fl=.dat false Wq)(hc:check P f=some (47,(wm fm fd fn fp fl fw tE).strip,[.cell 4 2 true,.cell 5 2 true,.tmp 6])):Sound P f (.dat false wG):=by
 refine qa hc Jap hΓ (λargs K hcl hfi hG=>?_);match args,hG with
 | [a,b],hG=>
  obtain⟨v,rfl,hv,w,rfl,hw,hz,hz',h0,hK⟩:=hG;refine⟨by simp,?_⟩
  simp only [go_sem,wm,hn,hm,hp,hw',hd,hl,hw,hv];simp only [wa];have hne:¬(digs (zv w).natAbs).length=0:=λe=>h0 (Yr.1 e);intro _;refine⟨λe=>absurd e hne,λ_=>⟨ka _,ka _,jn _,jn _,λe=>hne (by rw [e];rfl),hz,hz',?_⟩⟩
  have hq:(digs ((zv v).natAbs / (zv w).natAbs)).length<=17179869184:=Nat.le_trans (Va (Nat.div_le_self _ _)) hz;have hr:(digs ((zv v).natAbs % (zv w).natAbs)).length<=17179869184:=Nat.le_trans (Va (Nat.mod_le _ _)) hz;have hz'' : (digs (zv w).natAbs).length<=17179869184:=hz';have hlt:=Nat.mod_lt (zv v).natAbs (show 0<(zv w).natAbs by omega)
  have hfin:(0<=zv v∨(zv v).natAbs % (zv w).natAbs=0)->K (AV.tup
    [AV.agg [zb (zcan (sg (!(decide (zv v<0) == decide (zv w<0))) ((zv v).natAbs / (zv w).natAbs))),zm (zcan (sg (!(decide (zv v<0) == decide (zv w<0))) ((zv v).natAbs / (zv w).natAbs)))],
     AV.agg [zb (zcan (sg false ((zv v).natAbs % (zv w).natAbs))),zm (zcan (sg false ((zv v).natAbs % (zv w).natAbs)))],AV.one (C.lit Value.nilIface)]):=by
   intro h;obtain⟨e1,e2⟩:=UaG h0 h;have e1' : sg (!(decide (zv v<0) == decide (zv w<0))) ((zv v).natAbs / (zv w).natAbs)=zv v / zv w:=e1;have e2' : sg false ((zv v).natAbs % (zv w).natAbs)=zv v % zv w:=e2;rw [e1',e2'];exact hK
  refine⟨λhneg _=>⟨λhp=>⟨ka _,(uaq _ 1).mpr ⟨Xb.2 ⟨by decide,Ub⟩,hq,by decide,ka _,ka _,by omega,by omega,ka _,?_,ka _,?_,?_⟩⟩,λhp=>⟨ka _,by omega,ka _,by omega,hfin (.inr ?_)⟩⟩,λhneg=>⟨ka _,by omega,ka _,by omega,hfin (.inl (by omega))⟩⟩
  .have hv1:val [1]=1:=rfl;rw [hv1];have h1:zs 1<=2:=zaj (by decide)
   have:=VJ (((zv v).natAbs / (zv w).natAbs:Nat):Int) 1;have e:(((zv v).natAbs / (zv w).natAbs:Nat):Int)+1=(((zv v).natAbs / (zv w).natAbs+1:Nat):Int):=by omega
   rw [e]at this;have h3:zs (((zv v).natAbs / (zv w).natAbs:Nat):Int)=(digs ((zv v).natAbs / (zv w).natAbs)).length:=rfl;have h4:zs (((zv v).natAbs / (zv w).natAbs+1:Nat):Int)=(digs ((zv v).natAbs / (zv w).natAbs+1)).length:=rfl;rw [h3,h4]at this;omega
  .have:=Va (Nat.sub_le (zv w).natAbs ((zv v).natAbs % (zv w).natAbs));omega
  .have hv1:val [1]=1:=rfl;rw [hv1];have hne' : (zv v).natAbs % (zv w).natAbs≠0:=by
    intro e;rw [e,Xa]at hp;simp at hp
   obtain⟨e1,e2⟩:=vaC h0 hneg hne';have e1' : sg (!(decide (zv v<0) == decide (zv w<0))) ((zv v).natAbs / (zv w).natAbs+1)=zv v / zv w:=e1;have e2' : sg false ((zv w).natAbs-(zv v).natAbs % (zv w).natAbs)=zv v % zv w:=e2;rw [e1',e2'];exact hK
  .have:digs ((zv v).natAbs % (zv w).natAbs)=[]:=List.eq_nil_of_length_eq_zero (by omega)
   exact Jd.1 this
theorem zak(hΓ:Holds P Γ){f fm fd fw:Nat}(hm:Γ fm=.dat false xi)(hw' : Γ fw=.dat false kf)(hd:Γ fd=.dat false Uo)(hc:check P f=some (26,(Qn fm fd fw).strip,[.cell 4 2 true])):Sound P f (.dat false Yq):=by
 refine qa hc yQ hΓ (λargs K hcl hfi hG=>?_);match args,hG with
 | [a,b],hG=>
  obtain⟨v,rfl,hv,w,rfl,hw,hz,hz',hK⟩:=hG;refine⟨by simp,?_⟩
  simp only [go_sem,Qn,hm,hw',hd,hw,hv];refine Wa (λp:Nat×Nat=>⟨mkV [(4,.one (.ptr 4 1 0 0)),(5,.one (ws (digs p.1))),(6,.one (ws (digs p.2)))],mkH [(4,⟨1,some ⟨[[.lit (.bool false),.emp]],2,true⟩⟩)]⟩)
   (λp=>(digs p.1).length<=17179869184/\(digs p.2).length<=17179869184/\Nat.gcd p.1 p.2=Int.gcd (zv v) (zv w)) (λp=>p.2) ((zv v).natAbs,(zv w).natAbs) ?_ ?_ ?_
  .exact ja (by simp [bitvec_to_nat]) ⟨⟨⟨rfl,rfl⟩,.inr ⟨⟨rfl,trivial,trivial⟩,trivial⟩⟩,trivial⟩
  .exact⟨hz,hz',rfl⟩
  .rintro⟨a,b⟩ ⟨ha,hb,hg⟩;simp only at ha hb hg;simp only [go_sem,hm,hw',hd,ws];simp only [wa];refine λ_=>⟨λh=>⟨ka _,ka _,jn _,jn _,λe=>by rw [e]at h;simp at h,ha,hb,?_⟩,λh=>⟨ka _,by omega,?_⟩⟩
   .have hb0:0<b:=by
     rcases Nat.eq_zero_or_pos b with e | e
     .rw [e,Xa]at h;simp at h
     .exact e
    refine⟨(b,a % b),ja (by simp [bitvec_to_nat]) ⟨⟨⟨rfl,rfl⟩,.inr ⟨⟨rfl,trivial,trivial⟩,trivial⟩⟩,trivial⟩,⟨hb,Nat.le_trans (Va (Nat.mod_le _ _)) ha,?_⟩,Nat.mod_lt _ hb0⟩
    rw [<-hg];show Nat.gcd b (a % b)=_;rw [Nat.gcd_comm b,<-Nat.gcd_rec,Nat.gcd_comm]
   .have:digs b=[]:=List.eq_nil_of_length_eq_zero (by omega)
    rw [Jd.1 this,Nat.gcd_zero_right]at hg;rw [hg];exact hK
end Go.Abs
end
section
namespace Go.Abs
open Go.Num
variable {P:Program} {Γ:Nat->Spec}
def qc:AC:=(.o [.m 2 (.c (.one .emp))] [0] (.o [.m 4 (.c (.one .emp)),.M 5 0,.u 6 (.app0 1 (.t 4) (.t 5)),.M 3 6] [3] (.f (.block 0 (.loop (.f (.o [.M 7 3,.Z 8 7,.I 9 .gtr 8 0,.M 10 9,.V 11 10 true 3,.V 12 10 true 3,.w 13 10 true (.len (.t 12)),.w 14 10 true (.bin .sub (.t 13) (.i 1)),.w 15 10 true (.idx 1 (.t 11) (.t 14)),.U 16 10 true 1 false 15,.w 17 10 true (.bin .eql (.t 16) (.c (.one (.lit (.int .u32 0))))),.P 18 10 17] [3,18] (.cond (.t 18) .skip (.exit 0))) [3] (.block 1 (.p [.M 19 3,.M 20 3,.Z 21 20,.I 22 .sub 21 1,.u 23 (.sl 1 (.t 19) none (some (.t 22))),.M 3 23]))))) [3] (.seq (.p [.M 24 3,.M 2 24]) .ret))))
def je(f0 f1:Nat):AC:=(.o [.m 4 (.c (.one .emp))] [0,1] (.o [.m 5 (.c (.one .emp))] [0,1,5] (.o [.m 6 (.c (.one (.lit (.int .u64 0))))] [0,1,5,6] (.f (.o [.M 9 0,.Z 10 9,.M 11 1,.Z 12 11,.u 13 (.max [(.t 10),(.t 12)]),.I 14 .add 13 1,.N 15 0] [0,1,5,6,14,15] (.block 0 (.loop (.o [.B 16 .lss 15 14] [0,1,5,6,14,15,16] (.f (.cond (.t 16) .skip (.exit 0)) [0,1,5,6,14,15] (.f (.block 1 (.o [.M 17 15,.M 7 17] [0,1,5,6,7,14,15] (.o [.M 18 0,.M 19 7,.D 20 f0 18 19,.M 21 1,.M 22 7,.D 23 f0 21 22,.B 24 .add 20 23,.M 25 6,.B 26 .add 24 25,.M 8 26] [0,1,5,8,14,15] (.p [.M 27 5,.M 28 8,.u 29 (.conv .u32 (.t 28)),.u 30 (.row 1 [[.x 1 (.t 29)]]),.u 31 (.app 1 (.t 27) (.t 30)),.M 32 8,.u 33 (.bin .shr (.t 32) (.c (.one (.lit (.int .u64 32))))),.M 5 31,.M 6 33])))) [0,1,5,6,14,15] (.p [.I 34 .add 15 1,.M 15 34]))))))) [5] (.seq (.p [.M 35 5,.u 36 (.callf f1 [(.t 35)]),.M 4 36]) .ret)))))
def Ud(f0 f1:Nat):AC:=(.o [.m 4 (.c (.one .emp))] [0,1] (.o [.m 5 (.c (.one .emp))] [0,1,5] (.o [.m 6 (.c (.one (.lit (.int .u64 0))))] [0,1,5,6] (.f (.o [.M 9 0,.Z 10 9,.N 11 0] [0,1,5,6,10,11] (.block 0 (.loop (.o [.B 12 .lss 11 10] [0,1,5,6,10,11,12] (.f (.cond (.t 12) .skip (.exit 0)) [0,1,5,6,10,11] (.f (.block 1 (.o [.M 13 11,.M 7 13] [0,1,5,6,7,10,11] (.o [.M 14 0,.M 15 7,.D 16 f0 14 15,.u 17 (.bin .add (.c (.one (.lit (.int .u64 4294967296)))) (.t 16)),.M 18 1,.M 19 7,.D 20 f0 18 19,.B 21 .sub 17 20,.M 22 6,.B 23 .sub 21 22,.M 8 23] [0,1,5,8,10,11] (.p [.M 24 5,.M 25 8,.u 26 (.conv .u32 (.t 25)),.u 27 (.row 1 [[.x 1 (.t 26)]]),.u 28 (.app 1 (.t 24) (.t 27)),.M 29 8,.u 30 (.bin .shr (.t 29) (.c (.one (.lit (.int .u64 32))))),.u 31 (.bin .sub (.c (.one (.lit (.int .u64 1)))) (.t 30)),.M 5 28,.M 6 31])))) [0,1,5,6,10,11] (.p [.I 32 .add 11 1,.M 11 32]))))))) [5] (.seq (.p [.M 33 5,.u 34 (.callf f1 [(.t 33)]),.M 4 34]) .ret)))))
def Uc(f0:Nat):AC:=(.o [.N 4 0] [0,1] (.f (.o [.M 6 0,.Z 7 6,.M 8 1,.Z 9 8,.u 10 (.max [(.t 7),(.t 9)]),.I 11 .sub 10 1,.M 5 11] [0,1,5] (.block 0 (.loop (.f (.o [.M 12 5,.I 13 .geq 12 0] [0,1,5,13] (.cond (.t 13) .skip (.exit 0))) [0,1,5] (.f (.block 1 (.o [.M 16 0,.M 17 5,.D 18 f0 16 17,.M 19 1,.M 20 5,.D 21 f0 19 20,.B 22 .neq 18 21] [0,1,5,22] (.cond (.t 22) (.f (.o [.M 23 0,.M 24 5,.D 25 f0 23 24,.M 26 1,.M 27 5,.D 28 f0 26 27,.B 29 .lss 25 28] [29] (.cond (.t 29) (.seq (.p [.N 4 (-1)]) .ret) .skip)) [] (.seq (.p [.N 4 1]) .ret)) .skip))) [0,1,5] (.p [.M 14 5,.I 15 .sub 14 1,.M 5 15])))))) [] (.seq (.p [.N 4 0]) .ret)))
theorem yai(hΓ:Holds P Γ){f:Nat}(hc:check P f=some (25,qc.strip,[.tmp 2])):Sound P f (.fresh 1 ju):=by
 refine jC hc Yao hΓ (λargs K hcl hfi hG=>?_);match args,hG with
 | [a],hG=>
  obtain⟨l,ha,hl,hlen,hK⟩:=hG;refine⟨by simp,?_⟩
  rcases ha with rfl | rfl | ⟨rfl,h0⟩
  .simp only [go_sem,qc,ws];refine⟨hlen,?_⟩;refine Wa (λn:Nat=>⟨mkV [(3,.one (.own 6 1 1 0 n))],mkH [(6,⟨1,some ⟨l.map wc,1,true⟩⟩)]⟩) (λn=>n<=l.length/\val (l.take n)=val l) id l.length ?_ ?_ ?_
   .first | exact ja (by simp [bitvec_to_nat]) (ue rfl) | (subst h0;exact ja (by simp [bitvec_to_nat]) (ue (l:=[]) rfl))
   .simp
   .rintro n ⟨hn,ht⟩;simp only [go_sem];refine λhm=>⟨λh=>?_,λh=>?_⟩
    .rw [show((n:Int)-1).toNat=n-1 by omega]
     refine λ_=>⟨by omega,by omega,by omega,λh0=>λ_=>⟨by omega,by omega,by omega,n-1,ja (by simp [bitvec_to_nat]) (ue rfl),⟨by omega,?_⟩,?_⟩,λh0=>?_⟩
     .have:=jb l (n-1);rw [show n-1+1=n by omega,h0,Nat.mul_zero,Nat.add_zero]at this
      rw [<-this];exact ht
     .simp only [id];omega
     .have:=Jc (uo hl n) (xE h hn h0);rw [ht]at this;rw [this]at hK;exact⟨hn,hK⟩
    .have h1:n=0:=by omega
     subst h1;have:val l=0:=by rw [<-ht];simp [val]
     rw [this,Xa]at hK;exact⟨by omega,hK⟩
  .simp only [go_sem,qc,ws];refine⟨hlen,?_⟩;refine Wa (λn:Nat=>⟨mkV [(3,.one (.own 6 1 1 0 n))],mkH [(6,⟨1,some ⟨l.map wc,1,true⟩⟩)]⟩) (λn=>n<=l.length/\val (l.take n)=val l) id l.length ?_ ?_ ?_
   .first | exact ja (by simp [bitvec_to_nat]) (ue rfl) | (subst h0;exact ja (by simp [bitvec_to_nat]) (ue (l:=[]) rfl))
   .simp
   .rintro n ⟨hn,ht⟩;simp only [go_sem];refine λhm=>⟨λh=>?_,λh=>?_⟩
    .rw [show((n:Int)-1).toNat=n-1 by omega]
     refine λ_=>⟨by omega,by omega,by omega,λh0=>λ_=>⟨by omega,by omega,by omega,n-1,ja (by simp [bitvec_to_nat]) (ue rfl),⟨by omega,?_⟩,?_⟩,λh0=>?_⟩
     .have:=jb l (n-1);rw [show n-1+1=n by omega,h0,Nat.mul_zero,Nat.add_zero]at this
      rw [<-this];exact ht
     .simp only [id];omega
     .have:=Jc (uo hl n) (xE h hn h0);rw [ht]at this;rw [this]at hK;exact⟨hn,hK⟩
    .have h1:n=0:=by omega
     subst h1;have:val l=0:=by rw [<-ht];simp [val]
     rw [this,Xa]at hK;exact⟨by omega,hK⟩
  .simp only [go_sem,qc,ws];refine⟨by simp,?_⟩
   refine Wa (λn:Nat=>⟨mkV [(3,.one (.own 6 1 1 0 n))],mkH [(6,⟨1,some ⟨l.map wc,1,true⟩⟩)]⟩) (λn=>n<=l.length/\val (l.take n)=val l) id l.length ?_ ?_ ?_
   .first | exact ja (by simp [bitvec_to_nat]) (ue rfl) | (subst h0;exact ja (by simp [bitvec_to_nat]) (ue (l:=[]) rfl))
   .simp
   .rintro n ⟨hn,ht⟩;simp only [go_sem];refine λhm=>⟨λh=>?_,λh=>?_⟩
    .rw [show((n:Int)-1).toNat=n-1 by omega]
     refine λ_=>⟨by omega,by omega,by omega,λh0=>λ_=>⟨by omega,by omega,by omega,n-1,ja (by simp [bitvec_to_nat]) (ue rfl),⟨by omega,?_⟩,?_⟩,λh0=>?_⟩
     .have:=jb l (n-1);rw [show n-1+1=n by omega,h0,Nat.mul_zero,Nat.add_zero]at this
      rw [<-this];exact ht
     .simp only [id];omega
     .have:=Jc (uo hl n) (xE h hn h0);rw [ht]at this;rw [this]at hK;exact⟨hn,hK⟩
    .have h1:n=0:=by omega
     subst h1;have:val l=0:=by rw [<-ht];simp [val]
     rw [this,Xa]at hK;exact⟨by omega,hK⟩
theorem JR(hΓ:Holds P Γ){f fw ft:Nat}(hw:Γ fw=.dat true zj)(ht:Γ ft=.fresh 1 ju)(hc:check P f=some (37,(je fw ft).strip,[.tmp 4])):Sound P f (.dat false Xp):=by
 refine qa hc XQ hΓ (λargs K hcl hfi hG=>?_);match args,hG with
 | [a,b],hG=>
  obtain⟨x,rfl,hx,y,rfl,hy,hxl,hyl,hK⟩:=hG;refine⟨by simp,?_⟩
  simp only [go_sem,je,hw,ht];intro h1 h2;refine⟨by omega,?_⟩
  generalize hN:max x.length y.length+1=N;refine Wa (λp:List Nat×Nat=>match p.1 with
    | []=>⟨mkV [(0,wsA x),(1,wsA y),(5,.one .emp),(6,.one (.lit (.int .u64 p.2))),(14,.one (.lit (.int .i64 N))),(15,.one (.lit (.int .i64 0)))],mkH []⟩
    | a::r=>⟨mkV [(0,wsA x),(1,wsA y),(5,.one (.own 31 1 1 0 (r.length+1))),(6,.one (.lit (.int .u64 p.2))),(14,.one (.lit (.int .i64 N))),(15,.one (.lit (.int .i64 (r.length+1:Nat))))],mkH [(31,⟨1,some ⟨(a::r).map wc,1,true⟩⟩)]⟩)
   (λp=>p.1.length<=N/\WL p.1/\p.2<=1/\val p.1+4294967296 ^ p.1.length*p.2=val (x.take p.1.length)+val (y.take p.1.length)) (λp=>N-p.1.length) ([],0) ?_ ?_ ?_
  .exact ja (by simp [bitvec_to_nat]) trivial
  .simp [Ub,val]
  .rintro⟨o,c⟩ ⟨hoN,ho,hc1,hval⟩;simp only at hoN ho hc1 hval;cases o with
   | nil=>
    simp only [go_sem,hw,ht];refine⟨λhlt=>?_,λhge=>by omega⟩
    have g1:=Wb hx 0;have g2:=Wb hy 0;rw [Nat.mod_eq_of_lt (show x.getD 0 0+y.getD 0 0<18446744073709551616 by omega),Nat.mod_eq_of_lt (show x.getD 0 0+y.getD 0 0+c<18446744073709551616 by omega)]
    generalize hs:x.getD 0 0+y.getD 0 0+c=s;refine⟨hx,by omega,hy,by omega,by simp,by decide,by decide,([s % 4294967296],s / 4294967296),ja (by simp [bitvec_to_nat]) (ue (l:=[s % 4294967296]) rfl),⟨by simp;omega,Xb.2 ⟨Nat.mod_lt _ (by omega),Ub⟩,by simp only;omega,?_⟩,by simp;omega⟩
    have t1:=jb x 0;have t2:=jb y 0;simp only [List.length_cons,List.length_nil,Nat.zero_add,List.take_zero,Jj,uf,Nat.pow_zero,Nat.pow_one,Nat.mul_zero]at t1 t2 hval ⊢;omega
   | cons a r=>
    simp only [go_sem,hw,ht];refine⟨λhlt=>?_,λhge=>?_⟩
    .have g1:=Wb hx (r.length+1);have g2:=Wb hy (r.length+1);rw [Nat.mod_eq_of_lt (show x.getD (r.length+1) 0+y.getD (r.length+1) 0<18446744073709551616 by omega),Nat.mod_eq_of_lt (show x.getD (r.length+1) 0+y.getD (r.length+1) 0+c<18446744073709551616 by omega)]
     generalize hs:x.getD (r.length+1) 0+y.getD (r.length+1) 0+c=s;refine⟨hx,hy,by simp,by omega,by decide,by omega,(a::(r++[s % 4294967296]),s / 4294967296),ja (by simp [bitvec_to_nat]) (jS (l':=a::(r++[s % 4294967296])) (by simp [wc])),⟨by simp;omega,?_,by simp only;omega,?_⟩,by simp;omega⟩
     .exact uc (a:=a::r) |>.2 ⟨ho,Xb.2 ⟨Nat.mod_lt _ (by omega),Ub⟩⟩
     .have t1:=jb x (r.length+1);have t2:=jb y (r.length+1);have e:a::(r++[s % 4294967296])=(a::r)++[s % 4294967296]:=rfl;simp only [e,List.length_append,List.length_cons,List.length_nil,Nat.zero_add,kb,t1,t2];simp only [List.length_cons]at hval;rw [show val [s % 4294967296]=s % 4294967296 from by simp [val],Nat.pow_succ 4294967296 (r.length+1)]
      exact XaD hval (by rw [Nat.mod_add_div,hs])
    .have e:r.length+1=N:=by simp only [List.length_cons]at hoN;omega
     have hv:val (a::r)=val x+val y:=by
      rw [List.length_cons,e,Uf (by omega),Uf (by omega)]at hval
      exact wY hx hy (by omega) (by omega) (by omega) hval
     refine(uS _ (a::r)).mpr ⟨ho,by simp only [List.length_cons];omega,?_⟩
     rw [hv];exact hK
theorem QL(hΓ:Holds P Γ){f fw ft:Nat}(hw:Γ fw=.dat true zj)(ht:Γ ft=.fresh 1 ju)(hc:check P f=some (35,(Ud fw ft).strip,[.tmp 4])):Sound P f (.dat false Wq):=by
 refine qa hc kO hΓ (λargs K hcl hfi hG=>?_);match args,hG with
 | [a,b],hG=>
  obtain⟨x,rfl,hx,y,rfl,hy,hxl,hle,hK⟩:=hG;refine⟨by simp,?_⟩
  simp only [go_sem,Ud,hw,ht];intro h1;generalize hN:x.length=N at *
  refine Wa (λp:List Nat×Nat=>match p.1 with
    | []=>⟨mkV [(0,wsA x),(1,wsA y),(5,.one .emp),(6,.one (.lit (.int .u64 p.2))),(10,.one (.lit (.int .i64 N))),(11,.one (.lit (.int .i64 0)))],mkH []⟩
    | a::r=>⟨mkV [(0,wsA x),(1,wsA y),(5,.one (.own 28 1 1 0 (r.length+1))),(6,.one (.lit (.int .u64 p.2))),(10,.one (.lit (.int .i64 N))),(11,.one (.lit (.int .i64 (r.length+1:Nat))))],mkH [(28,⟨1,some ⟨(a::r).map wc,1,true⟩⟩)]⟩)
   (λp=>p.1.length<=N/\WL p.1/\p.2<=1/\val p.1+val (y.take p.1.length)=val (x.take p.1.length)+4294967296 ^ p.1.length*p.2) (λp=>N-p.1.length) ([],0) ?_ ?_ ?_
  .exact ja (by simp [bitvec_to_nat]) trivial
  .simp [Ub,val]
  .rintro⟨o,c⟩ ⟨hoN,ho,hc1,hval⟩;simp only at hoN ho hc1 hval;cases o with
   | nil=>
    have g1:=Wb hx 0;have g2:=Wb hy 0;obtain⟨s,e1,e2,e3,e4⟩:=qM g1 g2 hc1;simp only [go_sem,hw,ht,e1,e2];refine⟨λhlt=>?_,λhge=>?_⟩
    .refine⟨hx,by omega,hy,by omega,by simp,⟨by omega,by decide⟩,by decide,([s % 4294967296],1-s / 4294967296),ja (by simp [bitvec_to_nat,e2]) (jS (l':=[s % 4294967296]) (by simp [wc])),⟨by simp;omega,Xb.2 ⟨Nat.mod_lt _ (by omega),Ub⟩,e4,?_⟩,by simp;omega⟩
     have t1:=jb x 0;have t2:=jb y 0;simp only [List.length_cons,List.length_nil,Nat.zero_add,List.take_zero,Jj,uf,Nat.pow_zero,Nat.pow_one,Nat.mul_zero]at t1 t2 hval ⊢;omega
    .have hx0:x=[]:=List.eq_nil_of_length_eq_zero (by omega)
     have:val x-val y=val []:=by rw [hx0];simp [val]
     rw [<-this];exact hK
   | cons a r=>
    have g1:=Wb hx (r.length+1);have g2:=Wb hy (r.length+1);obtain⟨s,e1,e2,e3,e4⟩:=qM g1 g2 hc1;simp only [go_sem,hw,ht,e1,e2];refine⟨λhlt=>?_,λhge=>?_⟩
    .refine⟨hx,hy,by simp,by omega,⟨by omega,by decide⟩,by omega,(a::(r++[s % 4294967296]),1-s / 4294967296),ja (by simp [bitvec_to_nat,e2]) (jS (l':=a::(r++[s % 4294967296])) (by simp [wc])),⟨by simp;omega,?_,e4,?_⟩,by simp;omega⟩
     .exact uc (a:=a::r) |>.2 ⟨ho,Xb.2 ⟨Nat.mod_lt _ (by omega),Ub⟩⟩
     .have e:a::(r++[s % 4294967296])=(a::r)++[s % 4294967296]:=rfl;simp only [List.length_cons]at hval;simp only [e,List.length_append,List.length_cons,List.length_nil,Nat.zero_add,jb x (r.length+1),jb y (r.length+1),kb,uf (s % 4294967296),Jj,Nat.mul_zero,Nat.add_zero,Nat.pow_succ 4294967296 (r.length+1)];exact Uy hval e3
    .have e:(a::r).length=N:=by simp only [List.length_cons]at hoN ⊢;omega
     have hv:=Jy ho hx (by omega) hle hval
     refine(uS _ (a::r)).mpr ⟨ho,by omega,?_⟩
     rw [hv];exact hK
theorem JX(hΓ:Holds P Γ){f fw:Nat}(hw:Γ fw=.dat true zj)(hc:check P f=some (30,(Uc fw).strip,[.tmp 4])):Sound P f (.dat true Wt):=by
 refine qa hc Qai hΓ (λargs K hcl hfi hG=>?_);match args,hG with
 | [a,b],hG=>
  obtain⟨x,rfl,hx,y,rfl,hy,hK⟩:=hG;refine⟨by simp,?_⟩
  simp only [go_sem,Uc,hw];intro h1 h2;refine⟨⟨by omega,by omega⟩,?_⟩
  refine Wa (λn:Nat=>⟨mkV [(0,wsA x),(1,wsA y),(5,.one (.lit (.int .i64 ((n:Int)-1))))],mkH []⟩) (λn=>n<=max x.length y.length/\val (x.drop n)=val (y.drop n)) id (max x.length y.length) ?_ ?_ ?_
  .exact ja (by simp [bitvec_to_nat]) trivial
  .refine⟨Nat.le_refl _,?_⟩;rw [List.drop_of_length_le (by omega),List.drop_of_length_le (by omega)]
  .rintro n ⟨hn,hd⟩;simp only [go_sem,hw];refine⟨λh=>?_,λh=>?_⟩
   .have e:((n:Int)-1).toNat=n-1:=by omega
    have e1:=jy x (n-1);have e2:=jy y (n-1);have e3:n-1+1=n:=by omega
    rw [e3]at e1 e2;rw [e];refine⟨hx,h,hy,h,λhe=>⟨by omega,n-1,ja (by simp [bitvec_to_nat];omega) trivial,⟨by omega,by rw [e1,e2,hd,he]⟩,by simp only [id];omega⟩,λhe=>⟨hx,h,hy,h,λhlt=>?_,λhge=>?_⟩⟩
    .rw [vK (JaJ hx (by rw [e3];exact hd) hlt)]at hK;exact hK
    .rw [UW (JaJ (m:=n-1) hy (by rw [e3];exact hd.symm) (by omega))]at hK;exact hK
   .have:n=0:=by omega
    subst this;have:val x=val y:=hd;rw [this,zav]at hK;exact hK
end Go.Abs
end
section
namespace Go.Abs
open Go.Num
variable {P:Program} {Γ:Nat->Spec}
def yf:AC:=(.o [.m 2 (.c (.one .emp))] [0] (.f (.block 0 (.loop (.f (.o [.M 3 0,.Z 4 3,.I 5 .gtr 4 0,.M 6 5,.V 7 6 true 0,.V 8 6 true 0,.w 9 6 true (.len (.t 8)),.w 10 6 true (.bin .sub (.t 9) (.i 1)),.w 11 6 true (.idx 1 (.t 7) (.t 10)),.U 12 6 true 1 false 11,.w 13 6 true (.bin .eql (.t 12) (.c (.one (.lit (.int .u32 0))))),.P 14 6 13] [0,14] (.cond (.t 14) .skip (.exit 0))) [0] (.block 1 (.p [.M 15 0,.M 16 0,.Z 17 16,.I 18 .sub 17 1,.u 19 (.sl 1 (.t 15) none (some (.t 18))),.M 0 19]))))) [0] (.seq (.p [.M 20 0,.M 2 20]) .ret)))
def Xd(f0 f1:Nat):AC:=(.o [.m 2 (.c (.one .emp))] [0] (.f (.o [.M 4 0,.Z 5 4,.N 6 0] [0,5,6] (.block 0 (.loop (.o [.B 7 .lss 6 5] [0,5,6,7] (.f (.cond (.t 7) .skip (.exit 0)) [0,5,6] (.f (.block 1 (.o [.M 8 6,.M 3 8] [0,3,5,6] (.p [.M 9 0,.M 10 3,.M 11 0,.M 12 3,.D 13 f0 11 12,.u 14 (.bin .shr (.t 13) (.c (.one (.lit (.int .u64 1))))),.M 15 0,.M 16 3,.I 17 .add 16 1,.D 18 f0 15 17,.u 19 (.bin .shl (.t 18) (.c (.one (.lit (.int .u64 31))))),.B 20 .or 14 19,.u 21 (.conv .u32 (.t 20)),.J 22 1 9 10,.S 1 22 21]))) [0,5,6] (.p [.I 23 .add 6 1,.M 6 23]))))))) [0] (.seq (.p [.M 24 0,.H 25 f1 24,.M 2 25]) .ret)))
def xc(f0:Nat):AC:=(.o [.m 4 (.c (.one (.lit (.int .u64 0))))] [0,1,4] (.o [.M 7 0,.Z 8 7,.N 9 0] [0,1,4,8,9] (.block 0 (.loop (.o [.B 10 .lss 9 8] [0,1,4,8,9,10] (.f (.cond (.t 10) .skip (.exit 0)) [0,1,4,8,9] (.f (.block 1 (.o [.M 11 9,.M 5 11] [0,1,4,5,8,9] (.o [.M 12 0,.M 13 5,.D 14 f0 12 13,.u 15 (.bin .add (.c (.one (.lit (.int .u64 4294967296)))) (.t 14)),.M 16 1,.M 17 5,.D 18 f0 16 17,.B 19 .sub 15 18,.M 20 4,.B 21 .sub 19 20,.M 6 21] [0,1,5,6,8,9] (.p [.M 22 0,.M 23 5,.M 24 6,.u 25 (.conv .u32 (.t 24)),.M 26 6,.u 27 (.bin .shr (.t 26) (.c (.one (.lit (.int .u64 32))))),.u 28 (.bin .sub (.c (.one (.lit (.int .u64 1)))) (.t 27)),.J 29 1 22 23,.S 1 29 25,.M 4 28])))) [0,1,4,8,9] (.p [.I 30 .add 9 1,.M 9 30]))))))))
theorem Uax(hΓ:Holds P Γ){f:Nat}(hc:check P f=some (21,yf.strip,[.tmp 2])):Sound P f (.own VR):=by
 refine Qq hc hΓ (λd args h K hG=>?_);unfold VR at hG;split at hG
 case h_2=>exact hG.elim
 rename_i r ver len;obtain⟨l,post,rfl,hr,hl,hll,hK⟩:=hG;refine⟨[r],[⟨(l++post).map wc,1,true⟩],[.one (.own 1048576 ver 1 0 l.length)],by simp,rfl,?_,?_,?_,λhfi=>⟨by simp,?_⟩⟩
 .intro i r' b h1 h2;cases i with
  | zero=>simp only [List.getElem?_cons_zero,Option.some.injEq]at h1 h2;subst h1 h2;exact⟨by rw [hr],rfl,of_eq_true (Wc _)⟩
  | succ i=>simp at h1
 .simp [exA,exC,exB,nameOf,pinA,wsA,ws]
 .intro a ha;simp only [List.mem_cons,List.not_mem_nil,or_false]at ha;subst ha;simp [pasA,pasC,pasB,nameOf,pinA]
 simp only [go_sem,yf,hr];refine Wa (λn:Nat=>⟨mkV [(0,.one (.own 1048576 ver 1 0 n))],mkH [(1048576,⟨ver,some ⟨(l++post).map wc,1,true⟩⟩)]⟩)
  (λn=>n<=l.length/\val (l.take n)=val l) id l.length ?_ ?_ ?_
 .exact ja (by simp [bitvec_to_nat]) (ue (by simp))
 .simp
 .rintro n ⟨hn,ht⟩;simp only [go_sem,hr];rw [show((n:Int)-1).toNat=n-1 by omega]
  refine λ_=>⟨λh=>λ_=>⟨by omega,by omega,by simp;omega,?_,?_⟩,λh=>?_⟩
  .rw [Xav (by omega)]
   refine λh0 _=>⟨by omega,by omega,by omega,n-1,ja (by simp [bitvec_to_nat]) (ue rfl),⟨by omega,?_⟩,by simp only [id];omega⟩
   have:=jb l (n-1);rw [show n-1+1=n by omega,h0,Nat.mul_zero,Nat.add_zero]at this
   rw [<-this];exact ht
  .rw [Xav (by omega)]
   intro h0;have:=Jc (uo hl n) (xE h hn h0);rw [ht]at this;have h2:=hK (l.drop n++post);rw [this,List.length_take,Nat.min_eq_left hn,<-List.append_assoc,List.take_append_drop]at h2;exact h2
  .have h1:n=0:=by omega
   subst h1;have:val l=0:=by rw [<-ht];simp [val]
   have h2:=hK (l++post);rw [this,Xa]at h2;exact h2
theorem wW(hΓ:Holds P Γ){f fw fc:Nat}(hw:Γ fw=.dat true zj)(hc' : Γ fc=.own VR)(hc:check P f=some (26,(Xd fw fc).strip,[.tmp 2])):Sound P f (.own Vj):=by
 refine Qq hc hΓ (λd args h K hG=>?_);unfold Vj at hG;split at hG
 case h_2=>exact hG.elim
 rename_i r ver len;obtain⟨l,post,rfl,hr,hl,hll,hK⟩:=hG;refine⟨[r],[⟨(l++post).map wc,1,true⟩],[.one (.own 1048576 ver 1 0 l.length)],by simp,rfl,?_,?_,?_,λhfi=>⟨by simp,?_⟩⟩
 .intro i r' b h1 h2;cases i with
  | zero=>simp only [List.getElem?_cons_zero,Option.some.injEq]at h1 h2;subst h1 h2;exact⟨by rw [hr],rfl,of_eq_true (Wc _)⟩
  | succ i=>simp at h1
 .simp [exA,exC,exB,nameOf,pinA,wsA,ws]
 .intro a ha;simp only [List.mem_cons,List.not_mem_nil,or_false]at ha;subst ha;simp [pasA,pasC,pasB,nameOf,pinA]
 simp only [go_sem,Xd,hr];intro h1;refine Wa (λo:List Nat=>⟨mkV [(0,.one (.own 1048576 ver 1 0 l.length)),(5,.one (.lit (.int .i64 l.length))),(6,.one (.lit (.int .i64 o.length)))],mkH [(1048576,⟨ver,some ⟨(o++(l.drop o.length++post)).map wc,1,true⟩⟩)]⟩)
  (λo=>o.length<=l.length/\WL o/\val o=val l / 2 % 4294967296 ^ o.length) (λo=>l.length-o.length) [] ?_ ?_ ?_
 .exact ja (by simp [bitvec_to_nat]) (ue (by simp))
 .simp [Ub,val];omega
 .rintro o ⟨hoN,ho,hval⟩;have hw2:=qaU ho hl;simp only [go_sem,hr,hw,hc',Uaw hoN,ZY hoN,Nat.le_add_right,W2,jY];refine⟨λhlt=>⟨hw2,by decide,by omega,hw2,by decide,⟨rfl,by have:=Wb hl o.length;omega,by omega⟩,hlt,by omega,by omega,?_⟩,λhge=>?_⟩
  .have hd:=WaH (Wb hl o.length) (Wb hl (o.length+1));rw [WQ hl (by omega),Nat.pow_one]at hd
   rw [hd,kaq _ hlt];generalize hv:val l / 2 / 4294967296 ^ o.length % 4294967296=v;have hvB:v<4294967296:=by rw [<-hv];exact Nat.mod_lt _ (by omega)
   refine⟨o++[v],ja (by simp [bitvec_to_nat]) (ue rfl),⟨by simp;omega,uc.2 ⟨ho,Xb.2 ⟨hvB,Ub⟩⟩,?_⟩,by simp;omega⟩
   rw [kb,List.length_append,List.length_singleton,Xx,hv,<-hval];simp [val]
  .have e:o.length=l.length:=by omega
   have hlt:val l / 2<4294967296 ^ l.length:=Nat.lt_of_le_of_lt (Nat.div_le_self _ _) (Vh hl);rw [e,Nat.mod_eq_of_lt hlt]at hval;rw [List.drop_of_length_le (by omega),List.nil_append,<-e]
   refine⟨o,post,rfl,by simp [Ua],ho,by omega,λpost'=>?_⟩
   simp only [go_sem];rw [hval];exact hK post'
theorem Wag(hΓ:Holds P Γ){f fw:Nat}(hw:Γ fw=.dat true zj)(hc:check P f=some (31,(xc fw).strip,[])):Sound P f (.own Uq):=by
 refine Qq hc hΓ (λd args h K hG=>?_);unfold Uq at hG;split at hG
 case h_3=>exact hG.elim
 case h_2=>
  rename_i r ver len b _;obtain⟨y,rfl,hy,l,post,rfl,hr,hl,hll,hle,hK⟩:=hG;refine⟨[r],[⟨(l++post).map wc,1,true⟩],[.one (.own 1048576 ver 1 0 l.length),wsA y],by simp,rfl,?_,?_,?_,λhfi=>⟨by simp,?_⟩⟩
  .intro i r' b h1 h2;cases i with
   | zero=>simp only [List.getElem?_cons_zero,Option.some.injEq]at h1 h2;subst h1 h2;exact⟨by rw [hr],rfl,of_eq_true (Wc _)⟩
   | succ i=>simp at h1
  .simp [exA,exC,exB,nameOf,pinA,wsA,ws]
  .intro a ha;simp only [List.mem_cons,List.not_mem_nil,or_false]at ha;rcases ha with rfl | rfl
   .simp [pasA,pasC,pasB,nameOf,pinA]
   .exact .slice _ (of_eq_true (Wc _))
  simp only [go_sem,xc,hr];intro h1;refine Wa (λp:List Nat×Nat=>⟨mkV [(0,.one (.own 1048576 ver 1 0 l.length)),(1,wsA y),(4,.one (.lit (.int .u64 p.2))),(8,.one (.lit (.int .i64 l.length))),(9,.one (.lit (.int .i64 p.1.length)))],
    mkH [(1048576,⟨ver,some ⟨(p.1++(l.drop p.1.length++post)).map wc,1,true⟩⟩)]⟩)
   (λp=>p.1.length<=l.length/\WL p.1/\p.2<=1/\val p.1+val (y.take p.1.length)=val (l.take p.1.length)+4294967296 ^ p.1.length*p.2) (λp=>l.length-p.1.length) ([],0) ?_ ?_ ?_
  .exact ja (by simp [bitvec_to_nat]) (ue (by simp))
  .simp [Ub,val]
  .rintro⟨o,c⟩ ⟨hoN,ho,hc1,hval⟩;simp only at hoN ho hc1 hval;have hw2:=qaU ho hl;simp only [go_sem,hr,hw,Uaw hoN,ZY hoN,Nat.le_add_right,W2,jY];refine⟨λhlt=>?_,λhge=>?_⟩
   .obtain⟨s,e1,e2,e3,e4⟩:=qM (Wb hl o.length) (Wb hy o.length) hc1;simp only [e1,e2,yaz,kaq _ hlt];refine⟨hw2,hy,⟨by omega,by decide,by decide⟩,hlt,by omega,by omega,(o++[s % 4294967296],1-s / 4294967296),ja (by simp [bitvec_to_nat,e2]) (by first | exact jS rfl | exact⟨yaB rfl,ua rfl,trivial⟩),⟨by simp;omega,uc.2 ⟨ho,Xb.2 ⟨Nat.mod_lt _ (by omega),Ub⟩⟩,e4,?_⟩,by simp;omega⟩
    simp only [List.length_append,List.length_cons,List.length_nil,Nat.zero_add,jb,kb,uf,Jj,Nat.mul_zero,Nat.add_zero,Nat.pow_succ];exact Uy hval e3
   .have e:o.length=l.length:=by omega
    have hv:=Jy ho hl e hle hval;have hd:=Yt ho;rw [hv,e]at hd;rw [hd]at hK;rw [List.drop_of_length_le (by omega),List.nil_append]
    exact hK
 case h_1=>
  rename_i r ver len r2 ver2 len2;obtain⟨l,post,y,posty,hne,rfl,hr,hl,hll,rfl,hr2,hy,hle,hK⟩:=hG;refine⟨[r,r2],[⟨(l++post).map wc,1,true⟩,⟨(y++posty).map wc,1,true⟩],[.one (.own 1048576 ver 1 0 l.length),.one (.own 1048577 ver2 1 0 y.length)],by simp [hne],rfl,?_,?_,?_,λhfi=>⟨by simp,?_⟩⟩
  .intro i r' b h1 h2;cases i with
   | zero=>simp only [List.getElem?_cons_zero,Option.some.injEq]at h1 h2;subst h1 h2;exact⟨by rw [hr],rfl,of_eq_true (Wc _)⟩
   | succ i=>
    cases i with
    | zero=>simp only [List.getElem?_cons_zero,List.getElem?_cons_succ,Option.some.injEq]at h1 h2;subst h1 h2;exact⟨by rw [hr2],rfl,of_eq_true (Wc _)⟩
    | succ i=>simp at h1
  .simp [exA,exC,exB,nameOf,pinA,wsA,ws]
  .intro a ha;simp only [List.mem_cons,List.not_mem_nil,or_false]at ha;rcases ha with rfl | rfl
   .simp [pasA,pasC,pasB,nameOf,pinA]
   .simp [pasA,pasC,pasB,nameOf,pinA]
  simp only [go_sem,xc,hr,hr2];intro h1;refine Wa (λp:List Nat×Nat=>⟨mkV [(0,.one (.own 1048576 ver 1 0 l.length)),(1,.one (.own 1048577 ver2 1 0 y.length)),(4,.one (.lit (.int .u64 p.2))),(8,.one (.lit (.int .i64 l.length))),(9,.one (.lit (.int .i64 p.1.length)))],
    mkH [(1048576,⟨ver,some ⟨(p.1++(l.drop p.1.length++post)).map wc,1,true⟩⟩),(1048577,⟨ver2,some ⟨(y++posty).map wc,1,true⟩⟩)]⟩)
   (λp=>p.1.length<=l.length/\WL p.1/\p.2<=1/\val p.1+val (y.take p.1.length)=val (l.take p.1.length)+4294967296 ^ p.1.length*p.2) (λp=>l.length-p.1.length) ([],0) ?_ ?_ ?_
  .exact ja (by simp [bitvec_to_nat]) ⟨ua (by simp),ua rfl,trivial⟩
  .simp [Ub,val]
  .rintro⟨o,c⟩ ⟨hoN,ho,hc1,hval⟩;simp only at hoN ho hc1 hval;have hw2:=qaU ho hl;simp only [go_sem,hr,hr2,hw,Uaw hoN,ZY hoN,Nat.le_add_right,W2,jY,List.length_append,List.take_left];refine⟨λhlt=>?_,λhge=>?_⟩
   .obtain⟨s,e1,e2,e3,e4⟩:=qM (Wb hl o.length) (Wb hy o.length) hc1;simp only [e1,e2,yaz,kaq _ hlt];refine⟨hw2,hy,⟨by omega,by decide,by decide⟩,hlt,by omega,by omega,(o++[s % 4294967296],1-s / 4294967296),ja (by simp [bitvec_to_nat,e2]) (by first | exact jS rfl | exact⟨yaB rfl,ua rfl,trivial⟩),⟨by simp;omega,uc.2 ⟨ho,Xb.2 ⟨Nat.mod_lt _ (by omega),Ub⟩⟩,e4,?_⟩,by simp;omega⟩
    simp only [List.length_append,List.length_cons,List.length_nil,Nat.zero_add,jb,kb,uf,Jj,Nat.mul_zero,Nat.add_zero,Nat.pow_succ];exact Uy hval e3
   .have e:o.length=l.length:=by omega
    have hv:=Jy ho hl e hle hval;have hd:=Yt ho;rw [hv,e]at hd;rw [hd]at hK;rw [List.drop_of_length_le (by omega),List.nil_append]
    exact hK
end Go.Abs
end
section
namespace Go.Abs
open Go.Num
variable {P:Program} {Γ:Nat->Spec}
def Vf(f0 f1 f2 f3 f4 f5:Nat):AC:=(.o [.m 4 (.c (.one .emp))] [0,1] (.o [.M 6 0,.u 7 (.callf f0 [(.t 6)]),.M 8 1,.u 9 (.callf f0 [(.t 8)]),.M 0 7,.M 1 9] [0,1] (.f (.o [.M 10 0,.Z 11 10,.I 12 .eql 11 0] [0,1,12] (.cond (.t 12) (.seq (.p [.M 13 1,.M 4 13]) .ret) .skip)) [0,1] (.f (.o [.M 14 1,.Z 15 14,.I 16 .eql 15 0] [0,1,16] (.cond (.t 16) (.seq (.p [.M 17 0,.M 4 17]) .ret) .skip)) [0,1] (.o [.N 5 0] [0,1,5] (.f (.block 0 (.loop (.f (.o [.M 18 0,.u 19 (.idx 1 (.t 18) (.i 0)),.F 20 1 19,.u 21 (.bin .and (.t 20) (.c (.one (.lit (.int .u32 1))))),.u 22 (.bin .eql (.t 21) (.c (.one (.lit (.int .u32 0))))),.M 23 22,.V 24 23 true 1,.w 25 23 true (.idx 1 (.t 24) (.i 0)),.U 26 23 true 1 false 25,.w 27 23 true (.bin .and (.t 26) (.c (.one (.lit (.int .u32 1))))),.w 28 23 true (.bin .eql (.t 27) (.c (.one (.lit (.int .u32 0))))),.P 29 23 28] [0,1,5,29] (.cond (.t 29) .skip (.exit 0))) [0,1,5] (.block 1 (.o [.M 30 0,.H 31 f1 30,.M 32 1,.H 33 f1 32,.M 0 31,.M 1 33] [0,1,5] (.p [.M 34 5,.I 35 .add 34 1,.M 5 35])))))) [0,1,5] (.f (.block 2 (.loop (.f (.o [.M 36 0,.Z 37 36,.I 38 .gtr 37 0] [0,1,5,38] (.cond (.t 38) .skip (.exit 2))) [0,1,5] (.block 3 (.f (.block 4 (.loop (.f (.o [.M 39 0,.u 40 (.idx 1 (.t 39) (.i 0)),.F 41 1 40,.u 42 (.bin .and (.t 41) (.c (.one (.lit (.int .u32 1))))),.u 43 (.bin .eql (.t 42) (.c (.one (.lit (.int .u32 0)))))] [0,1,5,43] (.cond (.t 43) .skip (.exit 4))) [0,1,5] (.block 5 (.p [.M 44 0,.H 45 f1 44,.M 0 45]))))) [0,1,5] (.f (.block 6 (.loop (.f (.o [.M 46 1,.u 47 (.idx 1 (.t 46) (.i 0)),.F 48 1 47,.u 49 (.bin .and (.t 48) (.c (.one (.lit (.int .u32 1))))),.u 50 (.bin .eql (.t 49) (.c (.one (.lit (.int .u32 0)))))] [0,1,5,50] (.cond (.t 50) .skip (.exit 6))) [0,1,5] (.block 7 (.p [.M 51 1,.H 52 f1 51,.M 1 52]))))) [0,1,5] (.f (.o [.M 53 0,.M 54 1,.D 55 f2 53 54,.I 56 .lss 55 0] [0,1,5,56] (.cond (.t 56) (.p [.M 57 1,.M 58 0,.M 0 57,.M 1 58]) .skip)) [0,1,5] (.o [.M 59 0,.M 60 1,.D 61 f3 59 60] [0,1,5] (.p [.M 62 0,.H 63 f4 62,.M 0 63]))))))))) [1,5] (.f (.o [.M 64 5,.N 65 0] [1,64,65] (.fz [1] (.block 8 (.loop (.o [.B 66 .lss 65 64] [1,64,65,66] (.f (.cond (.t 66) .skip (.exit 8)) [1,64,65] (.f (.block 9 (.p [.M 67 1,.M 68 1,.D 69 f5 67 68,.M 1 69])) [1,64,65] (.p [.I 70 .add 65 1,.M 65 70])))))))) [1] (.seq (.p [.M 71 1,.M 4 71]) .ret)))))))))
theorem uX(hΓ:Holds P Γ){f ft fh fc fk fu fp:Nat}(ht:Γ ft=.fresh 1 ju)(hh:Γ fh=.own Vj)(hcm:Γ fc=.dat true Wt)(hk:Γ fk=.own Uq)(hu:Γ fu=.own VR)(hp:Γ fp=.dat false Xp)
    (hc:check P f=some (72,(Vf ft fh fc fk fu fp).strip,[.tmp 4])):Sound P f (.dat false Jw):=by
  refine qa hc Zaj hΓ (λargs K hcl hfi hG=>?_);match args,hG with
  | [a,b],hG=>
    obtain⟨x,rfl,hx,y,rfl,hy,hxl,hyl,hK⟩:=hG;refine⟨by simp,?_⟩
    simp only [go_sem,Vf,ht,hh,hcm,hk,hu,hp];have hxv:=jp (Vh hx);have hyv:=jp (Vh hy);refine⟨hx,by omega,hy,by omega,λ_=>⟨λh0=>?_,λh0 _=>⟨λh1=>?_,λh1=>?_⟩⟩⟩
    . rw [Xn.1 h0,Nat.gcd_zero_left]at hK;exact hK
    . rw [Xn.1 h1,Nat.gcd_zero_right]at hK;exact hK
    rw [Xn]at h0 h1;refine Wa (λp:(Nat×List Nat)×(Nat×List Nat)×Nat=>⟨mkV [(0,.one (.own 7 1 1 0 (digs p.1.1).length)),(1,.one (.own 9 1 1 0 (digs p.2.1.1).length)),(5,.one (.lit (.int .i64 p.2.2)))],mkH [(7,⟨1,some ⟨(digs p.1.1++p.1.2).map wc,1,true⟩⟩),(9,⟨1,some ⟨(digs p.2.1.1++p.2.1.2).map wc,1,true⟩⟩)]⟩)
      (λp=>p.1.1≠0/\p.2.1.1≠0/\p.1.1<=val x/\p.2.1.1<=val y/\p.1.1*2 ^ p.2.2<=val x/\Nat.gcd p.1.1 p.2.1.1*2 ^ p.2.2=Nat.gcd (val x) (val y)) (λp=>p.1.1) ((val x,[]),(val y,[]),0) ?_ ?_ ?_
    . exact ja (by simp [bitvec_to_nat]) ⟨ua (by simp),ua (by simp),trivial⟩
    . exact⟨h0,h1,Nat.le_refl _,Nat.le_refl _,by simp,by simp⟩
    . rintro⟨⟨a,pa⟩,⟨b,pb⟩,k⟩ ⟨ha,hb,hax,hby,hak,hg⟩
      simp only at ha hb hax hby hak hg;have hkb:k<32*x.length:=waP (n:=val x) (Nat.le_trans (Nat.le_mul_of_pos_left _ (by omega)) hak) (Vh hx)
      have hal:=Nat.le_trans (Va hax) hxv;have hbl:=Nat.le_trans (Va hby) hyv;have hap:=Jg ha;have hbp:=Jg hb;simp only [go_sem,hh,hcm,hk,hu,hp,uh,vn ha,vn hb,hap,hbp,List.length_append];refine share4 (by omega) (by omega) (Nat.mod_lt _ (by omega)) (by omega) (by omega) (Nat.mod_lt _ (by omega)) (λhae hbe=>?_) (λhodd=>?_)
      . simp only [Vj]
        refine⟨digs a,pa,rfl,by simp [Ua],ka _,by omega,λpa'=>?_⟩
        refine⟨digs b,pb,rfl,by simp [upd,Ua],ka _,by omega,λpb'=>?_⟩
        simp only [go_sem,wa];refine⟨by omega,((a / 2,pa'),(b / 2,pb'),k+1),ja (by simp [bitvec_to_nat]) ⟨ua rfl,ua rfl,trivial⟩,⟨by simp only;omega,by simp only;omega,by simp only;omega,by simp only;omega,?_,Ja5 (by omega) (by omega) hg⟩,by simp only;omega⟩
        simp only;refine Nat.le_trans ?_ hak;rw [Nat.pow_succ,Nat.mul_comm (2 ^ k) 2,<-Nat.mul_assoc];exact Nat.mul_le_mul_right _ (by omega)
      . refine Wa (λp : Bool × (Nat × List Nat) × (Nat × List Nat) => match p.1 with
            | false=>⟨mkV [(0,.one (.own 7 1 1 0 (digs p.2.1.1).length)),(1,.one (.own 9 1 1 0 (digs p.2.2.1).length)),(5,.one (.lit (.int .i64 k)))],mkH [(7,⟨1,some ⟨(digs p.2.1.1++p.2.1.2).map wc,1,true⟩⟩),(9,⟨1,some ⟨(digs p.2.2.1++p.2.2.2).map wc,1,true⟩⟩)]⟩
            | true=>⟨mkV [(0,.one (.own 9 1 1 0 (digs p.2.1.1).length)),(1,.one (.own 7 1 1 0 (digs p.2.2.1).length)),(5,.one (.lit (.int .i64 k)))],mkH [(9,⟨1,some ⟨(digs p.2.1.1++p.2.1.2).map wc,1,true⟩⟩),(7,⟨1,some ⟨(digs p.2.2.1++p.2.2.2).map wc,1,true⟩⟩)]⟩)
          (λp=>p.2.2.1≠0/\(p.2.1.1 % 2≠0∨p.2.2.1 % 2≠0)/\(digs p.2.1.1).length<=17179869184/\(digs p.2.2.1).length<=17179869184/\Nat.gcd p.2.1.1 p.2.2.1*2 ^ k=Nat.gcd (val x) (val y)) (λp=>p.2.1.1+p.2.2.1) (false,(a,pa),(b,pb)) ?_ ?_ ?_
        . exact ja (by simp [bitvec_to_nat]) ⟨ua rfl,ua rfl,trivial⟩
        . exact⟨hb,by simp only;omega,by simp only;omega,by simp only;omega,hg⟩
        clear hax hby hak hal hbl hap hbp hg ha hb hodd;rintro⟨sw,⟨a,pa⟩,⟨b,pb⟩⟩ ⟨hb,hodd,hal,hbl,hg⟩;simp only at hb hodd hal hbl hg;cases sw with
        | false=>
          simp only [go_sem,hh,hcm,hk,hu,hp,uh,wa,List.length_append,Nat.le_add_right,List.take_left];refine λ_=>⟨λhap=>?_,λhap=>?_⟩
          . have ha:a≠0:=λe=>by rw [e,Xa]at hap;simp at hap
            refine Wa (λp:Nat×List Nat=>⟨mkV [(0,.one (.own 7 1 1 0 (digs p.1).length)),(1,.one (.own 9 1 1 0 (digs b).length)),(5,.one (.lit (.int .i64 k)))],mkH [(7,⟨1,some ⟨(digs p.1++p.2).map wc,1,true⟩⟩),(9,⟨1,some ⟨(digs b++pb).map wc,1,true⟩⟩)]⟩)
              (λp=>p.1≠0/\p.1<=a/\(p.1 % 2≠0∨b % 2≠0)/\Nat.gcd p.1 b*2 ^ k=Nat.gcd (val x) (val y)) (λp=>p.1) (a,pa) ?_ ?_ ?_
            . exact ja (by simp [bitvec_to_nat]) ⟨ua rfl,ua rfl,trivial⟩
            . exact⟨ha,Nat.le_refl _,hodd,hg⟩
            . rintro⟨a',pa⟩ ⟨ha',haa,hodd,hg⟩
              simp only at ha' haa hodd hg;have hap:=Jg ha';simp only [go_sem,hh,hcm,hk,hu,hp,uh,wa,List.length_append,Nat.le_add_right,List.take_left,vn ha',hap];refine⟨by omega,by omega,Nat.mod_lt _ (by omega),λhe=>?_,λhao=>?_⟩
              . simp only [Vj]
                refine⟨digs a',pa,rfl,by simp [Ua],ka _,by have:=Va haa;omega,λpa'=>?_⟩
                simp only [go_sem,hh,hcm,hk,hu,hp,uh,wa,List.length_append,Nat.le_add_right,List.take_left];refine⟨(a' / 2,pa'),ja (by simp [bitvec_to_nat]) ⟨ua rfl,ua rfl,trivial⟩,⟨by simp only;omega,by simp only;omega,.inr (by omega),?_⟩,by simp only;omega⟩
                rw [<-hg];simp only;rw [Qaz (by omega) (by omega)]
              . refine Wa (λp:Nat×List Nat=>⟨mkV [(0,.one (.own 7 1 1 0 (digs a').length)),(1,.one (.own 9 1 1 0 (digs p.1).length)),(5,.one (.lit (.int .i64 k)))],mkH [(7,⟨1,some ⟨(digs a'++pa).map wc,1,true⟩⟩),(9,⟨1,some ⟨(digs p.1++p.2).map wc,1,true⟩⟩)]⟩)
                  (λp=>p.1≠0/\p.1<=b/\Nat.gcd a' p.1*2 ^ k=Nat.gcd (val x) (val y)) (λp=>p.1) (b,pb) ?_ ?_ ?_
                . exact ja (by simp [bitvec_to_nat]) ⟨ua rfl,ua rfl,trivial⟩
                . exact⟨hb,Nat.le_refl _,hg⟩
                . rintro⟨b',pb⟩ ⟨hb',hbb,hg⟩
                  simp only at hb' hbb hg;have hbp:=Jg hb';simp only [go_sem,hh,hcm,hk,hu,hp,uh,wa,List.length_append,Nat.le_add_right,List.take_left,vn hb',hbp];refine⟨by omega,by omega,Nat.mod_lt _ (by omega),λhe=>?_,λhbo=>?_⟩
                  . simp only [Vj]
                    refine⟨digs b',pb,rfl,by simp [Ua],ka _,by have:=Va hbb;omega,λpb'=>?_⟩
                    simp only [go_sem,hh,hcm,hk,hu,hp,uh,wa,List.length_append,Nat.le_add_right,List.take_left];refine⟨(b' / 2,pb'),ja (by simp [bitvec_to_nat]) ⟨ua rfl,ua rfl,trivial⟩,⟨by simp only;omega,by simp only;omega,?_⟩,by simp only;omega⟩
                    rw [<-hg];simp only;rw [qaL (by omega) (by omega)]
                  . have hlb:=Va hbb
                    have hla:=Va haa;refine⟨ka _,ka _,λhlt=>?_,λhge=>?_⟩
                    . have hlt:=uy.1 hlt
                      simp only [Uq];have e:val (dig (digs b').length (val (digs b')-val (digs a')))=b' - a':=by
                        rw [Wg,wa,wa,Nat.mod_eq_of_lt];exact Nat.lt_of_le_of_lt (Nat.sub_le _ _) (jg b')
                      refine⟨digs b',pb,digs a',pa,by decide,rfl,by simp [Ua],ka _,by omega,rfl,by simp [Ua],ka _,by rw [wa,wa];omega,?_⟩
                      refine⟨dig (digs b').length (val (digs b')-val (digs a')),pb,(va _ _).symm,by simp [upd,Ua],kh _ _,by omega,λpost'=>?_⟩
                      simp only [go_sem,e];have hle:=Nat.le_trans (Va (Nat.sub_le b' a')) (Va hbb);refine⟨(true,(b' - a',post'),(a',pa)),ja (by simp [bitvec_to_nat]) ⟨ua rfl,ua rfl,trivial⟩,⟨ha',.inr (by simp only;omega),by simp only;omega,by simp only;omega,?_⟩,by simp only;omega⟩
                      simp only;rw [XJ (by omega),Nat.gcd_comm];exact hg
                    . have hge:=mt uy.2 hge
                      simp only [Uq];have e:val (dig (digs a').length (val (digs a')-val (digs b')))=a' - b':=by
                        rw [Wg,wa,wa,Nat.mod_eq_of_lt];exact Nat.lt_of_le_of_lt (Nat.sub_le _ _) (jg a')
                      refine⟨digs a',pa,digs b',pb,by decide,rfl,by simp [Ua],ka _,by omega,rfl,by simp [Ua],ka _,by rw [wa,wa];omega,?_⟩
                      refine⟨dig (digs a').length (val (digs a')-val (digs b')),pa,(va _ _).symm,by simp [upd,Ua],kh _ _,by omega,λpost'=>?_⟩
                      simp only [go_sem,e];have hle:=Nat.le_trans (Va (Nat.sub_le a' b')) (Va haa);refine⟨(false,(a' - b',post'),(b',pb)),ja (by simp [bitvec_to_nat]) ⟨ua rfl,ua rfl,trivial⟩,⟨hb',.inr (by simp only;omega),by simp only;omega,by simp only;omega,?_⟩,by simp only;omega⟩
                      simp only;rw [XJ (by omega)];exact hg
          . have ha:a=0:=Xn.1 (by omega)
            rw [ha,Nat.gcd_zero_left]at hg;refine Wa (λj:Nat=>⟨mkV [(1,.one (ws (digs (b*2 ^ j)))),(64,.one (.lit (.int .i64 k))),(65,.one (.lit (.int .i64 j)))],mkH []⟩) (λj=>j<=k) (λj=>k-j) 0 ?_ ?_ ?_
            . exact ja (by simp [bitvec_to_nat]) trivial
            . exact Nat.zero_le _
            . rintro j hj
              simp only [go_sem,hh,hcm,hk,hu,hp,uh,wa,List.length_append,Nat.le_add_right,List.take_left];refine⟨λhlt=>?_,λhge=>?_⟩
              . have hj1:b*2 ^ (j+1)<=val x:=by
                  refine Nat.le_trans (Nat.mul_le_mul_left b (Nat.pow_le_pow_right (by omega) hlt)) ?_
                  rw [hg];exact Nat.le_of_dvd (by omega) (Nat.gcd_dvd_left _ _)
                have e:b*2 ^ j+b*2 ^ j=b*2 ^ (j+1):=by rw [Nat.pow_succ,<-Nat.mul_assoc];omega
                have hl1:=Nat.le_trans (Va (show b*2 ^ j<=val x by omega)) hxv
                rw [e];refine⟨ka _,ka _,by omega,by omega,by omega,j+1,ja (by simp [bitvec_to_nat]) trivial,by omega,by omega⟩
              . have e:j=k:=by omega
                rw [e,hg];exact hK
        | true=>
          simp only [go_sem,hh,hcm,hk,hu,hp,uh,wa,List.length_append,Nat.le_add_right,List.take_left];refine λ_=>⟨λhap=>?_,λhap=>?_⟩
          . have ha:a≠0:=λe=>by rw [e,Xa]at hap;simp at hap
            refine Wa (λp:Nat×List Nat=>⟨mkV [(0,.one (.own 9 1 1 0 (digs p.1).length)),(1,.one (.own 7 1 1 0 (digs b).length)),(5,.one (.lit (.int .i64 k)))],mkH [(9,⟨1,some ⟨(digs p.1++p.2).map wc,1,true⟩⟩),(7,⟨1,some ⟨(digs b++pb).map wc,1,true⟩⟩)]⟩)
              (λp=>p.1≠0/\p.1<=a/\(p.1 % 2≠0∨b % 2≠0)/\Nat.gcd p.1 b*2 ^ k=Nat.gcd (val x) (val y)) (λp=>p.1) (a,pa) ?_ ?_ ?_
            . exact ja (by simp [bitvec_to_nat]) ⟨ua rfl,ua rfl,trivial⟩
            . exact⟨ha,Nat.le_refl _,hodd,hg⟩
            . rintro⟨a',pa⟩ ⟨ha',haa,hodd,hg⟩
              simp only at ha' haa hodd hg;have hap:=Jg ha';simp only [go_sem,hh,hcm,hk,hu,hp,uh,wa,List.length_append,Nat.le_add_right,List.take_left,vn ha',hap];refine⟨by omega,by omega,Nat.mod_lt _ (by omega),λhe=>?_,λhao=>?_⟩
              . simp only [Vj]
                refine⟨digs a',pa,rfl,by simp [Ua],ka _,by have:=Va haa;omega,λpa'=>?_⟩
                simp only [go_sem,hh,hcm,hk,hu,hp,uh,wa,List.length_append,Nat.le_add_right,List.take_left];refine⟨(a' / 2,pa'),ja (by simp [bitvec_to_nat]) ⟨ua rfl,ua rfl,trivial⟩,⟨by simp only;omega,by simp only;omega,.inr (by omega),?_⟩,by simp only;omega⟩
                rw [<-hg];simp only;rw [Qaz (by omega) (by omega)]
              . refine Wa (λp:Nat×List Nat=>⟨mkV [(0,.one (.own 9 1 1 0 (digs a').length)),(1,.one (.own 7 1 1 0 (digs p.1).length)),(5,.one (.lit (.int .i64 k)))],mkH [(9,⟨1,some ⟨(digs a'++pa).map wc,1,true⟩⟩),(7,⟨1,some ⟨(digs p.1++p.2).map wc,1,true⟩⟩)]⟩)
                  (λp=>p.1≠0/\p.1<=b/\Nat.gcd a' p.1*2 ^ k=Nat.gcd (val x) (val y)) (λp=>p.1) (b,pb) ?_ ?_ ?_
                . exact ja (by simp [bitvec_to_nat]) ⟨ua rfl,ua rfl,trivial⟩
                . exact⟨hb,Nat.le_refl _,hg⟩
                . rintro⟨b',pb⟩ ⟨hb',hbb,hg⟩
                  simp only at hb' hbb hg;have hbp:=Jg hb';simp only [go_sem,hh,hcm,hk,hu,hp,uh,wa,List.length_append,Nat.le_add_right,List.take_left,vn hb',hbp];refine⟨by omega,by omega,Nat.mod_lt _ (by omega),λhe=>?_,λhbo=>?_⟩
                  . simp only [Vj]
                    refine⟨digs b',pb,rfl,by simp [Ua],ka _,by have:=Va hbb;omega,λpb'=>?_⟩
                    simp only [go_sem,hh,hcm,hk,hu,hp,uh,wa,List.length_append,Nat.le_add_right,List.take_left];refine⟨(b' / 2,pb'),ja (by simp [bitvec_to_nat]) ⟨ua rfl,ua rfl,trivial⟩,⟨by simp only;omega,by simp only;omega,?_⟩,by simp only;omega⟩
                    rw [<-hg];simp only;rw [qaL (by omega) (by omega)]
                  . have hlb:=Va hbb
                    have hla:=Va haa;refine⟨ka _,ka _,λhlt=>?_,λhge=>?_⟩
                    . have hlt:=uy.1 hlt
                      simp only [Uq];have e:val (dig (digs b').length (val (digs b')-val (digs a')))=b' - a':=by
                        rw [Wg,wa,wa,Nat.mod_eq_of_lt];exact Nat.lt_of_le_of_lt (Nat.sub_le _ _) (jg b')
                      refine⟨digs b',pb,digs a',pa,by decide,rfl,by simp [Ua],ka _,by omega,rfl,by simp [Ua],ka _,by rw [wa,wa];omega,?_⟩
                      refine⟨dig (digs b').length (val (digs b')-val (digs a')),pb,(va _ _).symm,by simp [upd,Ua],kh _ _,by omega,λpost'=>?_⟩
                      simp only [go_sem,e];have hle:=Nat.le_trans (Va (Nat.sub_le b' a')) (Va hbb);refine⟨(false,(b' - a',post'),(a',pa)),ja (by simp [bitvec_to_nat]) ⟨ua rfl,ua rfl,trivial⟩,⟨ha',.inr (by simp only;omega),by simp only;omega,by simp only;omega,?_⟩,by simp only;omega⟩
                      simp only;rw [XJ (by omega),Nat.gcd_comm];exact hg
                    . have hge:=mt uy.2 hge
                      simp only [Uq];have e:val (dig (digs a').length (val (digs a')-val (digs b')))=a' - b':=by
                        rw [Wg,wa,wa,Nat.mod_eq_of_lt];exact Nat.lt_of_le_of_lt (Nat.sub_le _ _) (jg a')
                      refine⟨digs a',pa,digs b',pb,by decide,rfl,by simp [Ua],ka _,by omega,rfl,by simp [Ua],ka _,by rw [wa,wa];omega,?_⟩
                      refine⟨dig (digs a').length (val (digs a')-val (digs b')),pa,(va _ _).symm,by simp [upd,Ua],kh _ _,by omega,λpost'=>?_⟩
                      simp only [go_sem,e];have hle:=Nat.le_trans (Va (Nat.sub_le a' b')) (Va haa);refine⟨(true,(a' - b',post'),(b',pb)),ja (by simp [bitvec_to_nat]) ⟨ua rfl,ua rfl,trivial⟩,⟨hb',.inr (by simp only;omega),by simp only;omega,by simp only;omega,?_⟩,by simp only;omega⟩
                      simp only;rw [XJ (by omega)];exact hg
          . have ha:a=0:=Xn.1 (by omega)
            rw [ha,Nat.gcd_zero_left]at hg;refine Wa (λj:Nat=>⟨mkV [(1,.one (ws (digs (b*2 ^ j)))),(64,.one (.lit (.int .i64 k))),(65,.one (.lit (.int .i64 j)))],mkH []⟩) (λj=>j<=k) (λj=>k-j) 0 ?_ ?_ ?_
            . exact ja (by simp [bitvec_to_nat]) trivial
            . exact Nat.zero_le _
            . rintro j hj
              simp only [go_sem,hh,hcm,hk,hu,hp,uh,wa,List.length_append,Nat.le_add_right,List.take_left];refine⟨λhlt=>?_,λhge=>?_⟩
              . have hj1:b*2 ^ (j+1)<=val x:=by
                  refine Nat.le_trans (Nat.mul_le_mul_left b (Nat.pow_le_pow_right (by omega) hlt)) ?_
                  rw [hg];exact Nat.le_of_dvd (by omega) (Nat.gcd_dvd_left _ _)
                have e:b*2 ^ j+b*2 ^ j=b*2 ^ (j+1):=by rw [Nat.pow_succ,<-Nat.mul_assoc];omega
                have hl1:=Nat.le_trans (Va (show b*2 ^ j<=val x by omega)) hxv
                rw [e];refine⟨ka _,ka _,by omega,by omega,by omega,j+1,ja (by simp [bitvec_to_nat]) trivial,by omega,by omega⟩
              . have e:j=k:=by omega
                rw [e,hg];exact hK
end Go.Abs
end
section
namespace Go.Abs
open Go.Num
variable {P:Program} {Γ:Nat->Spec}
def we(f0:Nat):AC:=(.o [.G 4 [.z,.emp]] [0,1,4] (.o [.M 5 1,.u 6 (.callf f0 [(.t 5)]),.M 1 6] [0,1,4] (.f (.o [.M 7 1,.Z 8 7,.I 9 .eql 8 0] [0,1,4,9] (.cond (.t 9) (.seq (.p [.u 10 (.build [.z [.z,.emp]]),.S 2 4 10]) .ret) .skip)) [0,1,4] (.seq (.p [.M 11 0,.M 12 1,.u 13 (.build [.x 1 (.t 11),.x 1 (.t 12)]),.S 2 4 13]) .ret))))
def ke(f0 f1:Nat):AC:=(.o [.K 1 2 0,.N 2 0] [1] (.f (.o [.L 3 2 1,.H 4 f0 3,.Z 5 4,.I 6 .eql 5 0] [1,6] (.cond (.t 6) (.seq (.p [.N 2 0]) .ret) .skip)) [1] (.f (.o [.L 7 2 1,.H 8 f1 7] [8] (.cond (.t 8) (.seq (.p [.N 2 (-1)]) .ret) .skip)) [] (.seq (.p [.N 2 1]) .ret))))
def vf(f0 f1:Nat):AC:=(.o [.K 2 2 0,.K 3 2 1,.N 4 0] [2,3] (.seq (.p [.L 5 2 2,.L 6 2 3,.D 7 f0 5 6,.H 8 f1 7,.M 4 8]) .ret))
def Jf(f0 f1 f2 f3 f4 f5:Nat):AC:=(.o [.K 2 2 0,.K 3 2 1,.G 4 [.z,.emp]] [2,3,4] (.f (.y [.L 7 2 2,.H 8 f0 7,.L 9 2 3,.H 10 f0 9,.M 5 8,.M 6 10]) [2,3,4,5,6] (.f (.f (.y [.L 11 2 2,.H 12 f1 11,.L 13 2 3,.H 14 f1 13,.u 15 (.binb .eql (.t 12) (.t 14))]) [2,3,4,5,6,15] (.cond (.t 15) (.seq (.p [.L 16 2 2,.H 17 f1 16,.M 18 5,.M 19 6,.D 20 f2 18 19,.D 21 f3 17 20,.S 2 4 21]) .ret) .skip)) [2,3,4,5,6] (.f (.o [.M 22 5,.M 23 6,.D 24 f4 22 23,.I 25 .geq 24 0] [2,3,4,5,6,25] (.cond (.t 25) (.seq (.p [.L 26 2 2,.H 27 f1 26,.M 28 5,.M 29 6,.D 30 f5 28 29,.D 31 f3 27 30,.S 2 4 31]) .ret) .skip)) [3,4,5,6] (.seq (.p [.L 32 2 3,.H 33 f1 32,.M 34 6,.M 35 5,.D 36 f5 34 35,.D 37 f3 33 36,.S 2 4 37]) .ret)))))
def Yf(f0 f1:Nat):AC:=(.o [.K 2 2 0,.K 3 2 1,.G 4 [.z,.emp]] [2,3,4] (.seq (.y [.L 5 2 2,.L 6 2 3,.H 7 f0 6,.D 8 f1 5 7,.S 2 4 8]) .ret))
def jf(f0 f1 f2:Nat):AC:=(.o [.K 2 2 0,.K 3 2 1,.G 4 [.z,.emp]] [2,3,4] (.seq (.y [.L 5 2 2,.H 6 f0 5,.L 7 2 3,.H 8 f0 7,.D 9 f1 6 8,.u 10 (.call f2 [.fa,(.t 9)]),.S 2 4 10]) .ret))
theorem vQ(hΓ:Holds P Γ){f ft:Nat}(ht:Γ ft=.fresh 1 ju)(hc:check P f=some (14,(we ft).strip,[.cell 4 2 true])):Sound P f (.dat false kf):=by
 refine qa hc JJ hΓ (λargs K hcl hfi hG=>?_);match args,hG with
 | [a,m],hG=>
  obtain⟨b,rfl,hG⟩:=qs hG;obtain⟨l,rfl,hl,hlen,hK⟩:=hG;refine⟨by simp,?_⟩
  simp only [go_sem,we,ht];refine⟨hl,hlen,λ_=>⟨λh=>?_,λh=>?_⟩⟩
  .have h0:val l=0:=Xn.1 h;have e:zcan (sg b (val l))=zcan 0:=by rw [h0];unfold sg;split <;> rfl
   rw [e]at hK;have e2:(zcan 0)=(false,[]):=by simp [zcan,Xa]
   rw [e2]at hK;exact hK
  .rw [<-QG]at hK;have e:decide (0<(digs (val l)).length)=true:=by simp only [decide_eq_true_eq];omega
   rw [e,Bool.and_true]at hK;exact hK
theorem yL(hΓ:Holds P Γ){f fm fn:Nat}(hm:Γ fm=.dat false xi)(hn:Γ fn=.dat true zh)(hc:check P f=some (9,(ke fm fn).strip,[.tmp 2])):Sound P f (.dat true Xh):=by
 refine qa hc zG hΓ (λargs K hcl hfi hG=>?_);match args,hG with
 | [a],hG=>
  obtain⟨w,rfl,hw,hK⟩:=hG;refine⟨by simp,?_⟩
  simp only [go_sem,ke,hm,hn,hw];intro _;refine⟨λh=>?_,λh=>⟨λhb=>?_,λhb=>?_⟩⟩
  .have h0:zv w=0:=Yr.1 h;rw [h0]at hK;exact hK
  .rw [Int.sign_eq_neg_one_of_neg hb]at hK;exact hK
  .have h0:zv w≠0:=λe=>h (Yr.2 e);rw [Int.sign_eq_one_of_pos (by omega)]at hK;exact hK
theorem yR(hΓ:Holds P Γ){f fn fa:Nat}(hn:Γ fn=.dat false Vs)(ha:Γ fa=.dat false Xs)(hc:check P f=some (9,(Yf fn fa).strip,[.cell 4 2 true])):Sound P f (.dat false YF):=by
 refine qa hc zar hΓ (λargs K hcl hfi hG=>?_);match args,hG with
 | [a,b],hG=>
  obtain⟨v,rfl,hv,w,rfl,hw,hz,hz',hK⟩:=hG;refine⟨by simp,?_⟩
  simp only [go_sem,Yf,hn,ha,hw,hv];refine⟨by omega,hz,by rw [X1];exact hz',?_⟩
  rw [<-Int.sub_eq_add_neg];exact hK
theorem zS(hΓ:Holds P Γ){f fs fg:Nat}(hs:Γ fs=.dat false YF)(hg:Γ fg=.dat true Xh)(hc:check P f=some (9,(vf fs fg).strip,[.tmp 4])):Sound P f (.dat true kr):=by
 refine qa hc YW hΓ (λargs K hcl hfi hG=>?_);match args,hG with
 | [a,b],hG=>
  obtain⟨v,rfl,hv,w,rfl,hw,hz,hz',hz2,hK⟩:=hG;refine⟨by simp,?_⟩
  simp only [go_sem,vf,hs,hg,hw,hv];refine⟨hz,hz',?_⟩;have e:Int.sign (zv v-zv w)=ordI (zv v) (zv w):=by
   unfold ordI;split
   .exact Int.sign_eq_neg_one_of_neg (by omega)
   .split
    .exact Int.sign_eq_one_of_pos (by omega)
    .rw [show zv v-zv w=0 by omega];rfl
  rw [e];exact hK
theorem wO(hΓ:Holds P Γ){f fm fg fw:Nat}(hm:Γ fm=.dat false xi)(hg:Γ fg=.dat false Jw)(hw' : Γ fw=.dat false kf)(hc:check P f=some (11,(jf fm fg fw).strip,[.cell 4 2 true])):Sound P f (.dat false Yq):=by
 refine qa hc yQ hΓ (λargs K hcl hfi hG=>?_);match args,hG with
 | [a,b],hG=>
  obtain⟨v,rfl,hv,w,rfl,hw,hz,hz',hK⟩:=hG;refine⟨by simp,?_⟩
  simp only [go_sem,jf,hm,hg,hw',hw,hv,wa];have hle:(digs ((zv v).natAbs.gcd (zv w).natAbs)).length<=17179869184:=by
   rcases Nat.eq_zero_or_pos (zv v).natAbs with h | h
   .rw [h,Nat.gcd_zero_left];exact hz'
   .exact Nat.le_trans (Va (Nat.le_of_dvd h (Nat.gcd_dvd_left _ _))) hz
  exact⟨ka _,ka _,hz,hz',ka _,by omega,hK⟩
theorem jP(hΓ:Holds P Γ){f fn fm fp fw fc fl:Nat}(hn:Γ fn=.dat true zh)(hm:Γ fm=.dat false xi)(hp:Γ fp=.dat false Xp)(hw' : Γ fw=.dat false kf)(hc' : Γ fc=.dat true Wt)(hl:Γ fl=.dat false Wq)(hc:check P f=some (38,(Jf fm fn fp fw fc fl).strip,[.cell 4 2 true])):Sound P f (.dat false Xs):=by
 refine qa hc WS hΓ (λargs K hcl hfi hG=>?_);match args,hG with
 | [a,b],hG=>
  obtain⟨v,rfl,hv,w,rfl,hw,hz,hz',hK⟩:=hG;refine⟨by simp,?_⟩
  simp only [go_sem,Jf,hn,hm,hp,hw',hc',hl,hw,hv];simp only [wa];have hsz:=VJ (zv v) (zv w);refine⟨λh=>⟨ka _,ka _,hz,hz',ka _,?_,?_⟩,λh=>⟨ka _,ka _,λho=>⟨ka _,ka _,by unfold zs at hz;omega,?_,ka _,?_,?_⟩,λho=>⟨ka _,ka _,by unfold zs at hz';omega,?_,ka _,?_,?_⟩⟩⟩
  .have e:=Yp (ye h);rw [show(zv v).natAbs+(zv w).natAbs=(zv v+zv w).natAbs by have:=ye h;omega]
   unfold zs at *;omega
  .rw [Yp (ye h)];exact hK
  .exact(yq.1 ho)
  .have:=Va (Nat.sub_le (zv v).natAbs (zv w).natAbs);unfold zs at *;omega
  .have h1:=yq.1 ho;rw [jab (Jk h) h1];exact hK
  .have:=mt yq.2 ho;omega
  .have:=Va (Nat.sub_le (zv w).natAbs (zv v).natAbs);unfold zs at *;omega
  .have h1:=mt yq.2 ho;rw [jab (λe=>Jk h e.symm) (by omega),Int.add_comm];exact hK
end Go.Abs
end
section
namespace Go.Abs
noncomputable section
inductive Tr where
 | e
 | l (a:AV)
 | n (x y:Tr)
 deriving Inhabited
def sel{α:Type}(b:Bool)(x y:α):α:=@Bool.rec (λ_=>α) y x b
def obind{α β:Type}(x:Option α)(f:α->Option β):Option β:=@Option.rec α (λ_=>Option β) none f x
def omap{α β:Type}(f:α->β)(x:Option α):Option β:=@Option.rec α (λ_=>Option β) none (λa=>some (f a)) x
def guardE{α:Type}(b:Bool)(x:Option α):Option α:=@Bool.rec (λ_=>Option α) none x b
def Tr.get(t:Tr):Nat->AV:=@Tr.rec (λ_=>Nat->AV) (λ_=>.any) (λa _=>a)
 (λ_ _ gx gy k=>sel (Nat.beq (Nat.mod k 2) 0) (gx (Nat.div k 2)) (gy (Nat.div k 2))) t
def Tr.lef(t:Tr):Tr:=@Tr.rec (λ_=>Tr) .e (λa=>.l a) (λx _ _ _=>x) t
def Tr.rig(t:Tr):Tr:=@Tr.rec (λ_=>Tr) .e (λa=>.l a) (λ_ y _ _=>y) t
def Tr.set(d:Nat):Tr->Nat->AV->Tr:=@Nat.rec (λ_=>Tr->Nat->AV->Tr) (λ_ _ a=>.l a)
 (λ_ st t k a=>sel (Nat.beq (Nat.mod k 2) 0) (.n (st t.lef (Nat.div k 2) a) t.rig) (.n t.lef (st t.rig (Nat.div k 2) a))) d
def dep:Nat:=8
def top:Nat:=256
structure T where
 v:Tr
 x:List Tr
 h:List (Nat×HB)
 n:Nat
 deriving Inhabited
def hget(h:List (Nat×HB))(t:Nat):HB:=@List.rec (Nat×HB) (λ_=>HB) ⟨0,none⟩ (λp _ g=>sel (Nat.beq t p.1) p.2 g) h
def hset(h:List (Nat×HB))(t:Nat)(c:HB):List (Nat×HB):=@List.rec (Nat×HB) (λ_=>List (Nat×HB)) [(t,c)]
 (λp r g=>sel (Nat.beq t p.1) ((t,c)::r) (p::g)) h
def farV(l:List Tr):Nat->AV:=@List.rec Tr (λ_=>Nat->AV) (λ_=>.any) (λv _ g k=>sel (Nat.ble k 255) (v.get k) (sel (Nat.ble pinA k) (g (k-pinA)) .any)) l
def T.get(t:T)(k:Nat):AV:=sel (Nat.ble k 255) (t.v.get k) (farV (t.v::t.x) k)
def T.ev(t:T):Opd->AV
 | .t n=>t.get n
 | .c a=>a
def T.put(t:T)(d:Option Nat)(x:AV):T:=@Option.rec Nat (λ_=>T) t (λd=>⟨t.v.set dep d x,t.x,t.h,t.n⟩) d
def HB.of(b:HB)(ver:Nat):Option Blk:=sel (Nat.beq b.ver ver) b.blk none
def T.hat(t:T)(r ver:Nat):Option Blk:=(hget t.h r).of ver
def T.setB(t:T)(r ver:Nat)(b:Blk):T:={ t with h:=hset t.h r ⟨ver,some b⟩ }
section
variable {α:Type}
def fNat(k:Nat->α):Nat->α
 | 0=>k 0
 | n+1=>k (n+1)
def fInt(k:Int->α):Int->α
 | .ofNat n=>fNat (λn=>k (.ofNat n)) n
 | .negSucc n=>fNat (λn=>k (.negSucc n)) n
def fBool(k:Bool->α):Bool->α
 | true=>k true
 | false=>k false
def fKind(k:IntKind->α):IntKind->α
 | .i8=>k .i8
 | .i16=>k .i16
 | .i32=>k .i32
 | .i64=>k .i64
 | .u8=>k .u8
 | .u16=>k .u16
 | .u32=>k .u32
 | .u64=>k .u64
def fVal(k:Value->α):Value->α
 | .int i n=>fKind (λi=>fInt (λn=>k (.int i n)) n) i
 | .bool b=>fBool (λb=>k (.bool b)) b
 | v=>k v
mutual
def fC:C->(C->α)->α
 | .lit v,k=>fVal (λv=>k (.lit v)) v
 | .slice es,k=>fR es λes=>k (.slice es)
 | .full es,k=>fR es λes=>k (.full es)
 | .emp,k=>k .emp
 | .ref cs,k=>fL cs λcs=>k (.ref cs)
 | .clo f cs,k=>fL cs λcs=>k (.clo f cs)
 | c,k=>k c
def fL:List C->(List C->α)->α
 | [],k=>k []
 | c::l,k=>fC c λc=>fL l λl=>k (c::l)
def fR:List (List C)->(List (List C)->α)->α
 | [],k=>k []
 | e::l,k=>fL e λe=>fR l λl=>k (e::l)
end
mutual
def fA:AV->(AV->α)->α
 | .one c,k=>fC c λc=>k (.one c)
 | .agg cs,k=>fL cs λcs=>k (.agg cs)
 | .tup l,k=>fAs l λl=>k (.tup l)
 | .any,k=>k .any
def fAs:List AV->(List AV->α)->α
 | [],k=>k []
 | a::l,k=>fA a λa=>fAs l λl=>k (a::l)
end
end
mutual
def deepC(h:List (Nat×HB)):Nat->C->Option C
 | 0,_=>none
 | n+1,.own r ver _ off len=>
  match hget h r with
  | ⟨v,some b⟩=>cond (Nat.beq v ver && Nat.ble (off+len) b.es.length) ((deepR h n ((b.es.drop off).take len)).map .slice) none
  | ⟨_,none⟩=>none
 | n+1,.ptr r ver i off=>
  match hget h r with
  | ⟨v,some b⟩=>match b.es[i]? with
   | some e=>cond (Nat.beq v ver && Nat.ble off e.length) ((deepL h n (e.drop off)).map .ref) none
   | none=>none
  | ⟨_,none⟩=>none
 | n+1,.clo f cs=>(deepL h n cs).map (.clo f)
 | _+1,.emp=>some (.slice [])
 | _+1,.full es=>some (.slice es)
 | _+1,c=>some c
def deepL(h:List (Nat×HB)):Nat->List C->Option (List C)
 | 0,_=>none
 | _+1,[]=>some []
 | n+1,c::l=>match deepC h n c with
  | some c'=>(deepL h n l).map (c'::·)
  | none=>none
def deepR(h:List (Nat×HB)):Nat->List (List C)->Option (List (List C))
 | 0,_=>none
 | _+1,[]=>some []
 | n+1,e::l=>match deepL h n e with
  | some e'=>(deepR h n l).map (e'::·)
  | none=>none
end
def deepF:Nat:=4096
def deepA(h:List (Nat×HB)):AV->Option AV
 | .one c=>(deepC h deepF c).map .one
 | .agg cs=>(deepL h deepF cs).map .agg
 | .any=>some .any
 | .tup _=>none
def deepAs(h:List (Nat×HB)):List AV->Option (List AV)
 | []=>some []
 | a::l=>match deepA h a with
  | some a'=>(deepAs h l).map (a'::·)
  | none=>none
def frzH:List Nat->List (Nat×HB)->List (Nat×HB)
 | [],h=>h
 | r::l,h=>frzH l (match hget h r with
  | ⟨v,some b⟩=>hset h r ⟨v,some { b with live:=false }⟩
  | ⟨_,none⟩=>h)
def spF(f:Nat):Bool:=Nat.beq f 260
def sameK:IntKind->IntKind->Bool
 | .i8,.i8 | .i16,.i16 | .i32,.i32 | .i64,.i64 | .u8,.u8 | .u16,.u16 | .u32,.u32 | .u64,.u64=>true
 | _,_=>false
def litE(v:Value):Option AV:=some (.one (.lit v))
def intE(k:IntKind)(n:Int):Option AV:=some (.one (.lit (.int k n)))
def boolE(b:Bool):Option AV:=some (.one (.lit (.bool b)))
def ile:Int->Int->Bool
 | .ofNat a,.ofNat b=>Nat.ble a b
 | .negSucc _,.ofNat _=>true
 | .ofNat _,.negSucc _=>false
 | .negSucc a,.negSucc b=>Nat.ble b a
def ilt(a b:Int):Bool:=!ile b a
def ieq:Int->Int->Bool
 | .ofNat a,.ofNat b=>Nat.beq a b
 | .negSucc a,.negSucc b=>Nat.beq a b
 | _,_=>false
def i64:Int->Bool
 | .ofNat a=>Nat.ble a 9223372036854775807
 | .negSucc a=>Nat.ble a 9223372036854775807
def numE:IntKind->Int->Option AV
 | .i64,n=>guardE (i64 n) (intE .i64 n)
 | .u64,n=>intE .u64 (n % 18446744073709551616)
 | .u32,n=>intE .u32 (n % 4294967296)
 | .u8,n=>intE .u8 (n % 256)
 | _,_=>none
def arithE:BinOp->IntKind->Int->Int->Option AV
 | .add,k,a,b=>numE k (a+b)
 | .sub,k,a,b=>numE k (a-b)
 | .mul,k,a,b=>numE k (a*b)
 | .quo,k,a,b=>guardE (ile 0 a && ilt 0 b) (numE k (a / b))
 | .rem,k,a,b=>guardE (ile 0 a && ilt 0 b) (intE k (a % b))
 | .eql,_,a,b=>boolE (ieq a b)
 | .neq,_,a,b=>boolE (!ieq a b)
 | .lss,_,a,b=>boolE (ilt a b)
 | .leq,_,a,b=>boolE (ile a b)
 | .gtr,_,a,b=>boolE (ilt b a)
 | .geq,_,a,b=>boolE (ile b a)
 | _,_,_,_=>none
def binE(op:BinOp):AV->AV->Option AV
 | .one (.lit (.int k a)),.one (.lit (.int k' b))=>
  match op with
  | .shl=>guardE (ile 0 a && ile 0 b && ile b k.bits) (numE k (a*2 ^ b.toNat))
  | .shr=>guardE (ile 0 a && ile 0 b && ile b k.bits) (intE k (a / 2 ^ b.toNat))
  | op=>guardE (sameK k k') (arithE op k a b)
 | _,_=>none
def binbE:BinOp->AV->AV->Option AV
 | .eql,.one (.lit (.bool a)),.one (.lit (.bool b))=>boolE (a == b)
 | .neq,.one (.lit (.bool a)),.one (.lit (.bool b))=>boolE (!(a == b))
 | _,_,_=>none
def nilE:Value->Bool->Option AV
 | .nilIface,neg=>boolE (!neg)
 | .iface _ _,neg=>boolE neg
 | _,_=>none
def binnE:BinOp->Bool->AV->AV->Option AV
 | .eql,true,.one (.lit a),.one (.lit .nilIface)=>nilE a false
 | .neq,true,.one (.lit a),.one (.lit .nilIface)=>nilE a true
 | _,_,_,_=>none
def unE:UnOp->AV->Option AV
 | .not,.one (.lit (.bool b))=>boolE (!b)
 | .neg,.one (.lit (.int k a))=>numE k (-a)
 | _,_=>none
def convE(k:IntKind):AV->Option AV
 | .one (.lit (.int _ a))=>numE k a
 | _=>none
def ifaceE(t:TypeId):AV->Option AV
 | .one (.lit (.int k n))=>litE (.iface t (.int k n))
 | _=>none
def cellsE:AV->Option (List C)
 | .one c=>some [c]
 | .agg cs=>some cs
 | _=>none
def segsE(t:T)(l:List Seg):Option (List C):=@List.rec Seg (λ_=>Option (List C)) (some [])
 (λsg _ g=>@Seg.rec (λ_=>Option (List C)) (λcs=>omap (cs++·) g) (λn o=>obind (cellsE (t.ev o)) λcs=>guardE (Nat.beq cs.length n) (omap (cs++·) g)) sg) l
def rowsE(t:T)(z:Nat)(l:List (List Seg)):Option (List (List C)):=@List.rec (List Seg) (λ_=>Option (List (List C))) (some [])
 (λsg _ g=>obind (segsE t sg) λcs=>guardE (Nat.beq cs.length z) (omap (cs::·) g)) l
def oneE:AV->Option C
 | .one c=>some c
 | _=>none
def capE(t:T)(l:List Opd):Option (List C):=@List.rec Opd (λ_=>Option (List C)) (some []) (λo _ g=>obind (oneE (t.ev o)) λc=>omap (c::·) g) l
def ldE(n:Nat):Bool->List C->Option AV
 | true,cs=>guardE (Nat.ble n cs.length) (some (.agg (cs.take n)))
 | false,c::_=>some (.one c)
 | false,[]=>none
def loadE(n:Nat)(g:Bool)(t:T):AV->Option AV
 | .one (.ref cs)=>ldE n g cs
 | .one (.ptr r ver i off)=>match t.hat r ver with
  | some b=>match b.es[i]? with
   | some e=>ldE n g (e.drop off)
   | none=>none
  | none=>none
 | _=>none
def baseE:Option Nat->AV->Bool
 | none,_=>true
 | some b,.one (.ptr r _ _ _)=>Nat.beq r b
 | some _,.one (.ref _)=>true
 | _,_=>false
def stE(n:Nat)(t:T)(x:AV):AV->Option T
 | .one (.ptr r ver i off)=>match cellsE x,t.hat r ver with
  | some xs,some b=>match b.es[i]? with
   | some e=>guardE (b.live && Nat.beq xs.length n && Nat.ble (off+n) e.length) (some (t.setB r ver ⟨b.es.set i (splice e off n xs),b.z,b.live⟩))
   | none=>none
  | _,_=>none
 | _=>none
def newE(t:T)(b:Blk)(a:Nat->Nat->AV):Option Nat->Option T
 | some d=>match hget t.h d with
  | ⟨ver,none⟩=>some (({ t with h:=hset t.h d ⟨ver+1,some b⟩ }).put (some d) (a d (ver+1)))
  | ⟨_,some _⟩=>none
 | none=>none
def idxE(z:Nat):AV->AV->Option AV
 | .one (.lit (.int _ i)),.one (.slice es)=>match es[i.toNat]? with
  | some e=>guardE (ile 0 i && Nat.beq e.length z) (some (.one (.ref e)))
  | none=>none
 | .one (.lit (.int _ i)),.one (.full es)=>match es[i.toNat]? with
  | some e=>guardE (ile 0 i && Nat.beq e.length z) (some (.one (.ref e)))
  | none=>none
 | .one (.lit (.int _ i)),.one (.own r ver z' off len)=>guardE (ile 0 i && ilt i len && Nat.beq z z') (some (.one (.ptr r ver (off+i.toNat) 0)))
 | _,_=>none
def bndE(n:Nat)(x:Option AV):Option AV:=guardE (Nat.ble n maxLenA) x
def lenE:AV->Option AV
 | .one (.slice es)=>bndE es.length (intE .i64 es.length)
 | .one (.full es)=>bndE es.length (intE .i64 es.length)
 | .one .emp=>intE .i64 0
 | .one (.own _ _ _ _ len)=>bndE len (intE .i64 len)
 | _=>none
def snilE(neg:Bool):AV->Option AV
 | .one (.slice (_::_))=>boolE neg
 | .one (.full (_::_))=>boolE neg
 | .one (.own _ _ _ _ (_+1))=>boolE neg
 | _=>none
def bE(t:T)(dflt:Nat):Option Opd->Option Nat
 | none=>some dflt
 | some a=>match t.ev a with
  | .one (.lit (.int _ i))=>guardE (ile 0 i) (some i.toNat)
  | _=>none
def allLen(z:Nat):List (List C)->Bool
 | []=>true
 | e::l=>Nat.beq e.length z && allLen z l
def sliceE(z:Nat)(t:T)(lo hi:Option Opd):AV->Option AV
 | .one (.slice es)=>match bE t es.length hi,bE t 0 lo with
  | some h,some l=>guardE (Nat.ble l h && Nat.ble h es.length && allLen z es) (some (.one (.slice ((es.drop l).take (h-l)))))
  | _,_=>none
 | .one (.full es)=>match bE t es.length hi,bE t 0 lo with
  | some h,some l=>guardE (Nat.ble l h && Nat.ble h es.length && allLen z es) (some (.one (.slice ((es.drop l).take (h-l)))))
  | _,_=>none
 | .one (.own r ver z' off len)=>match bE t len hi,bE t 0 lo with
  | some h,some l=>guardE (Nat.ble l h && Nat.ble h len && Nat.beq z z') (some (.one (.own r ver z (off+l) (h-l))))
  | _,_=>none
 | .one .emp=>match bE t 0 hi,bE t 0 lo with
  | some h,some l=>guardE (Nat.beq l 0 && Nat.beq h 0) (some (.one .emp))
  | _,_=>none
 | _=>none
def elemsE(t:T):AV->Option (List (List C))
 | .one (.slice es)=>some es
 | .one (.full es)=>some es
 | .one .emp=>some []
 | .one (.own r ver _ off len)=>match t.hat r ver with
  | some b=>guardE (Nat.ble (off+len) b.es.length) (some ((b.es.drop off).take len))
  | none=>none
 | _=>none
def appE(z:Nat)(d:Option Nat)(t:T)(x y:AV):Option T:=
 match elemsE t y with
 | none=>none
 | some ys=>guardE (allLen z ys) (match x with
  | .one .emp=>guardE (Nat.ble ys.length roomA) (newE t ⟨ys,z,true⟩ (λd ver=>.one (.own d ver z 0 ys.length)) d)
  | .one (.full es)=>match ys with
   | []=>newE t ⟨[],z,true⟩ (λ_ _=>.one (.full es)) d
   | y::ys=>guardE (Nat.ble (es.length+(y::ys).length) roomA && allLen z es) (newE t ⟨es++y::ys,z,true⟩ (λd ver=>.one (.own d ver z 0 (es.length+(y::ys).length))) d)
  | .one (.own r ver z' 0 len)=>match t.hat r ver with
   | some b=>guardE (b.live && Nat.beq z z' && Nat.beq z b.z && Nat.ble len b.es.length && Nat.ble (len+ys.length) roomA && Nat.ble (r+1) pinA)
     (some ((t.setB r (ver+1) ⟨b.es.take len++ys,z,true⟩).put d (.one (.own r (ver+1) z 0 (len+ys.length)))))
   | none=>none
  | _=>none)
def sopE(k:Nat)(l:List AV):Option AV:=
 match (l.mapM litV).bind (sopV k) with
 | some v=>litE v
 | none=>none
def fldE(n:Nat)(g:Bool)(off:Nat):AV->Option AV
 | .agg cs=>guardE (Nat.ble off cs.length) (ldE n g (cs.drop off))
 | _=>none
def faE(off:Nat):AV->Option AV
 | .one (.ptr r ver i o)=>some (.one (.ptr r ver i (o+off)))
 | .one (.ref cs)=>guardE (Nat.ble off cs.length) (some (.one (.ref (cs.drop off))))
 | _=>none
def nilckE:AV->Option AV
 | .one (.ptr r ver i off)=>some (.one (.ptr r ver i off))
 | .one (.ref cs)=>some (.one (.ref cs))
 | _=>none
def extE(i:Nat):AV->Option AV
 | .tup l=>l[i]?
 | _=>none
def tassE(t:TypeId)(zero:AV):AV->Option AV
 | .one (.lit (.iface t' u))=>cond (Nat.beq t' t) (guardE (isCell u) (some (.tup [.one (.lit u),.one (.lit (.bool true))]))) (some (.tup [zero,.one (.lit (.bool false))]))
 | .one (.lit .nilIface)=>some (.tup [zero,.one (.lit (.bool false))])
 | _=>none
def atE(n:Nat):AV->Option Nat
 | .one (.lit (.int _ j))=>guardE (ile 0 j && ilt j n) (some j.toNat)
 | _=>none
def rslE(z n:Nat):AV->Option AV
 | .one (.ref cs)=>guardE (Nat.beq cs.length (n*z) && Nat.ble n roomA) (some (.one (.full (chunk z n cs))))
 | _=>none
def clrE(z:Nat)(t:T):AV->AV->Option T
 | .one (.own r ver z' off len),.agg zs=>match t.hat r ver with
  | some b=>guardE (b.live && Nat.beq z z' && Nat.beq z b.z && Nat.beq zs.length z && Nat.ble (off+len) b.es.length)
    (some (t.setB r ver ⟨b.es.take off++(List.replicate len zs++b.es.drop (off+len)),z,true⟩))
  | none=>none
 | _,_=>none
def cpyE(z:Nat)(t:T)(ys:List (List C)):AV->Option T
 | .one (.own r ver z' off len)=>match t.hat r ver with
  | some b=>guardE (b.live && Nat.beq z z' && Nat.beq z b.z && Nat.ble ys.length len && Nat.ble (off+len) b.es.length)
    (some (t.setB r ver ⟨nrmR (b.es.take off++(ys++b.es.drop (off+ys.length))),z,true⟩))
  | none=>none
 | _=>none
def maxE(pick:Int->Int->Int)(t:T):List Opd->IntKind->Int->Option AV
 | [],k,a=>intE k a
 | y::r,k,a=>match t.ev y with
  | .one (.lit (.int k' b))=>guardE (sameK k k') (maxE pick t r k (pick a b))
  | _=>none
def mmE(pick:Int->Int->Int)(t:T):List Opd->Option AV
 | []=>none
 | x::r=>match t.ev x with
  | .one (.lit (.int k a))=>maxE pick t r k a
  | _=>none
def appIsE(b:Nat)(d:Option Nat):AV->AV->Bool
 | .one (.own r _ _ _ _),.one (.full _)=>Nat.beq r b
 | .one .emp,.one (.full _)=>match d with
  | some d=>Nat.beq d b
  | none=>false
 | _,_=>false
structure Lv where
 dat:Nat->List AV->Option AV
 inl:Nat->List AV->T->Option (AV×T)
 look:Nat->List (List C)->List AV->Option AV
 fresh:Nat->List AV->Option (List (List C))
 z:Nat->Nat
def flatC:C->Option C
 | .own ..=>none
 | .ptr ..=>none
 | .emp=>some (.slice [])
 | .full es=>some (.slice es)
 | .clo f []=>some (.clo f [])
 | .clo _ _=>none
 | c=>some c
def flatL:List C->Option (List C)
 | []=>some []
 | c::l=>match flatC c with
  | some c'=>(flatL l).map (c'::·)
  | none=>none
def flatA:AV->Option AV
 | .one c=>(flatC c).map .one
 | .agg cs=>(flatL cs).map .agg
 | _=>none
def flatAs:List AV->Option (List AV)
 | []=>some []
 | a::l=>match flatA a with
  | some a'=>(flatAs l).map (a'::·)
  | none=>none
def ownE:List C->List Nat
 | []=>[]
 | c::l=>ownC c++ownE l
def ownEs:List (List C)->List Nat
 | []=>[]
 | e::l=>ownE e++ownEs l
def cleanE:Nat->C->Bool
 | 0,_=>false
 | _+1,.own ..=>false
 | _+1,.ptr ..=>false
 | n+1,.slice es=>es.all λe=>e.all (cleanE n)
 | n+1,.full es=>es.all λe=>e.all (cleanE n)
 | n+1,.ref cs=>cs.all (cleanE n)
 | n+1,.clo _ cs=>cs.all (cleanE n)
 | n+1,.lit (.chan _)=>Nat.ble 3 n
 | _+1,_=>true
def dataC(h:List (Nat×HB)):C->Option C
 | .own r ver z off len=>
  match hget h r with
  | ⟨v,some b⟩=>
   let es:=(b.es.drop off).take len
   cond (Nat.beq v ver && Nat.ble (off+len) b.es.length && es.all λe=>e.all (cleanE 32)) (some (.slice es)) none
  | ⟨_,none⟩=>none
 | .ptr r ver i off=>
  match hget h r with
  | ⟨v,some b⟩=>match b.es[i]? with
   | some e=>cond (Nat.beq v ver && Nat.ble off e.length && (e.drop off).all (cleanE 32)) (some (.ref (e.drop off))) none
   | none=>none
  | ⟨_,none⟩=>none
 | c=>flatC c
def callE(L:Lv)(dr:Bool)(d:Option Nat)(t:T)(f:Nat)(args:List AV):Option T:=
 match flatAs args with
 | some as=>fAs as λas=>match L.dat f as with
  | some r=>fA r λr=>some (t.put d r)
  | none=>none
 | none=>cond dr none (match L.inl f args t with
  | some (r,t1)=>some (t1.put d r)
  | none=>none)
def whoE:AV->List AV->Option (Nat×List AV)
 | .one (.lit (.func (.func f) ⟨[]⟩ ⟨[]⟩)),args=>some (f,args)
 | .one (.clo f (.lit (.agg ⟨[]⟩)::l)),args=>some (f,l.map .one++args)
 | .one (.clo f caps),args=>some (f,args++caps.map .one)
 | _,_=>none
def lookE(L:Lv)(t:T)(f:Nat):List AV->Option AV
 | .one (.ptr r ver 0 0)::rest=>match t.hat r ver with
  | some b=>guardE (b.live && b.es.all λe=>e.all (cleanE 32)) (match flatAs rest with
   | some as=>L.look f b.es as
   | none=>none)
  | none=>none
 | _=>none
def dataE(h:List (Nat×HB)):AV->Option AV
 | .one .emp=>some (.one .emp)
 | .one (.full es)=>some (.one (.full es))
 | .one c=>(dataC h c).map .one
 | .agg cs=>(cs.mapM (dataC h)).map .agg
 | _=>none
def freshE(L:Lv)(dr:Bool)(d:Option Nat)(t:T)(f:Nat)(args:List AV):Option T:=
 let os:=args.flatMap ownA
 guardE (!dr || os.isEmpty) (match args.mapM (dataE t.h) with
 | some as=>match L.fresh f as with
  | some es=>newE { t with h:=frzH os t.h } ⟨es,L.z f,true⟩ (λd ver=>.one (.own d ver (L.z f) 0 es.length)) d
  | none=>none
 | none=>none)
def rows2(h:List (Nat×HB)):List (List C)->Option (List (List C))
 | []=>some []
 | e::l=>match e.mapM (dataC h) with
  | some e'=>(rows2 h l).map (e'::·)
  | none=>none
section ops
variable (L:Lv) (dr:Bool) (d:Option Nat) (t:T)
def lbE:AV->Option Bool
 | .one (.lit (.bool b))=>some b
 | _=>none
def liE:AV->Option Int
 | .one (.lit (.int _ n))=>some n
 | _=>none
def empE:AV->Option Unit
 | .one .emp=>some ()
 | _=>none
def pu(d:Option Nat)(t:T)(x:Option AV):Option T:=@Option.rec AV (λ_=>Option T) none (λa=>some (t.put d a)) x
def pt(d:Option Nat)(x:Option T):Option T:=@Option.rec T (λ_=>Option T) none (λt=>some (t.put d (.tup []))) x
def oneRow(z len:Nat):Nat->Nat->AV:=λd ver=>.one (.own d ver z 0 len)
def onePtr:Nat->Nat->AV:=λd ver=>.one (.ptr d ver 0 0)
def xMv(x:Opd):Option T:=some (t.put d (t.ev x))
def xPick(c x y:Opd):Option T:=obind (lbE (t.ev c)) λb=>some (t.put d (sel b (t.ev x) (t.ev y)))
def xAlloc(zs:List C):Option T:=newE t ⟨[zs],zs.length,true⟩ onePtr d
def xBox(n:Nat)(x:Opd):Option T:=obind (cellsE (t.ev x)) λcs=>guardE (Nat.beq cs.length n) (newE t ⟨[cs],n,true⟩ onePtr d)
def xBuild(sg:List Seg):Option T:=obind (segsE t sg) λcs=>some (t.put d (.agg cs))
def xRow2(es es' : List (List C))(os:List Nat):Option T:=guardE (!dr || os.isEmpty) (some ((⟨t.v,t.x,frzH os t.h,t.n⟩:T).put d (.one (.full es'))))
def xRow(z:Nat)(l:List (List Seg)):Option T:=obind (rowsE t z l) λes=>obind (rows2 t.h es) λes'=>xRow2 dr d t es es' (ownEs es)
def xRowd(z:Nat)(l:List (List Seg)):Option T:=obind (rowsE t z l) λes=>newE t ⟨es,z,true⟩ (oneRow z es.length) d
def xRowo(z:Nat)(l:List (List Seg)):Option T:=guardE (!dr) (xRowd d t z l)
def xLd(b:Option Nat)(n:Nat)(g:Bool)(a:Opd):Option T:=guardE (baseE b (t.ev a)) (pu d t (loadE n g t (t.ev a)))
def xSt(b:Option Nat)(n:Nat)(a x:Opd):Option T:=guardE (baseE b (t.ev a)) (pt d (stE n t (t.ev x) (t.ev a)))
def xNilck(x:Opd):Option T:=pu d t (nilckE (t.ev x))
def xBin(op:BinOp)(x y:Opd):Option T:=pu d t (binE op (t.ev x) (t.ev y))
def xBinb(op:BinOp)(x y:Opd):Option T:=pu d t (binbE op (t.ev x) (t.ev y))
def xBinn(op:BinOp)(x y:Opd):Option T:=pu d t (binnE op (isConst y) (t.ev x) (t.ev y))
def xUn(op:UnOp)(x:Opd):Option T:=pu d t (unE op (t.ev x))
def xConv(k:IntKind)(x:Opd):Option T:=pu d t (convE k (t.ev x))
def xIface(ty:TypeId)(x:Opd):Option T:=pu d t (ifaceE ty (t.ev x))
def xClo(f:FuncId)(l:List Opd):Option T:=obind (capE t l) λcs=>some (t.put d (.one (.clo f cs)))
def xMk2(z:Nat)(zs:List C)(l c:Int):Option T:=guardE (ile 0 l && ile l c && ile c roomA && Nat.beq zs.length z) (newE t ⟨List.replicate l.toNat zs,z,true⟩ (oneRow z l.toNat) d)
def xMk(z:Nat)(zs:List C)(l c:Opd):Option T:=obind (liE (t.ev l)) λl=>obind (liE (t.ev c)) λc=>xMk2 d t z zs l c
def xSl(z:Nat)(x:Opd)(lo hi:Option Opd):Option T:=pu d t (sliceE z t lo hi (t.ev x))
def xSl0(x:Opd):Option T:=obind (elemsE t (t.ev x)) λ_=>some (t.put d (.one .emp))
def xFa(off:Nat)(x:Opd):Option T:=pu d t (faE off (t.ev x))
def xFld(n:Nat)(g:Bool)(off:Nat)(x:Opd):Option T:=pu d t (fldE n g off (t.ev x))
def xIdx(z:Nat)(x i:Opd):Option T:=pu d t (idxE z (t.ev i) (t.ev x))
def xExt(i:Nat)(x:Opd):Option T:=pu d t (extE i (t.ev x))
def xTass(ty:TypeId)(zero:AV)(x:Opd):Option T:=pu d t (tassE ty zero (t.ev x))
def xLen(x:Opd):Option T:=pu d t (lenE (t.ev x))
def xApp(z:Nat)(x y:Opd):Option T:=appE z d t (t.ev x) (t.ev y)
def xApp0(z:Nat)(x y:Opd):Option T:=obind (empE (t.ev x)) λ_=>appE z d t (.one .emp) (t.ev y)
def xAppb(b z:Nat)(x y:Opd):Option T:=guardE (appIsE b d (t.ev x) (t.ev y)) (appE z d t (t.ev x) (t.ev y))
def xCopy(z:Nat)(x y:Opd):Option T:=guardE (!dr) (pt d (clrE z t (t.ev x) (t.ev y)))
def xCpy(z:Nat)(x y:Opd):Option T:=guardE (!dr) (obind (elemsE t (t.ev y)) λys=>guardE (allLen z ys) (obind (cpyE z t ys (t.ev x)) λt=>some (t.put d (.one (.lit (.int .i64 (ys.length:Nat)))))))
def xMax(l:List Opd):Option T:=pu d t (mmE mx t l)
def xMin(l:List Opd):Option T:=pu d t (mmE mn t l)
def xCall(f:FuncId)(l:List Opd):Option T:=callE L dr d t f (l.map t.ev)
def xCallv(f:Opd)(l:List Opd):Option T:=obind (whoE (t.ev f) (l.map t.ev)) λp=>guardE (!spF p.1) (callE L dr d t p.1 p.2)
def xCallf(f:FuncId)(l:List Opd):Option T:=freshE L dr d t f (l.map t.ev)
def xSnil(neg:Bool)(x:Opd):Option T:=pu d t (snilE neg (t.ev x))
def xCap(x:Opd):Option T:=obind (empE (t.ev x)) λ_=>some (t.put d (.one (.lit (.int .i64 0))))
def xAppz(z:Nat)(zs:List C)(x n:Opd):Option T:=obind (empE (t.ev x)) λ_=>obind (liE (t.ev n)) λl=>guardE (ile 0 l && ile l roomA && Nat.beq zs.length z) (newE t ⟨List.replicate l.toNat zs,z,true⟩ (oneRow z l.toNat) d)
def xSop(k:Nat)(l:List Opd):Option T:=pu d t (sopE k (l.map t.ev))
def xAi(z n:Nat)(x i:Opd):Option T:=obind (atE n (t.ev i)) λj=>pu d t (faE (j*z) (t.ev x))
def xAix(z:Nat)(g:Bool)(n:Nat)(x i:Opd):Option T:=obind (atE n (t.ev i)) λj=>pu d t (fldE z g (j*z) (t.ev x))
def xRsl(z n:Nat)(x:Opd):Option T:=pu d t (rslE z n (t.ev x))
def xCallr(f:FuncId)(l:List Opd):Option T:=pu d t (lookE L t f (l.map t.ev))
def xRsb(z n:Nat)(x:Opd)(lo hi:Option Opd):Option T:=obind (rslE z n (t.ev x)) λr=>pu d t (sliceE z t lo hi r)
def xBad:Option T:=none
def xRowf(_:Nat)(_:Opd):Option T:=none
def xCalli(f:FuncId)(l:List Opd):Option T:=obind (L.inl f (l.map t.ev) t) λp=>some (p.2.put d p.1)
end ops
abbrev OpR:=Lv->Bool->Option Nat->T->Option T
def opE(op:AOp):OpR:=@AOp.rec (λ_=>OpR)
 (λx _ _ d t=>xMv d t x) (λc x y _ _ d t=>xPick d t c x y) (λzs _ _ d t=>xAlloc d t zs) (λn x _ _ d t=>xBox d t n x) (λsg _ _ d t=>xBuild d t sg)
 (λz l _ dr d t=>xRow dr d t z l) (λz l _ dr d t=>xRowo dr d t z l) (λb n g a _ _ d t=>xLd d t b n g a) (λb n a x _ _ d t=>xSt d t b n a x)
 (λx _ _ d t=>xNilck d t x) (λop x y _ _ d t=>xBin d t op x y) (λop x y _ _ d t=>xBinb d t op x y) (λop x y _ _ d t=>xBinn d t op x y)
 (λop x _ _ d t=>xUn d t op x) (λk x _ _ d t=>xConv d t k x) (λty x _ _ d t=>xIface d t ty x) (λf l _ _ d t=>xClo d t f l)
 (λz zs l c _ _ d t=>xMk d t z zs l c) (λz x lo hi _ _ d t=>xSl d t z x lo hi) (λx _ _ d t=>xSl0 d t x) (λoff x _ _ d t=>xFa d t off x)
 (λn g off x _ _ d t=>xFld d t n g off x) (λz x i _ _ d t=>xIdx d t z x i) (λi x _ _ d t=>xExt d t i x) (λty zero x _ _ d t=>xTass d t ty zero x)
 (λx _ _ d t=>xLen d t x) (λz x y _ _ d t=>xApp d t z x y) (λz x y _ _ d t=>xApp0 d t z x y) (λb z x y _ _ d t=>xAppb d t b z x y)
 (λz x y _ dr d t=>xCopy dr d t z x y) (λz x y _ dr d t=>xCpy dr d t z x y) (λl _ _ d t=>xMax d t l) (λl _ _ d t=>xMin d t l)
 (λf l L dr d t=>xCall L dr d t f l) (λf l L dr d t=>xCallv L dr d t f l) (λf l L dr d t=>xCallf L dr d t f l) (λneg x _ _ d t=>xSnil d t neg x)
 (λx _ _ d t=>xCap d t x) (λz zs x n _ _ d t=>xAppz d t z zs x n) (λk l _ _ d t=>xSop d t k l) (λz n x i _ _ d t=>xAi d t z n x i)
 (λz g n x i _ _ d t=>xAix d t z g n x i) (λz n x _ _ d t=>xRsl d t z n x) (λf l L _ d t=>xCallr L d t f l) (λz n x lo hi _ _ d t=>xRsb d t z n x lo hi)
 (λ_ _ _ _=>xBad) (λz x _ _ _ _=>xRowf z x) (λf l L _ d t=>xCalli L d t f l) (λz l _ _ d t=>xRowd d t z l) op
def wantE(want:Bool):AV->Option Bool
 | .one (.lit (.bool b))=>some (b == want)
 | .tup []=>some false
 | _=>none
def aoE(o:AO)(L:Lv)(dr:Bool)(t:T):Option T:=@AO.rec (λ_=>Option T)
 (λd g op=>@Option.rec (Nat×Bool) (λ_=>Option T) (opE op L dr d t) (λgw=>obind (wantE gw.2 (t.get gw.1)) λb=>sel b (opE op L dr d t) (some (t.put d (.tup [])))) g) o
def aosE(L:Lv)(dr:Bool)(l:List AO):T->Option T:=@List.rec AO (λ_=>T->Option T) some (λo _ g t=>obind (aoE o L dr t) g) l
mutual
def rnC(π:Nat->Nat):C->C
 | .own r ver z off len=>.own (π r) ver z off len
 | .ptr r ver i off=>.ptr (π r) ver i off
 | .clo f caps=>.clo f (rnCs π caps)
 | c=>c
def rnCs(π:Nat->Nat):List C->List C
 | []=>[]
 | c::l=>rnC π c::rnCs π l
end
mutual
def rnV(π:Nat->Nat):AV->AV
 | .one c=>.one (rnC π c)
 | .agg cs=>.agg (rnCs π cs)
 | .tup l=>.tup (rnVs π l)
 | .any=>.any
def rnVs(π:Nat->Nat):List AV->List AV
 | []=>[]
 | x::l=>rnV π x::rnVs π l
end
def rnT(π:Nat->Nat):Tr->Tr
 | .e=>.e
 | .l a=>.l (rnV π a)
 | .n x y=>.n (rnT π x) (rnT π y)
def rnK(π:Nat->Nat):List (Nat×HB)->List (Nat×HB)
 | []=>[]
 | (k,⟨v,b⟩)::r=>(π k,⟨v,b.map λb=>⟨b.es.map (rnCs π),b.z,b.live⟩⟩)::rnK π r
def swaps(h:List (Nat×HB)):List Nat->Nat->List (Nat×Nat)
 | [],_=>[]
 | d::l,n=>match (hget h d).blk with
  | some _=>sel (Nat.blt d pinA && Nat.blt n pinA) ((d,n)::swaps h l (n+1)) []
  | none=>swaps h l n
def swN(a b r:Nat):Nat:=sel (Nat.beq r a) b (sel (Nat.beq r b) a r)
def swp:List (Nat×Nat)->Nat->Nat
 | [],r=>r
 | p::l,r=>swp l (swN p.1 p.2 r)
def swq:List (Nat×Nat)->Nat->Nat
 | [],r=>r
 | p::l,r=>swN p.1 p.2 (swq l r)
def mades:List AO->List Nat
 | []=>[]
 | o::r=>match o.d,o.o with
  | some d,.alloc .. | some d,.box .. | some d,.rowo .. | some d,.rowd .. | some d,.mk .. | some d,.callf .. | some d,.appz .. | some d,.app .. | some d,.appb .. | some d,.app0 ..=>d::mades r
  | _,_=>mades r
def fPs{α:Type}:List (Nat×Nat)->(List (Nat×Nat)->α)->α
 | [],k=>k []
 | (a,b)::l,k=>fNat (λa=>fNat (λb=>fPs l λl=>k ((a,b)::l)) b) a
def T.move(t:T)(l:List (Nat×Nat)):T:=
 match l with
 | []=>t
 | l=>fPs l λl=>⟨rnT (swp l) t.v,t.x.map (rnT (swp l)),rnK (swp l) t.h,t.n+l.length⟩
def prep(t:T)(l:List AO):T:=t.move (swaps t.h (mades l) t.n)
abbrev CoR:=(AC->T->Option (Ex×T))->Lv->T->Option (Ex×T)
def cSkip:CoR:=λ_ _ t=>some (.nrm,t)
def cOps(dr:Bool)(l:List AO):CoR:=λ_ L t=>omap (λt=>(.nrm,t)) (aosE L dr l (prep t l))
def seqK(f:T->Option (Ex×T))(p:Ex×T):Option (Ex×T):=@Ex.rec (λ_=>Option (Ex×T)) (f p.2) (λi=>some (.exit i,p.2)) (some (.ret,p.2)) p.1
def cSeq(a b:AC):CoR:=λgo _ t=>obind (go a t) (seqK (go b))
def cCond(c:Opd)(a b:AC):CoR:=λgo _ t=>obind (lbE (t.ev c)) λw=>sel w (go a t) (go b t)
def blkK(id:Nat)(p:Ex×T):Option (Ex×T):=@Ex.rec (λ_=>Option (Ex×T)) (some (.nrm,p.2)) (λi=>sel (Nat.beq i id) (some (.nrm,p.2)) (some (.exit i,p.2))) (some (.ret,p.2)) p.1
def cBlock(id:Nat)(a:AC):CoR:=λgo _ t=>obind (go a t) (blkK id)
def cLoop(a:AC):CoR:=λgo _ t=>obind (go a t) (seqK (go (.loop a)))
def cExit(id:Nat):CoR:=λ_ _ t=>some (.exit id,t)
def cRet:CoR:=λ_ _ t=>some (.ret,t)
def cNo:CoR:=λ_ _ _=>none
def codeS(ac:AC):CoR:=@AC.rec (λ_=>CoR) cSkip cOps (λa b _ _=>cSeq a b) (λc a b _ _=>cCond c a b) (λid a _=>cBlock id a) (λa _=>cLoop a) cExit cRet
 (λ_ _ _=>cNo) (λ_ _ _=>cNo) ac
def codeE(L:Lv)(n:Nat):AC->T->Option (Ex×T):=@Nat.rec (λ_=>AC->T->Option (Ex×T)) (λ_ _=>none) (λ_ go ac t=>codeS ac go L t) n
def argT(l:List AV):Nat->Tr->Tr:=@List.rec AV (λ_=>Nat->Tr->Tr) (λ_ v=>v) (λa _ g k v=>g (k+1) (v.set dep k a)) l
def rawE(t:T)(l:List RV):Option (List AV):=@List.rec RV (λ_=>Option (List AV)) (some [])
 (λr _ g=>@RV.rec (λ_=>Option (List AV)) (λk=>omap (t.get k::·) g) (λk n b=>obind (loadE n b t (t.get k)) λx=>omap (x::·) g) r) l
def eqNs:List UInt8->List UInt8->Bool
 | [],[]=>true
 | a::l,b::m=>Nat.beq a.toNat b.toNat && eqNs l m
 | _,_=>false
def eqV:Value->Value->Bool
 | .int k a,.int l b=>sameK k l && ieq a b
 | .bool a,.bool b=>a == b
 | .string a,.string b=>eqNs a.data.toList b.data.toList
 | .nilIface,.nilIface=>true
 | .nilFunc,.nilFunc=>true
 | .agg ⟨[]⟩,.agg ⟨[]⟩=>true
 | .func (.func f) ⟨[]⟩ ⟨[]⟩,.func (.func g) ⟨[]⟩ ⟨[]⟩=>Nat.beq f g
 | .iface t (.int k a),.iface u (.int l b)=>Nat.beq t u && (sameK k l && ieq a b)
 | .chan (some a),.chan (some b)=>Nat.beq a b
 | _,_=>false
mutual
def eqC:C->C->Bool
 | .lit v,.lit w=>eqV v w
 | .slice es,.slice fs=>eqR es fs
 | .full es,.full fs=>eqR es fs
 | .emp,.emp=>true
 | .ref cs,.ref ds=>eqL cs ds
 | .clo f cs,.clo g ds=>Nat.beq f g && eqL cs ds
 | .own r v z o l,.own r' v' z' o' l'=>Nat.beq r r' && Nat.beq v v' && Nat.beq z z' && Nat.beq o o' && Nat.beq l l'
 | .ptr r v i o,.ptr r' v' i' o'=>Nat.beq r r' && Nat.beq v v' && Nat.beq i i' && Nat.beq o o'
 | _,_=>false
def eqL:List C->List C->Bool
 | [],[]=>true
 | c::l,d::m=>eqC c d && eqL l m
 | _,_=>false
def eqR:List (List C)->List (List C)->Bool
 | [],[]=>true
 | c::l,d::m=>eqL c d && eqR l m
 | _,_=>false
end
def eqA:AV->AV->Bool
 | .one c,.one d=>eqC c d
 | .agg l,.agg m=>eqL l m
 | _,_=>false
def eqAs:List AV->List AV->Bool
 | [],[]=>true
 | a::l,b::m=>eqA a b && eqAs l m
 | _,_=>false
def eqB:Option Blk->Option Blk->Bool
 | none,none=>true
 | some ⟨es,z,l⟩,some ⟨es',z',l'⟩=>eqR es es' && Nat.beq z z' && (l == l')
 | _,_=>false
def eqH:List (Nat×HB)->List (Nat×HB)->Bool
 | [],[]=>true
 | (k,⟨v,b⟩)::l,(k',⟨v',b'⟩)::m=>Nat.beq k k' && Nat.beq v v' && eqB b b' && eqH l m
 | _,_=>false
def endE:Ex->Bool
 | .exit _=>false
 | _=>true
def fuelC:Nat:=100000
section
variable (tab:Nat->Option (Nat×AC×List RV))
def datFE(L:Lv)(f:Nat)(args:List AV):Option AV:=
 match tab f with
 | some (n,ac,rv)=>guardE (Nat.ble n top && Nat.ble args.length n) (match codeE L fuelC ac ⟨argT args 0 .e,[],[],2048⟩ with
  | some (e,t)=>guardE (endE e) (match rawE t rv with
   | some l=>(deepAs t.h l).map resOf
   | none=>none)
  | none=>none)
 | none=>none
def freshF(L:Lv)(f:Nat)(args:List AV):Option (List (List C)):=
 match tab f with
 | some (n,ac,rv)=>guardE (Nat.ble n top && Nat.ble args.length n) (match codeE L fuelC ac ⟨argT args 0 .e,[],[],2048⟩ with
  | some (e,t)=>guardE (endE e) (match rawE t rv with
   | some [.one .emp]=>some []
   | some [.one (.own r ver z 0 len)]=>match t.hat r ver with
    | some b=>guardE (b.live && Nat.beq (L.z f) z && Nat.beq z b.z && Nat.ble len b.es.length && (b.es.take len).all λe=>e.all (cleanE 32)) (some (b.es.take len))
    | none=>none
   | _=>none)
  | none=>none)
 | none=>none
def lookF(L:Lv)(f:Nat)(es:List (List C))(args:List AV):Option AV:=
 match tab f with
 | some (n,ac,rv)=>guardE (Nat.ble n top && Nat.ble (args.length+1) n) (match codeE L fuelC ac ⟨argT (.one (.ptr pinA 0 0 0)::args) 0 .e,[],[(pinA,⟨0,some ⟨es,(es.headD []).length,true⟩⟩)],2048⟩ with
  | some (e,t)=>guardE (endE e) (match rawE t rv,t.hat pinA 0 with
   | some l,some b=>guardE (b.live && Nat.beq b.z (es.headD []).length && eqR b.es es && !es.isEmpty) ((deepAs (hset t.h pinA ⟨0,none⟩) l).map resOf)
   | _,_=>none)
  | none=>none)
 | none=>none
def lows:List (Nat×HB)->List Nat
 | []=>[]
 | (k,⟨_,some _⟩)::r=>cond (Nat.blt k top) (k::lows r) (lows r)
 | _::r=>lows r
def inlE(L:Lv)(f:Nat)(args:List AV)(t:T):Option (AV×T):=
 match tab f with
 | some (n,ac,rv)=>guardE (Nat.ble n top && Nat.ble args.length n) (match codeE L fuelC ac ⟨argT args 0 .e,t.v::t.x,t.h,t.n⟩ with
  | some (e,t1)=>guardE (endE e) (match rawE t1 rv,t1.x with
   | some l,v::x=>
    let sw:=swaps t1.h (lows t1.h) t1.n
    some (rnV (swp sw) (resOf l),({ t1 with v:=v,x:=x }:T).move sw)
   | _,_=>none)
  | none=>none)
 | none=>none
structure Base where
 dat:Nat->List AV->Option AV
 inl:Nat->List AV->T->Option (AV×T)
 fresh:Nat->List AV->Option (List (List C))
 z:Nat->Nat
 rk:Nat->Nat
def lvS(B:Base)(k:Nat)(L:Lv):Lv:=
 ⟨λf args=>sel (Nat.ble (B.rk f) k) (L.dat f args) (@Option.rec AV (λ_=>Option AV) (datFE tab L f args) some (B.dat f args)),
  λf args t=>@Option.rec (AV×T) (λ_=>Option (AV×T)) (inlE tab L f args t) some (B.inl f args t),
  lookF tab L,λf args=>@Option.rec (List (List C)) (λ_=>Option (List (List C))) (freshF tab L f args) some (B.fresh f args),B.z⟩
def lvE(B:Base)(n:Nat):Lv:=@Nat.rec (λ_=>Lv) ⟨B.dat,λ_ _ _=>none,λ_ _ _=>none,B.fresh,B.z⟩ (λk L=>lvS tab B k L) n
end
end
end Go.Abs
end
