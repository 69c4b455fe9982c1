/-
  Parts of the proof, merged: PolyV, RefB, RefC, RefD, RefE, RefF.
-/
import Derived.Test.YthoibmokhnoccaaGreatDoorM16
set_option linter.unusedVariables false
set_option linter.unusedSimpArgs false
set_option maxRecDepth 100000
section
namespace Go.Abs
open Go.Num
variable {P:Program} {L:List (Nat×Spec)}
theorem qaO{f fc:Nat}(hE:Enters P f):Sound P f (.own (kh fc 0)):=by
 refine⟨hE,λE args vals w I m h d K _ _ hG=>?_⟩;unfold kh at hG;split at hG
 .obtain⟨U,A,B,V,_,_,_,_,hA,_,hN,_⟩:=hG;have:=List.length_pos_iff.2 hA;omega
 .exact hG.elim
theorem XS(hΓ:Holds P (Gl L)){f fr fc N:Nat}(hn1:fr≠f)(hn2:fc≠f)(hro:Gl L fr=.own (vB fc))(hcm:Gl L fc=.dat true Yy)(hc:check P f=some (220,(ua fr f).strip,[])):Sound P f (.own (kh fc N)):=by
 induction N with
 | zero=>
  obtain⟨fn,c,h1,h2,h3,_⟩:=xt hc;exact qaO (kp h1 h2 (by rw [h3];rfl))
 | succ N ih=>
  have hh:Holds P (Gl ((f,.own (kh fc N))::L)):=Za hΓ ih;refine Qav (Γ:=Gl ((f,.own (kh fc N))::L)) hh (fs:=f) ?_ ?_ ?_ hc
  .unfold Gl;rw [if_neg hn1];exact hro
  .unfold Gl;rw [if_pos rfl]
  .unfold Gl;rw [if_neg hn2];exact hcm
end Go.Abs
end
section
namespace Go.Abs
open Go.Num
variable {P:Program} {Γ:Nat->Spec}
def Xc:AC:=(.o [.m 2 (.c (.one .emp))] [0] (.o [.m 4 (.c (.one .emp)),.M 5 0,.u 6 (.app0 1 (.t 4) (.t 5)),.M 3 6] [3] (.f (.block 0 (.loop (.f (.o [.M 7 3,.Z 8 7,.I 9 .gtr 8 0,.M 10 9,.V 11 10 true 3,.V 12 10 true 3,.w 13 10 true (.len (.t 12)),.w 14 10 true (.bin .sub (.t 13) (.i 1)),.w 15 10 true (.idx 1 (.t 11) (.t 14)),.U 16 10 true 1 false 15,.w 17 10 true (.bin .eql (.t 16) (.c (.one (.lit (.int .u32 0))))),.P 18 10 17] [3,18] (.cond (.t 18) .skip (.exit 0))) [3] (.block 1 (.p [.M 19 3,.M 20 3,.Z 21 20,.I 22 .sub 21 1,.u 23 (.sl 1 (.t 19) none (some (.t 22))),.M 3 23]))))) [3] (.seq (.p [.M 24 3,.M 2 24]) .ret))))
def qh(f0 f1:Nat):AC:=(.o [.m 4 (.c (.one .emp))] [0,1] (.o [.m 5 (.c (.one .emp))] [0,1,5] (.o [.m 6 (.c (.one (.lit (.int .u64 0))))] [0,1,5,6] (.f (.o [.M 9 0,.Z 10 9,.M 11 1,.Z 12 11,.u 13 (.max [(.t 10),(.t 12)]),.I 14 .add 13 1,.N 15 0] [0,1,5,6,14,15] (.block 0 (.loop (.o [.B 16 .lss 15 14] [0,1,5,6,14,15,16] (.f (.cond (.t 16) .skip (.exit 0)) [0,1,5,6,14,15] (.f (.block 1 (.o [.M 17 15,.M 7 17] [0,1,5,6,7,14,15] (.o [.M 18 0,.M 19 7,.D 20 f0 18 19,.M 21 1,.M 22 7,.D 23 f0 21 22,.B 24 .add 20 23,.M 25 6,.B 26 .add 24 25,.M 8 26] [0,1,5,8,14,15] (.p [.M 27 5,.M 28 8,.u 29 (.conv .u32 (.t 28)),.u 30 (.row 1 [[.x 1 (.t 29)]]),.u 31 (.app 1 (.t 27) (.t 30)),.M 32 8,.u 33 (.bin .shr (.t 32) (.c (.one (.lit (.int .u64 32))))),.M 5 31,.M 6 33])))) [0,1,5,6,14,15] (.p [.I 34 .add 15 1,.M 15 34]))))))) [5] (.seq (.p [.M 35 5,.u 36 (.callf f1 [(.t 35)]),.M 4 36]) .ret)))))
def jg(f0 f1:Nat):AC:=(.o [.m 4 (.c (.one .emp))] [0,1] (.o [.m 5 (.c (.one .emp))] [0,1,5] (.o [.m 6 (.c (.one (.lit (.int .u64 0))))] [0,1,5,6] (.f (.o [.M 9 0,.Z 10 9,.N 11 0] [0,1,5,6,10,11] (.block 0 (.loop (.o [.B 12 .lss 11 10] [0,1,5,6,10,11,12] (.f (.cond (.t 12) .skip (.exit 0)) [0,1,5,6,10,11] (.f (.block 1 (.o [.M 13 11,.M 7 13] [0,1,5,6,7,10,11] (.o [.M 14 0,.M 15 7,.D 16 f0 14 15,.u 17 (.bin .add (.c (.one (.lit (.int .u64 4294967296)))) (.t 16)),.M 18 1,.M 19 7,.D 20 f0 18 19,.B 21 .sub 17 20,.M 22 6,.B 23 .sub 21 22,.M 8 23] [0,1,5,8,10,11] (.p [.M 24 5,.M 25 8,.u 26 (.conv .u32 (.t 25)),.u 27 (.row 1 [[.x 1 (.t 26)]]),.u 28 (.app 1 (.t 24) (.t 27)),.M 29 8,.u 30 (.bin .shr (.t 29) (.c (.one (.lit (.int .u64 32))))),.u 31 (.bin .sub (.c (.one (.lit (.int .u64 1)))) (.t 30)),.M 5 28,.M 6 31])))) [0,1,5,6,10,11] (.p [.I 32 .add 11 1,.M 11 32]))))))) [5] (.seq (.p [.M 33 5,.u 34 (.callf f1 [(.t 33)]),.M 4 34]) .ret)))))
def we(f0:Nat):AC:=(.o [.N 4 0] [0,1] (.f (.o [.M 6 0,.Z 7 6,.M 8 1,.Z 9 8,.u 10 (.max [(.t 7),(.t 9)]),.I 11 .sub 10 1,.M 5 11] [0,1,5] (.block 0 (.loop (.f (.o [.M 12 5,.I 13 .geq 12 0] [0,1,5,13] (.cond (.t 13) .skip (.exit 0))) [0,1,5] (.f (.block 1 (.o [.M 16 0,.M 17 5,.D 18 f0 16 17,.M 19 1,.M 20 5,.D 21 f0 19 20,.B 22 .neq 18 21] [0,1,5,22] (.cond (.t 22) (.f (.o [.M 23 0,.M 24 5,.D 25 f0 23 24,.M 26 1,.M 27 5,.D 28 f0 26 27,.B 29 .lss 25 28] [29] (.cond (.t 29) (.seq (.p [.N 4 (-1)]) .ret) .skip)) [] (.seq (.p [.N 4 1]) .ret)) .skip))) [0,1,5] (.p [.M 14 5,.I 15 .sub 14 1,.M 5 15])))))) [] (.seq (.p [.N 4 0]) .ret)))
def Qh:AC:=(.o [.N 2 0] [0] (.f (.o [.M 5 0,.Z 6 5,.I 7 .eql 6 0] [0,7] (.cond (.t 7) (.seq (.p [.N 2 0]) .ret) .skip)) [0] (.o [.M 8 0,.Z 9 8,.I 10 .sub 9 1,.u 11 (.bin .mul (.i 32) (.t 10)),.M 3 11] [0,3] (.f (.o [.M 12 0,.M 13 0,.Z 14 13,.I 15 .sub 14 1,.J 16 1 12 15,.F 17 1 16,.M 4 17] [3,4] (.block 0 (.loop (.f (.o [.M 18 4,.u 19 (.bin .gtr (.t 18) (.c (.one (.lit (.int .u32 0)))))] [3,4,19] (.cond (.t 19) .skip (.exit 0))) [3,4] (.f (.block 1 (.p [.M 22 3,.I 23 .add 22 1,.M 3 23])) [3,4] (.p [.M 20 4,.u 21 (.bin .shr (.t 20) (.c (.one (.lit (.int .u64 1))))),.M 4 21])))))) [3] (.seq (.p [.M 24 3,.M 2 24]) .ret)))))
def Zg(f0:Nat):AC:=(.o [.m 4 (.c (.one .emp))] [0,1] (.o [.M 10 0,.Z 11 10,.M 12 1,.Z 13 12,.B 14 .add 11 13,.u 15 (.mk 1 [(.lit (.int .u32 0))] (.t 14) (.t 14)),.M 5 15] [0,1,5] (.f (.o [.M 16 0,.Z 17 16,.N 18 0] [0,1,5,17,18] (.block 0 (.loop (.o [.B 19 .lss 18 17] [0,1,5,17,18,19] (.f (.cond (.t 19) .skip (.exit 0)) [0,1,5,17,18] (.f (.block 1 (.o [.M 20 18,.M 6 20] [0,1,5,6,17,18] (.o [.m 7 (.c (.one (.lit (.int .u64 0))))] [0,1,5,6,7,17,18] (.f (.o [.M 21 1,.Z 22 21,.N 23 0] [0,1,5,6,7,17,18,22,23] (.block 2 (.loop (.o [.B 24 .lss 23 22] [0,1,5,6,7,17,18,22,23,24] (.f (.cond (.t 24) .skip (.exit 2)) [0,1,5,6,7,17,18,22,23] (.f (.block 3 (.o [.M 25 23,.M 8 25] [0,1,5,6,7,8,17,18,22,23] (.f (.y [.M 26 0,.M 27 6,.J 28 1 26 27,.F 29 1 28,.u 30 (.conv .u64 (.t 29)),.M 31 1,.M 32 8,.J 33 1 31 32,.F 34 1 33,.u 35 (.conv .u64 (.t 34)),.B 36 .mul 30 35,.M 37 5,.M 38 6,.M 39 8,.B 40 .add 38 39,.J 41 1 37 40,.F 42 1 41,.u 43 (.conv .u64 (.t 42)),.B 44 .add 36 43,.M 45 7,.B 46 .add 44 45,.M 9 46]) [0,1,5,6,8,9,17,18,22,23] (.p [.M 47 5,.M 48 6,.M 49 8,.B 50 .add 48 49,.M 51 9,.u 52 (.conv .u32 (.t 51)),.M 53 9,.u 54 (.bin .shr (.t 53) (.c (.one (.lit (.int .u64 32))))),.J 55 1 47 50,.S 1 55 52,.M 7 54])))) [0,1,5,6,7,17,18,22,23] (.p [.I 56 .add 23 1,.M 23 56]))))))) [0,1,5,6,7,17,18] (.p [.M 57 5,.M 58 6,.M 59 1,.Z 60 59,.B 61 .add 58 60,.M 62 7,.u 63 (.conv .u32 (.t 62)),.J 64 1 57 61,.S 1 64 63]))))) [0,1,5,17,18] (.p [.I 65 .add 18 1,.M 18 65]))))))) [5] (.seq (.p [.M 66 5,.u 67 (.callf f0 [(.t 66)]),.M 4 67]) .ret))))
theorem Xaz(hΓ:Holds P Γ){f:Nat}(hc:check P f=some (25,Xc.strip,[.tmp 2])):Sound P f (.fresh 1 Qw):=by
 refine Xt hc XaC hΓ (λargs K hcl hfi hG=>?_);match args,hG with
 | [a],hG=>
  obtain⟨l,ha,hl,hlen,hK⟩:=hG;refine⟨by simp,?_⟩
  rcases ha with rfl | rfl | ⟨rfl,h0⟩
  .simp only [go_sem,Xc,ws];refine⟨hlen,?_⟩;refine ja (λn:Nat=>⟨mkV [(3,.one (.own 6 1 1 0 n))],mkH [(6,⟨1,some ⟨l.map wc,1,true⟩⟩)]⟩) (λn=>n<=l.length/\val (l.take n)=val l) id l.length ?_ ?_ ?_
   .first | exact za (by simp [bitvec_to_nat]) (kf rfl) | (subst h0;exact za (by simp [bitvec_to_nat]) (kf (l:=[]) rfl))
   .simp
   .rintro n ⟨hn,ht⟩;simp only [go_sem];refine λhm=>⟨λh=>?_,λh=>?_⟩
    .rw [show((n:Int)-1).toNat=n-1 by omega]
     refine λ_=>⟨by omega,by omega,by omega,λh0=>λ_=>⟨by omega,by omega,by omega,n-1,za (by simp [bitvec_to_nat]) (kf rfl),⟨by omega,?_⟩,?_⟩,λh0=>?_⟩
     .have:=Vb l (n-1);rw [show n-1+1=n by omega,h0,Nat.mul_zero,Nat.add_zero]at this
      rw [<-this];exact ht
     .simp only [id];omega
     .have:=Wd (vu hl n) (JH h hn h0);rw [ht]at this;rw [this]at hK;exact⟨hn,hK⟩
    .have h1:n=0:=by omega
     subst h1;have:val l=0:=by rw [<-ht];simp [val]
     rw [this,Zb]at hK;exact⟨by omega,hK⟩
  .simp only [go_sem,Xc,ws];refine⟨hlen,?_⟩;refine ja (λn:Nat=>⟨mkV [(3,.one (.own 6 1 1 0 n))],mkH [(6,⟨1,some ⟨l.map wc,1,true⟩⟩)]⟩) (λn=>n<=l.length/\val (l.take n)=val l) id l.length ?_ ?_ ?_
   .first | exact za (by simp [bitvec_to_nat]) (kf rfl) | (subst h0;exact za (by simp [bitvec_to_nat]) (kf (l:=[]) rfl))
   .simp
   .rintro n ⟨hn,ht⟩;simp only [go_sem];refine λhm=>⟨λh=>?_,λh=>?_⟩
    .rw [show((n:Int)-1).toNat=n-1 by omega]
     refine λ_=>⟨by omega,by omega,by omega,λh0=>λ_=>⟨by omega,by omega,by omega,n-1,za (by simp [bitvec_to_nat]) (kf rfl),⟨by omega,?_⟩,?_⟩,λh0=>?_⟩
     .have:=Vb l (n-1);rw [show n-1+1=n by omega,h0,Nat.mul_zero,Nat.add_zero]at this
      rw [<-this];exact ht
     .simp only [id];omega
     .have:=Wd (vu hl n) (JH h hn h0);rw [ht]at this;rw [this]at hK;exact⟨hn,hK⟩
    .have h1:n=0:=by omega
     subst h1;have:val l=0:=by rw [<-ht];simp [val]
     rw [this,Zb]at hK;exact⟨by omega,hK⟩
  .simp only [go_sem,Xc,ws];refine⟨by simp,?_⟩
   refine ja (λn:Nat=>⟨mkV [(3,.one (.own 6 1 1 0 n))],mkH [(6,⟨1,some ⟨l.map wc,1,true⟩⟩)]⟩) (λn=>n<=l.length/\val (l.take n)=val l) id l.length ?_ ?_ ?_
   .first | exact za (by simp [bitvec_to_nat]) (kf rfl) | (subst h0;exact za (by simp [bitvec_to_nat]) (kf (l:=[]) rfl))
   .simp
   .rintro n ⟨hn,ht⟩;simp only [go_sem];refine λhm=>⟨λh=>?_,λh=>?_⟩
    .rw [show((n:Int)-1).toNat=n-1 by omega]
     refine λ_=>⟨by omega,by omega,by omega,λh0=>λ_=>⟨by omega,by omega,by omega,n-1,za (by simp [bitvec_to_nat]) (kf rfl),⟨by omega,?_⟩,?_⟩,λh0=>?_⟩
     .have:=Vb l (n-1);rw [show n-1+1=n by omega,h0,Nat.mul_zero,Nat.add_zero]at this
      rw [<-this];exact ht
     .simp only [id];omega
     .have:=Wd (vu hl n) (JH h hn h0);rw [ht]at this;rw [this]at hK;exact⟨hn,hK⟩
    .have h1:n=0:=by omega
     subst h1;have:val l=0:=by rw [<-ht];simp [val]
     rw [this,Zb]at hK;exact⟨by omega,hK⟩
theorem U7(hΓ:Holds P Γ){f fw ft:Nat}(hw:Γ fw=.dat true Qn)(ht:Γ ft=.fresh 1 Qw)(hc:check P f=some (37,(qh fw ft).strip,[.tmp 4])):Sound P f (.dat false Qt):=by
 refine Qa hc X7 hΓ (λargs K hcl hfi hG=>?_);match args,hG with
 | [a,b],hG=>
  obtain⟨x,rfl,hx,y,rfl,hy,hxl,hyl,hK⟩:=hG;refine⟨by simp,?_⟩
  simp only [go_sem,qh,hw,ht];intro h1 h2;refine⟨by omega,?_⟩
  generalize hN:max x.length y.length+1=N;refine ja (λp:List Nat×Nat=>match p.1 with
    | []=>⟨mkV [(0,wsA x),(1,wsA y),(5,.one .emp),(6,.one (.lit (.int .u64 p.2))),(14,.one (.lit (.int .i64 N))),(15,.one (.lit (.int .i64 0)))],mkH []⟩
    | a::r=>⟨mkV [(0,wsA x),(1,wsA y),(5,.one (.own 31 1 1 0 (r.length+1))),(6,.one (.lit (.int .u64 p.2))),(14,.one (.lit (.int .i64 N))),(15,.one (.lit (.int .i64 (r.length+1:Nat))))],mkH [(31,⟨1,some ⟨(a::r).map wc,1,true⟩⟩)]⟩)
   (λp=>p.1.length<=N/\WL p.1/\p.2<=1/\val p.1+4294967296 ^ p.1.length*p.2=val (x.take p.1.length)+val (y.take p.1.length)) (λp=>N-p.1.length) ([],0) ?_ ?_ ?_
  .exact za (by simp [bitvec_to_nat]) trivial
  .simp [Ub,val]
  .rintro⟨o,c⟩ ⟨hoN,ho,hc1,hval⟩;simp only at hoN ho hc1 hval;cases o with
   | nil=>
    simp only [go_sem,hw,ht];refine⟨λhlt=>?_,λhge=>by omega⟩
    have g1:=Qb hx 0;have g2:=Qb hy 0;rw [Nat.mod_eq_of_lt (show x.getD 0 0+y.getD 0 0<18446744073709551616 by omega),Nat.mod_eq_of_lt (show x.getD 0 0+y.getD 0 0+c<18446744073709551616 by omega)]
    generalize hs:x.getD 0 0+y.getD 0 0+c=s;refine⟨hx,by omega,hy,by omega,by simp,by decide,by decide,([s % 4294967296],s / 4294967296),za (by simp [bitvec_to_nat]) (kf (l:=[s % 4294967296]) rfl),⟨by simp;omega,Xb.2 ⟨Nat.mod_lt _ (by omega),Ub⟩,by simp only;omega,?_⟩,by simp;omega⟩
    have t1:=Vb x 0;have t2:=Vb y 0;simp only [List.length_cons,List.length_nil,Nat.zero_add,List.take_zero,Zm,qi,Nat.pow_zero,Nat.pow_one,Nat.mul_zero]at t1 t2 hval ⊢;omega
   | cons a r=>
    simp only [go_sem,hw,ht];refine⟨λhlt=>?_,λhge=>?_⟩
    .have g1:=Qb hx (r.length+1);have g2:=Qb hy (r.length+1);rw [Nat.mod_eq_of_lt (show x.getD (r.length+1) 0+y.getD (r.length+1) 0<18446744073709551616 by omega),Nat.mod_eq_of_lt (show x.getD (r.length+1) 0+y.getD (r.length+1) 0+c<18446744073709551616 by omega)]
     generalize hs:x.getD (r.length+1) 0+y.getD (r.length+1) 0+c=s;refine⟨hx,hy,by simp,by omega,by decide,by omega,(a::(r++[s % 4294967296]),s / 4294967296),za (by simp [bitvec_to_nat]) (W1 (l':=a::(r++[s % 4294967296])) (by simp [wc])),⟨by simp;omega,?_,by simp only;omega,?_⟩,by simp;omega⟩
     .exact Je (a:=a::r) |>.2 ⟨ho,Xb.2 ⟨Nat.mod_lt _ (by omega),Ub⟩⟩
     .have t1:=Vb x (r.length+1);have t2:=Vb y (r.length+1);have e:a::(r++[s % 4294967296])=(a::r)++[s % 4294967296]:=rfl;simp only [e,List.length_append,List.length_cons,List.length_nil,Nat.zero_add,Yb,t1,t2];simp only [List.length_cons]at hval;rw [show val [s % 4294967296]=s % 4294967296 from by simp [val],Nat.pow_succ 4294967296 (r.length+1)]
      exact VaX hval (by rw [Nat.mod_add_div,hs])
    .have e:r.length+1=N:=by simp only [List.length_cons]at hoN;omega
     have hv:val (a::r)=val x+val y:=by
      rw [List.length_cons,e,Zi (by omega),Zi (by omega)]at hval
      exact Zal hx hy (by omega) (by omega) (by omega) hval
     refine(qY _ (a::r)).mpr ⟨ho,by simp only [List.length_cons];omega,?_⟩
     rw [hv];exact hK
theorem WT(hΓ:Holds P Γ){f fw ft:Nat}(hw:Γ fw=.dat true Qn)(ht:Γ ft=.fresh 1 Qw)(hc:check P f=some (35,(jg fw ft).strip,[.tmp 4])):Sound P f (.dat false yv):=by
 refine Qa hc Q9 hΓ (λargs K hcl hfi hG=>?_);match args,hG with
 | [a,b],hG=>
  obtain⟨x,rfl,hx,y,rfl,hy,hxl,hle,hK⟩:=hG;refine⟨by simp,?_⟩
  simp only [go_sem,jg,hw,ht];intro h1;generalize hN:x.length=N at *
  refine ja (λp:List Nat×Nat=>match p.1 with
    | []=>⟨mkV [(0,wsA x),(1,wsA y),(5,.one .emp),(6,.one (.lit (.int .u64 p.2))),(10,.one (.lit (.int .i64 N))),(11,.one (.lit (.int .i64 0)))],mkH []⟩
    | a::r=>⟨mkV [(0,wsA x),(1,wsA y),(5,.one (.own 28 1 1 0 (r.length+1))),(6,.one (.lit (.int .u64 p.2))),(10,.one (.lit (.int .i64 N))),(11,.one (.lit (.int .i64 (r.length+1:Nat))))],mkH [(28,⟨1,some ⟨(a::r).map wc,1,true⟩⟩)]⟩)
   (λp=>p.1.length<=N/\WL p.1/\p.2<=1/\val p.1+val (y.take p.1.length)=val (x.take p.1.length)+4294967296 ^ p.1.length*p.2) (λp=>N-p.1.length) ([],0) ?_ ?_ ?_
  .exact za (by simp [bitvec_to_nat]) trivial
  .simp [Ub,val]
  .rintro⟨o,c⟩ ⟨hoN,ho,hc1,hval⟩;simp only at hoN ho hc1 hval;cases o with
   | nil=>
    have g1:=Qb hx 0;have g2:=Qb hy 0;obtain⟨s,e1,e2,e3,e4⟩:=vU g1 g2 hc1;simp only [go_sem,hw,ht,e1,e2];refine⟨λhlt=>?_,λhge=>?_⟩
    .refine⟨hx,by omega,hy,by omega,by simp,⟨by omega,by decide⟩,by decide,([s % 4294967296],1-s / 4294967296),za (by simp [bitvec_to_nat,e2]) (W1 (l':=[s % 4294967296]) (by simp [wc])),⟨by simp;omega,Xb.2 ⟨Nat.mod_lt _ (by omega),Ub⟩,e4,?_⟩,by simp;omega⟩
     have t1:=Vb x 0;have t2:=Vb y 0;simp only [List.length_cons,List.length_nil,Nat.zero_add,List.take_zero,Zm,qi,Nat.pow_zero,Nat.pow_one,Nat.mul_zero]at t1 t2 hval ⊢;omega
    .have hx0:x=[]:=List.eq_nil_of_length_eq_zero (by omega)
     have:val x-val y=val []:=by rw [hx0];simp [val]
     rw [<-this];exact hK
   | cons a r=>
    have g1:=Qb hx (r.length+1);have g2:=Qb hy (r.length+1);obtain⟨s,e1,e2,e3,e4⟩:=vU g1 g2 hc1;simp only [go_sem,hw,ht,e1,e2];refine⟨λhlt=>?_,λhge=>?_⟩
    .refine⟨hx,hy,by simp,by omega,⟨by omega,by decide⟩,by omega,(a::(r++[s % 4294967296]),1-s / 4294967296),za (by simp [bitvec_to_nat,e2]) (W1 (l':=a::(r++[s % 4294967296])) (by simp [wc])),⟨by simp;omega,?_,e4,?_⟩,by simp;omega⟩
     .exact Je (a:=a::r) |>.2 ⟨ho,Xb.2 ⟨Nat.mod_lt _ (by omega),Ub⟩⟩
     .have e:a::(r++[s % 4294967296])=(a::r)++[s % 4294967296]:=rfl;simp only [List.length_cons]at hval;simp only [e,List.length_append,List.length_cons,List.length_nil,Nat.zero_add,Vb x (r.length+1),Vb y (r.length+1),Yb,qi (s % 4294967296),Zm,Nat.mul_zero,Nat.add_zero,Nat.pow_succ 4294967296 (r.length+1)];exact XF hval e3
    .have e:(a::r).length=N:=by simp only [List.length_cons]at hoN ⊢;omega
     have hv:=uE ho hx (by omega) hle hval
     refine(qY _ (a::r)).mpr ⟨ho,by omega,?_⟩
     rw [hv];exact hK
theorem Zad(hΓ:Holds P Γ){f fw:Nat}(hw:Γ fw=.dat true Qn)(hc:check P f=some (30,(we fw).strip,[.tmp 4])):Sound P f (.dat true kw):=by
 refine Qa hc Vay hΓ (λargs K hcl hfi hG=>?_);match args,hG with
 | [a,b],hG=>
  obtain⟨x,rfl,hx,y,rfl,hy,hK⟩:=hG;refine⟨by simp,?_⟩
  simp only [go_sem,we,hw];intro h1 h2;refine⟨⟨by omega,by omega⟩,?_⟩
  refine ja (λn:Nat=>⟨mkV [(0,wsA x),(1,wsA y),(5,.one (.lit (.int .i64 ((n:Int)-1))))],mkH []⟩) (λn=>n<=max x.length y.length/\val (x.drop n)=val (y.drop n)) id (max x.length y.length) ?_ ?_ ?_
  .exact za (by simp [bitvec_to_nat]) trivial
  .refine⟨Nat.le_refl _,?_⟩;rw [List.drop_of_length_le (by omega),List.drop_of_length_le (by omega)]
  .rintro n ⟨hn,hd⟩;simp only [go_sem,hw];refine⟨λh=>?_,λh=>?_⟩
   .have e:((n:Int)-1).toNat=n-1:=by omega
    have e1:=yy x (n-1);have e2:=yy y (n-1);have e3:n-1+1=n:=by omega
    rw [e3]at e1 e2;rw [e];refine⟨hx,h,hy,h,λhe=>⟨by omega,n-1,za (by simp [bitvec_to_nat];omega) trivial,⟨by omega,by rw [e1,e2,hd,he]⟩,by simp only [id];omega⟩,λhe=>⟨hx,h,hy,h,λhlt=>?_,λhge=>?_⟩⟩
    .rw [ZT (Xa1 hx (by rw [e3];exact hd) hlt)]at hK;exact hK
    .rw [vae (Xa1 (m:=n-1) hy (by rw [e3];exact hd.symm) (by omega))]at hK;exact hK
   .have:n=0:=by omega
    subst this;have:val x=val y:=hd;rw [this,XaI]at hK;exact hK
theorem W6(hΓ:Holds P Γ){f:Nat}(hc:check P f=some (25,Qh.strip,[.tmp 2])):Sound P f (.dat true Zy):=by
 refine Qa hc Zae hΓ (λargs K hcl hfi hG=>?_);match args,hG with
 | [a],hG=>
  obtain⟨x,rfl,hx,hxl,hK⟩:=hG;refine⟨by simp,?_⟩
  simp only [go_sem,Qh];intro h1;refine⟨λh=>?_,λh _=>⟨by omega,by omega,λ_=>⟨by omega,by omega,by omega,?_⟩⟩⟩
  .rw [if_pos h]at hK;exact hK
  rw [if_neg h]at hK;have e:((x.length:Int)-1).toNat=x.length-1:=by omega
  rw [e];have hb:=Qb hx (x.length-1);generalize x.getD (x.length-1) 0=w at *
  have hb32:bln w<=32:=vaZ (by omega)
  refine ja (λp:Nat×Nat=>⟨mkV [(3,.one (.lit (.int .i64 (32*((x.length:Int)-1)+p.1)))),(4,.one (.lit (.int .u32 p.2)))],mkH []⟩) (λp=>p.2<4294967296/\p.1+bln p.2=bln w) (λp=>p.2) (0,w) ?_ ?_ ?_
  .exact za (by simp [bitvec_to_nat]) trivial
  .exact⟨hb,by simp⟩
  .rintro⟨i,m⟩ ⟨hm,hi⟩;simp only at hm hi;simp only [go_sem];refine⟨λh=>?_,λh=>?_⟩
   .have e:=Xag (n:=m) (by omega)
    refine⟨by omega,by decide,(i+1,m / 2),za (by simp [bitvec_to_nat];omega) trivial,⟨by simp only;omega,by simp only;omega⟩,by simp only;omega⟩
   .have:m=0:=by omega
    subst this;rw [YF]at hi;have e:(32*((x.length:Int)-1)+(i:Int))=((32*(x.length-1)+bln w:Nat):Int):=by omega
    rw [e];exact hK
theorem uV(hΓ:Holds P Γ){f ft:Nat}(ht:Γ ft=.fresh 1 Qw)(hc:check P f=some (68,(Zg ft).strip,[.tmp 4])):Sound P f (.dat false Zu):=by
 refine Qa hc UN hΓ (λargs K hcl hfi hG=>?_);match args,hG with
 | [a,b],hG=>
  obtain⟨x,rfl,hx,y,rfl,hy,hxl,hyl,hK⟩:=hG;refine⟨by simp,?_⟩
  simp only [go_sem,Zg,ht];intro h1 h2;refine⟨by omega,by omega,λ_=>?_⟩
  generalize hN:x.length+y.length=N;refine ja (λp:Nat×List Nat=>⟨mkV [(0,wsA x),(1,wsA y),(5,.one (.own 15 1 1 0 N)),(17,.one (.lit (.int .i64 x.length))),(18,.one (.lit (.int .i64 p.1)))],mkH [(15,⟨1,some ⟨p.2.map wc,1,true⟩⟩)]⟩)
   (λp=>p.1<=x.length/\WL p.2/\p.2.length=N/\val p.2=val (x.take p.1)*val y/\∀j,p.1+y.length<=j->p.2.getD j 0=0) (λp=>x.length-p.1) (0,List.replicate N 0) ?_ ?_ ?_
  .exact za (by simp [bitvec_to_nat]) (kf (by simp))
  .simp [VaQ,val,JR];intro j _;rw [List.getElem?_replicate];split <;> rfl
  .rintro⟨i,o⟩ ⟨hi,ho,hoN,hval,hz⟩;simp only at hi ho hoN hval hz;simp only [go_sem,ht,hoN];refine⟨λhlt=>?_,λhge=>?_⟩
   .have g1:=Qb hx i;intro _;refine ja (λp:Nat×Nat×List Nat=>⟨mkV [(0,wsA x),(1,wsA y),(5,.one (.own 15 1 1 0 N)),(6,.one (.lit (.int .i64 i))),(7,.one (.lit (.int .u64 p.2.1))),(17,.one (.lit (.int .i64 x.length))),(18,.one (.lit (.int .i64 i))),(22,.one (.lit (.int .i64 y.length))),(23,.one (.lit (.int .i64 p.1)))],mkH [(15,⟨1,some ⟨p.2.2.map wc,1,true⟩⟩)]⟩)
     (λp=>p.1<=y.length/\p.2.1<4294967296/\WL p.2.2/\p.2.2.length=N/\val p.2.2+4294967296 ^ i*4294967296 ^ p.1*p.2.1=val (x.take i)*val y+4294967296 ^ i*x.getD i 0*val (y.take p.1)/\∀j,i+y.length<=j->p.2.2.getD j 0=0) (λp=>y.length-p.1) (0,0,o) ?_ ?_ ?_
    .exact za (by simp [bitvec_to_nat]) (kf rfl)
    .exact⟨Nat.zero_le _,by simp,ho,hoN,by simp [val,hval],hz⟩
    .rintro⟨k,c,o⟩ ⟨hk,hc,ho,hoN,hval,hz⟩;simp only at hk hc ho hoN hval hz;simp only [go_sem,ht,hoN];refine⟨λhlt2=>?_,λhge2=>?_⟩
     .have g2:=Qb hy k;have g3:=Qb ho (i+k);have s1:=VR g1 g2 hc g3;have e1:x.getD i 0 % 18446744073709551616=x.getD i 0:=by omega
      have e2:y.getD k 0 % 18446744073709551616=y.getD k 0:=by omega
      have e3:o.getD (i+k) 0 % 18446744073709551616=o.getD (i+k) 0:=by omega
      have hstep:=QL hval (by omega) rfl
      rw [e1,e2,e3,Nat.mod_eq_of_lt (show x.getD i 0*y.getD k 0<18446744073709551616 by omega),Nat.mod_eq_of_lt (show x.getD i 0*y.getD k 0+o.getD (i+k) 0<18446744073709551616 by omega),Nat.mod_eq_of_lt (show x.getD i 0*y.getD k 0+o.getD (i+k) 0+c<18446744073709551616 by omega),Nat.add_comm _ c]
      generalize hs:c+(x.getD i 0*y.getD k 0+o.getD (i+k) 0)=s at s1 hstep;refine⟨hlt,hlt2,by omega,by omega,by omega,by omega,by decide,by omega,by omega,by omega,(k+1,s / 4294967296,o.set (i+k) (s % 4294967296)),za (by simp [bitvec_to_nat]) (kf rfl),⟨by simp only;omega,by simp only;omega,jZ ho _ (Nat.mod_lt _ (by omega)),by simp [hoN],hstep,?_⟩,by simp only;omega⟩
      intro j hj;simp only;rw [Num.getD_set_ne (by omega)];exact hz j hj
     .have e:k=y.length:=by omega
      subst e;have hend:=kW hval (by omega) (hz _ (Nat.le_refl _))
      rw [Nat.mod_eq_of_lt hc];refine λ_=>⟨by omega,by omega,by omega,by omega,(i+1,o.set (i+y.length) c),za (by simp [bitvec_to_nat]) (kf rfl),⟨by simp only;omega,jZ ho _ hc,by simp [hoN],hend,?_⟩,by simp only;omega⟩
      intro j hj;simp only at hj ⊢;rw [Num.getD_set_ne (by omega)];exact hz j (by omega)
   .have e:i=x.length:=by omega
    subst e;rw [Zi (Nat.le_refl _)]at hval;refine⟨ho,by omega,?_⟩
    rw [hval];exact hK
end Go.Abs
end
section
namespace Go.Abs
open Go.Num
variable {P:Program} {Γ:Nat->Spec}
def Xi:AC:=(.o [.m 2 (.c (.one .emp))] [0] (.f (.block 0 (.loop (.f (.o [.M 3 0,.Z 4 3,.I 5 .gtr 4 0,.M 6 5,.V 7 6 true 0,.V 8 6 true 0,.w 9 6 true (.len (.t 8)),.w 10 6 true (.bin .sub (.t 9) (.i 1)),.w 11 6 true (.idx 1 (.t 7) (.t 10)),.U 12 6 true 1 false 11,.w 13 6 true (.bin .eql (.t 12) (.c (.one (.lit (.int .u32 0))))),.P 14 6 13] [0,14] (.cond (.t 14) .skip (.exit 0))) [0] (.block 1 (.p [.M 15 0,.M 16 0,.Z 17 16,.I 18 .sub 17 1,.u 19 (.sl 1 (.t 15) none (some (.t 18))),.M 0 19]))))) [0] (.seq (.p [.M 20 0,.M 2 20]) .ret)))
def vg(f0 f1:Nat):AC:=(.o [.m 2 (.c (.one .emp))] [0] (.f (.o [.M 4 0,.Z 5 4,.N 6 0] [0,5,6] (.block 0 (.loop (.o [.B 7 .lss 6 5] [0,5,6,7] (.f (.cond (.t 7) .skip (.exit 0)) [0,5,6] (.f (.block 1 (.o [.M 8 6,.M 3 8] [0,3,5,6] (.p [.M 9 0,.M 10 3,.M 11 0,.M 12 3,.D 13 f0 11 12,.u 14 (.bin .shr (.t 13) (.c (.one (.lit (.int .u64 1))))),.M 15 0,.M 16 3,.I 17 .add 16 1,.D 18 f0 15 17,.u 19 (.bin .shl (.t 18) (.c (.one (.lit (.int .u64 31))))),.B 20 .or 14 19,.u 21 (.conv .u32 (.t 20)),.J 22 1 9 10,.S 1 22 21]))) [0,5,6] (.p [.I 23 .add 6 1,.M 6 23]))))))) [0] (.seq (.p [.M 24 0,.H 25 f1 24,.M 2 25]) .ret)))
def qe(f0:Nat):AC:=(.o [.m 4 (.c (.one (.lit (.int .u64 0))))] [0,1,4] (.o [.M 7 0,.Z 8 7,.N 9 0] [0,1,4,8,9] (.block 0 (.loop (.o [.B 10 .lss 9 8] [0,1,4,8,9,10] (.f (.cond (.t 10) .skip (.exit 0)) [0,1,4,8,9] (.f (.block 1 (.o [.M 11 9,.M 5 11] [0,1,4,5,8,9] (.o [.M 12 0,.M 13 5,.D 14 f0 12 13,.u 15 (.bin .add (.c (.one (.lit (.int .u64 4294967296)))) (.t 14)),.M 16 1,.M 17 5,.D 18 f0 16 17,.B 19 .sub 15 18,.M 20 4,.B 21 .sub 19 20,.M 6 21] [0,1,5,6,8,9] (.p [.M 22 0,.M 23 5,.M 24 6,.u 25 (.conv .u32 (.t 24)),.M 26 6,.u 27 (.bin .shr (.t 26) (.c (.one (.lit (.int .u64 32))))),.u 28 (.bin .sub (.c (.one (.lit (.int .u64 1)))) (.t 27)),.J 29 1 22 23,.S 1 29 25,.M 4 28])))) [0,1,4,8,9] (.p [.I 30 .add 9 1,.M 9 30]))))))))
theorem qaC(hΓ:Holds P Γ){f:Nat}(hc:check P f=some (21,Xi.strip,[.tmp 2])):Sound P f (.own X9):=by
 refine xf hc hΓ (λd args h K hG=>?_);unfold X9 at hG;split at hG
 case h_2=>exact hG.elim
 rename_i r ver len;obtain⟨l,post,rfl,hr,hl,hll,hK⟩:=hG;refine⟨[r],[⟨(l++post).map wc,1,true⟩],[.one (.own 1048576 ver 1 0 l.length)],by simp,rfl,?_,?_,?_,λhfi=>⟨by simp,?_⟩⟩
 .intro i r' b h1 h2;cases i with
  | zero=>simp only [List.getElem?_cons_zero,Option.some.injEq]at h1 h2;subst h1 h2;exact⟨by rw [hr],rfl,of_eq_true (wd _)⟩
  | succ i=>simp at h1
 .simp [exA,exC,exB,nameOf,pinA,wsA,ws]
 .intro a ha;simp only [List.mem_cons,List.not_mem_nil,or_false]at ha;subst ha;simp [pasA,pasC,pasB,nameOf,pinA]
 simp only [go_sem,Xi,hr];refine ja (λn:Nat=>⟨mkV [(0,.one (.own 1048576 ver 1 0 n))],mkH [(1048576,⟨ver,some ⟨(l++post).map wc,1,true⟩⟩)]⟩)
  (λn=>n<=l.length/\val (l.take n)=val l) id l.length ?_ ?_ ?_
 .exact za (by simp [bitvec_to_nat]) (kf (by simp))
 .simp
 .rintro n ⟨hn,ht⟩;simp only [go_sem,hr];rw [show((n:Int)-1).toNat=n-1 by omega]
  refine λ_=>⟨λh=>λ_=>⟨by omega,by omega,by simp;omega,?_,?_⟩,λh=>?_⟩
  .rw [yaJ (by omega)]
   refine λh0 _=>⟨by omega,by omega,by omega,n-1,za (by simp [bitvec_to_nat]) (kf rfl),⟨by omega,?_⟩,by simp only [id];omega⟩
   have:=Vb l (n-1);rw [show n-1+1=n by omega,h0,Nat.mul_zero,Nat.add_zero]at this
   rw [<-this];exact ht
  .rw [yaJ (by omega)]
   intro h0;have:=Wd (vu hl n) (JH h hn h0);rw [ht]at this;have h2:=hK (l.drop n++post);rw [this,List.length_take,Nat.min_eq_left hn,<-List.append_assoc,List.take_append_drop]at h2;exact h2
  .have h1:n=0:=by omega
   subst h1;have:val l=0:=by rw [<-ht];simp [val]
   have h2:=hK (l++post);rw [this,Zb]at h2;exact h2
theorem vag(hΓ:Holds P Γ){f fw fc:Nat}(hw:Γ fw=.dat true Qn)(hc' : Γ fc=.own X9)(hc:check P f=some (26,(vg fw fc).strip,[.tmp 2])):Sound P f (.own Un):=by
 refine xf hc hΓ (λd args h K hG=>?_);unfold Un at hG;split at hG
 case h_2=>exact hG.elim
 rename_i r ver len;obtain⟨l,post,rfl,hr,hl,hll,hK⟩:=hG;refine⟨[r],[⟨(l++post).map wc,1,true⟩],[.one (.own 1048576 ver 1 0 l.length)],by simp,rfl,?_,?_,?_,λhfi=>⟨by simp,?_⟩⟩
 .intro i r' b h1 h2;cases i with
  | zero=>simp only [List.getElem?_cons_zero,Option.some.injEq]at h1 h2;subst h1 h2;exact⟨by rw [hr],rfl,of_eq_true (wd _)⟩
  | succ i=>simp at h1
 .simp [exA,exC,exB,nameOf,pinA,wsA,ws]
 .intro a ha;simp only [List.mem_cons,List.not_mem_nil,or_false]at ha;subst ha;simp [pasA,pasC,pasB,nameOf,pinA]
 simp only [go_sem,vg,hr];intro h1;refine ja (λo:List Nat=>⟨mkV [(0,.one (.own 1048576 ver 1 0 l.length)),(5,.one (.lit (.int .i64 l.length))),(6,.one (.lit (.int .i64 o.length)))],mkH [(1048576,⟨ver,some ⟨(o++(l.drop o.length++post)).map wc,1,true⟩⟩)]⟩)
  (λo=>o.length<=l.length/\WL o/\val o=val l / 2 % 4294967296 ^ o.length) (λo=>l.length-o.length) [] ?_ ?_ ?_
 .exact za (by simp [bitvec_to_nat]) (kf (by simp))
 .simp [Ub,val];omega
 .rintro o ⟨hoN,ho,hval⟩;have hw2:=Wbb ho hl;simp only [go_sem,hr,hw,hc',xaL hoN,yac hoN,Nat.le_add_right,yal,vR];refine⟨λhlt=>⟨hw2,by decide,by omega,hw2,by decide,⟨rfl,by have:=Qb hl o.length;omega,by omega⟩,hlt,by omega,by omega,?_⟩,λhge=>?_⟩
  .have hd:=uaT (Qb hl o.length) (Qb hl (o.length+1));rw [W4 hl (by omega),Nat.pow_one]at hd
   rw [hd,xar _ hlt];generalize hv:val l / 2 / 4294967296 ^ o.length % 4294967296=v;have hvB:v<4294967296:=by rw [<-hv];exact Nat.mod_lt _ (by omega)
   refine⟨o++[v],za (by simp [bitvec_to_nat]) (kf rfl),⟨by simp;omega,Je.2 ⟨ho,Xb.2 ⟨hvB,Ub⟩⟩,?_⟩,by simp;omega⟩
   rw [Yb,List.length_append,List.length_singleton,WE,hv,<-hval];simp [val]
  .have e:o.length=l.length:=by omega
   have hlt:val l / 2<4294967296 ^ l.length:=Nat.lt_of_le_of_lt (Nat.div_le_self _ _) (Yl hl);rw [e,Nat.mod_eq_of_lt hlt]at hval;rw [List.drop_of_length_le (by omega),List.nil_append,<-e]
   refine⟨o,post,rfl,by simp [qa],ho,by omega,λpost'=>?_⟩
   simp only [go_sem];rw [hval];exact hK post'
theorem Waz(hΓ:Holds P Γ){f fw:Nat}(hw:Γ fw=.dat true Qn)(hc:check P f=some (31,(qe fw).strip,[])):Sound P f (.own Ws):=by
 refine xf hc hΓ (λd args h K hG=>?_);unfold Ws at hG;split at hG
 case h_3=>exact hG.elim
 case h_2=>
  rename_i r ver len b _;obtain⟨y,rfl,hy,l,post,rfl,hr,hl,hll,hle,hK⟩:=hG;refine⟨[r],[⟨(l++post).map wc,1,true⟩],[.one (.own 1048576 ver 1 0 l.length),wsA y],by simp,rfl,?_,?_,?_,λhfi=>⟨by simp,?_⟩⟩
  .intro i r' b h1 h2;cases i with
   | zero=>simp only [List.getElem?_cons_zero,Option.some.injEq]at h1 h2;subst h1 h2;exact⟨by rw [hr],rfl,of_eq_true (wd _)⟩
   | succ i=>simp at h1
  .simp [exA,exC,exB,nameOf,pinA,wsA,ws]
  .intro a ha;simp only [List.mem_cons,List.not_mem_nil,or_false]at ha;rcases ha with rfl | rfl
   .simp [pasA,pasC,pasB,nameOf,pinA]
   .exact .slice _ (of_eq_true (wd _))
  simp only [go_sem,qe,hr];intro h1;refine ja (λp:List Nat×Nat=>⟨mkV [(0,.one (.own 1048576 ver 1 0 l.length)),(1,wsA y),(4,.one (.lit (.int .u64 p.2))),(8,.one (.lit (.int .i64 l.length))),(9,.one (.lit (.int .i64 p.1.length)))],
    mkH [(1048576,⟨ver,some ⟨(p.1++(l.drop p.1.length++post)).map wc,1,true⟩⟩)]⟩)
   (λp=>p.1.length<=l.length/\WL p.1/\p.2<=1/\val p.1+val (y.take p.1.length)=val (l.take p.1.length)+4294967296 ^ p.1.length*p.2) (λp=>l.length-p.1.length) ([],0) ?_ ?_ ?_
  .exact za (by simp [bitvec_to_nat]) (kf (by simp))
  .simp [Ub,val]
  .rintro⟨o,c⟩ ⟨hoN,ho,hc1,hval⟩;simp only at hoN ho hc1 hval;have hw2:=Wbb ho hl;simp only [go_sem,hr,hw,xaL hoN,yac hoN,Nat.le_add_right,yal,vR];refine⟨λhlt=>?_,λhge=>?_⟩
   .obtain⟨s,e1,e2,e3,e4⟩:=vU (Qb hl o.length) (Qb hy o.length) hc1;simp only [e1,e2,yaQ,xar _ hlt];refine⟨hw2,hy,⟨by omega,by decide,by decide⟩,hlt,by omega,by omega,(o++[s % 4294967296],1-s / 4294967296),za (by simp [bitvec_to_nat,e2]) (by first | exact W1 rfl | exact⟨WaN rfl,Ua rfl,trivial⟩),⟨by simp;omega,Je.2 ⟨ho,Xb.2 ⟨Nat.mod_lt _ (by omega),Ub⟩⟩,e4,?_⟩,by simp;omega⟩
    simp only [List.length_append,List.length_cons,List.length_nil,Nat.zero_add,Vb,Yb,qi,Zm,Nat.mul_zero,Nat.add_zero,Nat.pow_succ];exact XF hval e3
   .have e:o.length=l.length:=by omega
    have hv:=uE ho hl e hle hval;have hd:=jz ho;rw [hv,e]at hd;rw [hd]at hK;rw [List.drop_of_length_le (by omega),List.nil_append]
    exact hK
 case h_1=>
  rename_i r ver len r2 ver2 len2;obtain⟨l,post,y,posty,hne,rfl,hr,hl,hll,rfl,hr2,hy,hle,hK⟩:=hG;refine⟨[r,r2],[⟨(l++post).map wc,1,true⟩,⟨(y++posty).map wc,1,true⟩],[.one (.own 1048576 ver 1 0 l.length),.one (.own 1048577 ver2 1 0 y.length)],by simp [hne],rfl,?_,?_,?_,λhfi=>⟨by simp,?_⟩⟩
  .intro i r' b h1 h2;cases i with
   | zero=>simp only [List.getElem?_cons_zero,Option.some.injEq]at h1 h2;subst h1 h2;exact⟨by rw [hr],rfl,of_eq_true (wd _)⟩
   | succ i=>
    cases i with
    | zero=>simp only [List.getElem?_cons_zero,List.getElem?_cons_succ,Option.some.injEq]at h1 h2;subst h1 h2;exact⟨by rw [hr2],rfl,of_eq_true (wd _)⟩
    | succ i=>simp at h1
  .simp [exA,exC,exB,nameOf,pinA,wsA,ws]
  .intro a ha;simp only [List.mem_cons,List.not_mem_nil,or_false]at ha;rcases ha with rfl | rfl
   .simp [pasA,pasC,pasB,nameOf,pinA]
   .simp [pasA,pasC,pasB,nameOf,pinA]
  simp only [go_sem,qe,hr,hr2];intro h1;refine ja (λp:List Nat×Nat=>⟨mkV [(0,.one (.own 1048576 ver 1 0 l.length)),(1,.one (.own 1048577 ver2 1 0 y.length)),(4,.one (.lit (.int .u64 p.2))),(8,.one (.lit (.int .i64 l.length))),(9,.one (.lit (.int .i64 p.1.length)))],
    mkH [(1048576,⟨ver,some ⟨(p.1++(l.drop p.1.length++post)).map wc,1,true⟩⟩),(1048577,⟨ver2,some ⟨(y++posty).map wc,1,true⟩⟩)]⟩)
   (λp=>p.1.length<=l.length/\WL p.1/\p.2<=1/\val p.1+val (y.take p.1.length)=val (l.take p.1.length)+4294967296 ^ p.1.length*p.2) (λp=>l.length-p.1.length) ([],0) ?_ ?_ ?_
  .exact za (by simp [bitvec_to_nat]) ⟨Ua (by simp),Ua rfl,trivial⟩
  .simp [Ub,val]
  .rintro⟨o,c⟩ ⟨hoN,ho,hc1,hval⟩;simp only at hoN ho hc1 hval;have hw2:=Wbb ho hl;simp only [go_sem,hr,hr2,hw,xaL hoN,yac hoN,Nat.le_add_right,yal,vR,List.length_append,List.take_left];refine⟨λhlt=>?_,λhge=>?_⟩
   .obtain⟨s,e1,e2,e3,e4⟩:=vU (Qb hl o.length) (Qb hy o.length) hc1;simp only [e1,e2,yaQ,xar _ hlt];refine⟨hw2,hy,⟨by omega,by decide,by decide⟩,hlt,by omega,by omega,(o++[s % 4294967296],1-s / 4294967296),za (by simp [bitvec_to_nat,e2]) (by first | exact W1 rfl | exact⟨WaN rfl,Ua rfl,trivial⟩),⟨by simp;omega,Je.2 ⟨ho,Xb.2 ⟨Nat.mod_lt _ (by omega),Ub⟩⟩,e4,?_⟩,by simp;omega⟩
    simp only [List.length_append,List.length_cons,List.length_nil,Nat.zero_add,Vb,Yb,qi,Zm,Nat.mul_zero,Nat.add_zero,Nat.pow_succ];exact XF hval e3
   .have e:o.length=l.length:=by omega
    have hv:=uE ho hl e hle hval;have hd:=jz ho;rw [hv,e]at hd;rw [hd]at hK;rw [List.drop_of_length_le (by omega),List.nil_append]
    exact hK
end Go.Abs
end
section
namespace Go.Abs
open Go.Num
variable {P:Program} {Γ:Nat->Spec}
def Ui(f0 f1 f2 f3 f4 f5:Nat):AC:=(.o [.m 4 (.c (.one .emp))] [0,1] (.o [.M 6 0,.u 7 (.callf f0 [(.t 6)]),.M 8 1,.u 9 (.callf f0 [(.t 8)]),.M 0 7,.M 1 9] [0,1] (.f (.o [.M 10 0,.Z 11 10,.I 12 .eql 11 0] [0,1,12] (.cond (.t 12) (.seq (.p [.M 13 1,.M 4 13]) .ret) .skip)) [0,1] (.f (.o [.M 14 1,.Z 15 14,.I 16 .eql 15 0] [0,1,16] (.cond (.t 16) (.seq (.p [.M 17 0,.M 4 17]) .ret) .skip)) [0,1] (.o [.N 5 0] [0,1,5] (.f (.block 0 (.loop (.f (.o [.M 18 0,.u 19 (.idx 1 (.t 18) (.i 0)),.F 20 1 19,.u 21 (.bin .and (.t 20) (.c (.one (.lit (.int .u32 1))))),.u 22 (.bin .eql (.t 21) (.c (.one (.lit (.int .u32 0))))),.M 23 22,.V 24 23 true 1,.w 25 23 true (.idx 1 (.t 24) (.i 0)),.U 26 23 true 1 false 25,.w 27 23 true (.bin .and (.t 26) (.c (.one (.lit (.int .u32 1))))),.w 28 23 true (.bin .eql (.t 27) (.c (.one (.lit (.int .u32 0))))),.P 29 23 28] [0,1,5,29] (.cond (.t 29) .skip (.exit 0))) [0,1,5] (.block 1 (.o [.M 30 0,.H 31 f1 30,.M 32 1,.H 33 f1 32,.M 0 31,.M 1 33] [0,1,5] (.p [.M 34 5,.I 35 .add 34 1,.M 5 35])))))) [0,1,5] (.f (.block 2 (.loop (.f (.o [.M 36 0,.Z 37 36,.I 38 .gtr 37 0] [0,1,5,38] (.cond (.t 38) .skip (.exit 2))) [0,1,5] (.block 3 (.f (.block 4 (.loop (.f (.o [.M 39 0,.u 40 (.idx 1 (.t 39) (.i 0)),.F 41 1 40,.u 42 (.bin .and (.t 41) (.c (.one (.lit (.int .u32 1))))),.u 43 (.bin .eql (.t 42) (.c (.one (.lit (.int .u32 0)))))] [0,1,5,43] (.cond (.t 43) .skip (.exit 4))) [0,1,5] (.block 5 (.p [.M 44 0,.H 45 f1 44,.M 0 45]))))) [0,1,5] (.f (.block 6 (.loop (.f (.o [.M 46 1,.u 47 (.idx 1 (.t 46) (.i 0)),.F 48 1 47,.u 49 (.bin .and (.t 48) (.c (.one (.lit (.int .u32 1))))),.u 50 (.bin .eql (.t 49) (.c (.one (.lit (.int .u32 0)))))] [0,1,5,50] (.cond (.t 50) .skip (.exit 6))) [0,1,5] (.block 7 (.p [.M 51 1,.H 52 f1 51,.M 1 52]))))) [0,1,5] (.f (.o [.M 53 0,.M 54 1,.D 55 f2 53 54,.I 56 .lss 55 0] [0,1,5,56] (.cond (.t 56) (.p [.M 57 1,.M 58 0,.M 0 57,.M 1 58]) .skip)) [0,1,5] (.o [.M 59 0,.M 60 1,.D 61 f3 59 60] [0,1,5] (.p [.M 62 0,.H 63 f4 62,.M 0 63]))))))))) [1,5] (.f (.o [.M 64 5,.N 65 0] [1,64,65] (.fz [1] (.block 8 (.loop (.o [.B 66 .lss 65 64] [1,64,65,66] (.f (.cond (.t 66) .skip (.exit 8)) [1,64,65] (.f (.block 9 (.p [.M 67 1,.M 68 1,.D 69 f5 67 68,.M 1 69])) [1,64,65] (.p [.I 70 .add 65 1,.M 65 70])))))))) [1] (.seq (.p [.M 71 1,.M 4 71]) .ret)))))))))
theorem Vae(hΓ:Holds P Γ){f ft fh fc fk fu fp:Nat}(ht:Γ ft=.fresh 1 Qw)(hh:Γ fh=.own Un)(hcm:Γ fc=.dat true kw)(hk:Γ fk=.own Ws)(hu:Γ fu=.own X9)(hp:Γ fp=.dat false Qt)
    (hc:check P f=some (72,(Ui ft fh fc fk fu fp).strip,[.tmp 4])):Sound P f (.dat false vC):=by
  refine Qa hc yau hΓ (λargs K hcl hfi hG=>?_);match args,hG with
  | [a,b],hG=>
    obtain⟨x,rfl,hx,y,rfl,hy,hxl,hyl,hK⟩:=hG;refine⟨by simp,?_⟩
    simp only [go_sem,Ui,ht,hh,hcm,hk,hu,hp];have hxv:=Xu (Yl hx);have hyv:=Xu (Yl hy);refine⟨hx,by omega,hy,by omega,λ_=>⟨λh0=>?_,λh0 _=>⟨λh1=>?_,λh1=>?_⟩⟩⟩
    . rw [Vt.1 h0,Nat.gcd_zero_left]at hK;exact hK
    . rw [Vt.1 h1,Nat.gcd_zero_right]at hK;exact hK
    rw [Vt]at h0 h1;refine ja (λp:(Nat×List Nat)×(Nat×List Nat)×Nat=>⟨mkV [(0,.one (.own 7 1 1 0 (digs p.1.1).length)),(1,.one (.own 9 1 1 0 (digs p.2.1.1).length)),(5,.one (.lit (.int .i64 p.2.2)))],mkH [(7,⟨1,some ⟨(digs p.1.1++p.1.2).map wc,1,true⟩⟩),(9,⟨1,some ⟨(digs p.2.1.1++p.2.1.2).map wc,1,true⟩⟩)]⟩)
      (λp=>p.1.1≠0/\p.2.1.1≠0/\p.1.1<=val x/\p.2.1.1<=val y/\p.1.1*2 ^ p.2.2<=val x/\Nat.gcd p.1.1 p.2.1.1*2 ^ p.2.2=Nat.gcd (val x) (val y)) (λp=>p.1.1) ((val x,[]),(val y,[]),0) ?_ ?_ ?_
    . exact za (by simp [bitvec_to_nat]) ⟨Ua (by simp),Ua (by simp),trivial⟩
    . exact⟨h0,h1,Nat.le_refl _,Nat.le_refl _,by simp,by simp⟩
    . rintro⟨⟨a,pa⟩,⟨b,pb⟩,k⟩ ⟨ha,hb,hax,hby,hak,hg⟩
      simp only at ha hb hax hby hak hg;have hkb:k<32*x.length:=Vbf (n:=val x) (Nat.le_trans (Nat.le_mul_of_pos_left _ (by omega)) hak) (Yl hx)
      have hal:=Nat.le_trans (Va hax) hxv;have hbl:=Nat.le_trans (Va hby) hyv;have hap:=Vk ha;have hbp:=Vk hb;simp only [go_sem,hh,hcm,hk,hu,hp,Jl,zt ha,zt hb,hap,hbp,List.length_append];refine share4 (by omega) (by omega) (Nat.mod_lt _ (by omega)) (by omega) (by omega) (Nat.mod_lt _ (by omega)) (λhae hbe=>?_) (λhodd=>?_)
      . simp only [Un]
        refine⟨digs a,pa,rfl,by simp [qa],ka _,by omega,λpa'=>?_⟩
        refine⟨digs b,pb,rfl,by simp [upd,qa],ka _,by omega,λpb'=>?_⟩
        simp only [go_sem,Wa];refine⟨by omega,((a / 2,pa'),(b / 2,pb'),k+1),za (by simp [bitvec_to_nat]) ⟨Ua rfl,Ua rfl,trivial⟩,⟨by simp only;omega,by simp only;omega,by simp only;omega,by simp only;omega,?_,Vbg (by omega) (by omega) hg⟩,by simp only;omega⟩
        simp only;refine Nat.le_trans ?_ hak;rw [Nat.pow_succ,Nat.mul_comm (2 ^ k) 2,<-Nat.mul_assoc];exact Nat.mul_le_mul_right _ (by omega)
      . refine ja (λp : Bool × (Nat × List Nat) × (Nat × List Nat) => match p.1 with
            | false=>⟨mkV [(0,.one (.own 7 1 1 0 (digs p.2.1.1).length)),(1,.one (.own 9 1 1 0 (digs p.2.2.1).length)),(5,.one (.lit (.int .i64 k)))],mkH [(7,⟨1,some ⟨(digs p.2.1.1++p.2.1.2).map wc,1,true⟩⟩),(9,⟨1,some ⟨(digs p.2.2.1++p.2.2.2).map wc,1,true⟩⟩)]⟩
            | true=>⟨mkV [(0,.one (.own 9 1 1 0 (digs p.2.1.1).length)),(1,.one (.own 7 1 1 0 (digs p.2.2.1).length)),(5,.one (.lit (.int .i64 k)))],mkH [(9,⟨1,some ⟨(digs p.2.1.1++p.2.1.2).map wc,1,true⟩⟩),(7,⟨1,some ⟨(digs p.2.2.1++p.2.2.2).map wc,1,true⟩⟩)]⟩)
          (λp=>p.2.2.1≠0/\(p.2.1.1 % 2≠0∨p.2.2.1 % 2≠0)/\(digs p.2.1.1).length<=17179869184/\(digs p.2.2.1).length<=17179869184/\Nat.gcd p.2.1.1 p.2.2.1*2 ^ k=Nat.gcd (val x) (val y)) (λp=>p.2.1.1+p.2.2.1) (false,(a,pa),(b,pb)) ?_ ?_ ?_
        . exact za (by simp [bitvec_to_nat]) ⟨Ua rfl,Ua rfl,trivial⟩
        . exact⟨hb,by simp only;omega,by simp only;omega,by simp only;omega,hg⟩
        clear hax hby hak hal hbl hap hbp hg ha hb hodd;rintro⟨sw,⟨a,pa⟩,⟨b,pb⟩⟩ ⟨hb,hodd,hal,hbl,hg⟩;simp only at hb hodd hal hbl hg;cases sw with
        | false=>
          simp only [go_sem,hh,hcm,hk,hu,hp,Jl,Wa,List.length_append,Nat.le_add_right,List.take_left];refine λ_=>⟨λhap=>?_,λhap=>?_⟩
          . have ha:a≠0:=λe=>by rw [e,Zb]at hap;simp at hap
            refine ja (λp:Nat×List Nat=>⟨mkV [(0,.one (.own 7 1 1 0 (digs p.1).length)),(1,.one (.own 9 1 1 0 (digs b).length)),(5,.one (.lit (.int .i64 k)))],mkH [(7,⟨1,some ⟨(digs p.1++p.2).map wc,1,true⟩⟩),(9,⟨1,some ⟨(digs b++pb).map wc,1,true⟩⟩)]⟩)
              (λp=>p.1≠0/\p.1<=a/\(p.1 % 2≠0∨b % 2≠0)/\Nat.gcd p.1 b*2 ^ k=Nat.gcd (val x) (val y)) (λp=>p.1) (a,pa) ?_ ?_ ?_
            . exact za (by simp [bitvec_to_nat]) ⟨Ua rfl,Ua rfl,trivial⟩
            . exact⟨ha,Nat.le_refl _,hodd,hg⟩
            . rintro⟨a',pa⟩ ⟨ha',haa,hodd,hg⟩
              simp only at ha' haa hodd hg;have hap:=Vk ha';simp only [go_sem,hh,hcm,hk,hu,hp,Jl,Wa,List.length_append,Nat.le_add_right,List.take_left,zt ha',hap];refine⟨by omega,by omega,Nat.mod_lt _ (by omega),λhe=>?_,λhao=>?_⟩
              . simp only [Un]
                refine⟨digs a',pa,rfl,by simp [qa],ka _,by have:=Va haa;omega,λpa'=>?_⟩
                simp only [go_sem,hh,hcm,hk,hu,hp,Jl,Wa,List.length_append,Nat.le_add_right,List.take_left];refine⟨(a' / 2,pa'),za (by simp [bitvec_to_nat]) ⟨Ua rfl,Ua rfl,trivial⟩,⟨by simp only;omega,by simp only;omega,.inr (by omega),?_⟩,by simp only;omega⟩
                rw [<-hg];simp only;rw [YaC (by omega) (by omega)]
              . refine ja (λp:Nat×List Nat=>⟨mkV [(0,.one (.own 7 1 1 0 (digs a').length)),(1,.one (.own 9 1 1 0 (digs p.1).length)),(5,.one (.lit (.int .i64 k)))],mkH [(7,⟨1,some ⟨(digs a'++pa).map wc,1,true⟩⟩),(9,⟨1,some ⟨(digs p.1++p.2).map wc,1,true⟩⟩)]⟩)
                  (λp=>p.1≠0/\p.1<=b/\Nat.gcd a' p.1*2 ^ k=Nat.gcd (val x) (val y)) (λp=>p.1) (b,pb) ?_ ?_ ?_
                . exact za (by simp [bitvec_to_nat]) ⟨Ua rfl,Ua rfl,trivial⟩
                . exact⟨hb,Nat.le_refl _,hg⟩
                . rintro⟨b',pb⟩ ⟨hb',hbb,hg⟩
                  simp only at hb' hbb hg;have hbp:=Vk hb';simp only [go_sem,hh,hcm,hk,hu,hp,Jl,Wa,List.length_append,Nat.le_add_right,List.take_left,zt hb',hbp];refine⟨by omega,by omega,Nat.mod_lt _ (by omega),λhe=>?_,λhbo=>?_⟩
                  . simp only [Un]
                    refine⟨digs b',pb,rfl,by simp [qa],ka _,by have:=Va hbb;omega,λpb'=>?_⟩
                    simp only [go_sem,hh,hcm,hk,hu,hp,Jl,Wa,List.length_append,Nat.le_add_right,List.take_left];refine⟨(b' / 2,pb'),za (by simp [bitvec_to_nat]) ⟨Ua rfl,Ua rfl,trivial⟩,⟨by simp only;omega,by simp only;omega,?_⟩,by simp only;omega⟩
                    rw [<-hg];simp only;rw [Ja1 (by omega) (by omega)]
                  . have hlb:=Va hbb
                    have hla:=Va haa;refine⟨ka _,ka _,λhlt=>?_,λhge=>?_⟩
                    . have hlt:=JF.1 hlt
                      simp only [Ws];have e:val (dig (digs b').length (val (digs b')-val (digs a')))=b' - a':=by
                        rw [uj,Wa,Wa,Nat.mod_eq_of_lt];exact Nat.lt_of_le_of_lt (Nat.sub_le _ _) (zk b')
                      refine⟨digs b',pb,digs a',pa,by decide,rfl,by simp [qa],ka _,by omega,rfl,by simp [qa],ka _,by rw [Wa,Wa];omega,?_⟩
                      refine⟨dig (digs b').length (val (digs b')-val (digs a')),pb,(wa _ _).symm,by simp [upd,qa],yk _ _,by omega,λpost'=>?_⟩
                      simp only [go_sem,e];have hle:=Nat.le_trans (Va (Nat.sub_le b' a')) (Va hbb);refine⟨(true,(b' - a',post'),(a',pa)),za (by simp [bitvec_to_nat]) ⟨Ua rfl,Ua rfl,trivial⟩,⟨ha',.inr (by simp only;omega),by simp only;omega,by simp only;omega,?_⟩,by simp only;omega⟩
                      simp only;rw [jU (by omega),Nat.gcd_comm];exact hg
                    . have hge:=mt JF.2 hge
                      simp only [Ws];have e:val (dig (digs a').length (val (digs a')-val (digs b')))=a' - b':=by
                        rw [uj,Wa,Wa,Nat.mod_eq_of_lt];exact Nat.lt_of_le_of_lt (Nat.sub_le _ _) (zk a')
                      refine⟨digs a',pa,digs b',pb,by decide,rfl,by simp [qa],ka _,by omega,rfl,by simp [qa],ka _,by rw [Wa,Wa];omega,?_⟩
                      refine⟨dig (digs a').length (val (digs a')-val (digs b')),pa,(wa _ _).symm,by simp [upd,qa],yk _ _,by omega,λpost'=>?_⟩
                      simp only [go_sem,e];have hle:=Nat.le_trans (Va (Nat.sub_le a' b')) (Va haa);refine⟨(false,(a' - b',post'),(b',pb)),za (by simp [bitvec_to_nat]) ⟨Ua rfl,Ua rfl,trivial⟩,⟨hb',.inr (by simp only;omega),by simp only;omega,by simp only;omega,?_⟩,by simp only;omega⟩
                      simp only;rw [jU (by omega)];exact hg
          . have ha:a=0:=Vt.1 (by omega)
            rw [ha,Nat.gcd_zero_left]at hg;refine ja (λj:Nat=>⟨mkV [(1,.one (ws (digs (b*2 ^ j)))),(64,.one (.lit (.int .i64 k))),(65,.one (.lit (.int .i64 j)))],mkH []⟩) (λj=>j<=k) (λj=>k-j) 0 ?_ ?_ ?_
            . exact za (by simp [bitvec_to_nat]) trivial
            . exact Nat.zero_le _
            . rintro j hj
              simp only [go_sem,hh,hcm,hk,hu,hp,Jl,Wa,List.length_append,Nat.le_add_right,List.take_left];refine⟨λhlt=>?_,λhge=>?_⟩
              . have hj1:b*2 ^ (j+1)<=val x:=by
                  refine Nat.le_trans (Nat.mul_le_mul_left b (Nat.pow_le_pow_right (by omega) hlt)) ?_
                  rw [hg];exact Nat.le_of_dvd (by omega) (Nat.gcd_dvd_left _ _)
                have e:b*2 ^ j+b*2 ^ j=b*2 ^ (j+1):=by rw [Nat.pow_succ,<-Nat.mul_assoc];omega
                have hl1:=Nat.le_trans (Va (show b*2 ^ j<=val x by omega)) hxv
                rw [e];refine⟨ka _,ka _,by omega,by omega,by omega,j+1,za (by simp [bitvec_to_nat]) trivial,by omega,by omega⟩
              . have e:j=k:=by omega
                rw [e,hg];exact hK
        | true=>
          simp only [go_sem,hh,hcm,hk,hu,hp,Jl,Wa,List.length_append,Nat.le_add_right,List.take_left];refine λ_=>⟨λhap=>?_,λhap=>?_⟩
          . have ha:a≠0:=λe=>by rw [e,Zb]at hap;simp at hap
            refine ja (λp:Nat×List Nat=>⟨mkV [(0,.one (.own 9 1 1 0 (digs p.1).length)),(1,.one (.own 7 1 1 0 (digs b).length)),(5,.one (.lit (.int .i64 k)))],mkH [(9,⟨1,some ⟨(digs p.1++p.2).map wc,1,true⟩⟩),(7,⟨1,some ⟨(digs b++pb).map wc,1,true⟩⟩)]⟩)
              (λp=>p.1≠0/\p.1<=a/\(p.1 % 2≠0∨b % 2≠0)/\Nat.gcd p.1 b*2 ^ k=Nat.gcd (val x) (val y)) (λp=>p.1) (a,pa) ?_ ?_ ?_
            . exact za (by simp [bitvec_to_nat]) ⟨Ua rfl,Ua rfl,trivial⟩
            . exact⟨ha,Nat.le_refl _,hodd,hg⟩
            . rintro⟨a',pa⟩ ⟨ha',haa,hodd,hg⟩
              simp only at ha' haa hodd hg;have hap:=Vk ha';simp only [go_sem,hh,hcm,hk,hu,hp,Jl,Wa,List.length_append,Nat.le_add_right,List.take_left,zt ha',hap];refine⟨by omega,by omega,Nat.mod_lt _ (by omega),λhe=>?_,λhao=>?_⟩
              . simp only [Un]
                refine⟨digs a',pa,rfl,by simp [qa],ka _,by have:=Va haa;omega,λpa'=>?_⟩
                simp only [go_sem,hh,hcm,hk,hu,hp,Jl,Wa,List.length_append,Nat.le_add_right,List.take_left];refine⟨(a' / 2,pa'),za (by simp [bitvec_to_nat]) ⟨Ua rfl,Ua rfl,trivial⟩,⟨by simp only;omega,by simp only;omega,.inr (by omega),?_⟩,by simp only;omega⟩
                rw [<-hg];simp only;rw [YaC (by omega) (by omega)]
              . refine ja (λp:Nat×List Nat=>⟨mkV [(0,.one (.own 9 1 1 0 (digs a').length)),(1,.one (.own 7 1 1 0 (digs p.1).length)),(5,.one (.lit (.int .i64 k)))],mkH [(9,⟨1,some ⟨(digs a'++pa).map wc,1,true⟩⟩),(7,⟨1,some ⟨(digs p.1++p.2).map wc,1,true⟩⟩)]⟩)
                  (λp=>p.1≠0/\p.1<=b/\Nat.gcd a' p.1*2 ^ k=Nat.gcd (val x) (val y)) (λp=>p.1) (b,pb) ?_ ?_ ?_
                . exact za (by simp [bitvec_to_nat]) ⟨Ua rfl,Ua rfl,trivial⟩
                . exact⟨hb,Nat.le_refl _,hg⟩
                . rintro⟨b',pb⟩ ⟨hb',hbb,hg⟩
                  simp only at hb' hbb hg;have hbp:=Vk hb';simp only [go_sem,hh,hcm,hk,hu,hp,Jl,Wa,List.length_append,Nat.le_add_right,List.take_left,zt hb',hbp];refine⟨by omega,by omega,Nat.mod_lt _ (by omega),λhe=>?_,λhbo=>?_⟩
                  . simp only [Un]
                    refine⟨digs b',pb,rfl,by simp [qa],ka _,by have:=Va hbb;omega,λpb'=>?_⟩
                    simp only [go_sem,hh,hcm,hk,hu,hp,Jl,Wa,List.length_append,Nat.le_add_right,List.take_left];refine⟨(b' / 2,pb'),za (by simp [bitvec_to_nat]) ⟨Ua rfl,Ua rfl,trivial⟩,⟨by simp only;omega,by simp only;omega,?_⟩,by simp only;omega⟩
                    rw [<-hg];simp only;rw [Ja1 (by omega) (by omega)]
                  . have hlb:=Va hbb
                    have hla:=Va haa;refine⟨ka _,ka _,λhlt=>?_,λhge=>?_⟩
                    . have hlt:=JF.1 hlt
                      simp only [Ws];have e:val (dig (digs b').length (val (digs b')-val (digs a')))=b' - a':=by
                        rw [uj,Wa,Wa,Nat.mod_eq_of_lt];exact Nat.lt_of_le_of_lt (Nat.sub_le _ _) (zk b')
                      refine⟨digs b',pb,digs a',pa,by decide,rfl,by simp [qa],ka _,by omega,rfl,by simp [qa],ka _,by rw [Wa,Wa];omega,?_⟩
                      refine⟨dig (digs b').length (val (digs b')-val (digs a')),pb,(wa _ _).symm,by simp [upd,qa],yk _ _,by omega,λpost'=>?_⟩
                      simp only [go_sem,e];have hle:=Nat.le_trans (Va (Nat.sub_le b' a')) (Va hbb);refine⟨(false,(b' - a',post'),(a',pa)),za (by simp [bitvec_to_nat]) ⟨Ua rfl,Ua rfl,trivial⟩,⟨ha',.inr (by simp only;omega),by simp only;omega,by simp only;omega,?_⟩,by simp only;omega⟩
                      simp only;rw [jU (by omega),Nat.gcd_comm];exact hg
                    . have hge:=mt JF.2 hge
                      simp only [Ws];have e:val (dig (digs a').length (val (digs a')-val (digs b')))=a' - b':=by
                        rw [uj,Wa,Wa,Nat.mod_eq_of_lt];exact Nat.lt_of_le_of_lt (Nat.sub_le _ _) (zk a')
                      refine⟨digs a',pa,digs b',pb,by decide,rfl,by simp [qa],ka _,by omega,rfl,by simp [qa],ka _,by rw [Wa,Wa];omega,?_⟩
                      refine⟨dig (digs a').length (val (digs a')-val (digs b')),pa,(wa _ _).symm,by simp [upd,qa],yk _ _,by omega,λpost'=>?_⟩
                      simp only [go_sem,e];have hle:=Nat.le_trans (Va (Nat.sub_le a' b')) (Va haa);refine⟨(true,(a' - b',post'),(b',pb)),za (by simp [bitvec_to_nat]) ⟨Ua rfl,Ua rfl,trivial⟩,⟨hb',.inr (by simp only;omega),by simp only;omega,by simp only;omega,?_⟩,by simp only;omega⟩
                      simp only;rw [jU (by omega)];exact hg
          . have ha:a=0:=Vt.1 (by omega)
            rw [ha,Nat.gcd_zero_left]at hg;refine ja (λj:Nat=>⟨mkV [(1,.one (ws (digs (b*2 ^ j)))),(64,.one (.lit (.int .i64 k))),(65,.one (.lit (.int .i64 j)))],mkH []⟩) (λj=>j<=k) (λj=>k-j) 0 ?_ ?_ ?_
            . exact za (by simp [bitvec_to_nat]) trivial
            . exact Nat.zero_le _
            . rintro j hj
              simp only [go_sem,hh,hcm,hk,hu,hp,Jl,Wa,List.length_append,Nat.le_add_right,List.take_left];refine⟨λhlt=>?_,λhge=>?_⟩
              . have hj1:b*2 ^ (j+1)<=val x:=by
                  refine Nat.le_trans (Nat.mul_le_mul_left b (Nat.pow_le_pow_right (by omega) hlt)) ?_
                  rw [hg];exact Nat.le_of_dvd (by omega) (Nat.gcd_dvd_left _ _)
                have e:b*2 ^ j+b*2 ^ j=b*2 ^ (j+1):=by rw [Nat.pow_succ,<-Nat.mul_assoc];omega
                have hl1:=Nat.le_trans (Va (show b*2 ^ j<=val x by omega)) hxv
                rw [e];refine⟨ka _,ka _,by omega,by omega,by omega,j+1,za (by simp [bitvec_to_nat]) trivial,by omega,by omega⟩
              . have e:j=k:=by omega
                rw [e,hg];exact hK
end Go.Abs
end
section
namespace Go.Abs
open Go.Num
variable {P:Program} {Γ:Nat->Spec}
def Qf(f0 f1 f2 f3:Nat):AC:=(.o [.m 4 (.c (.one .emp)),.m 5 (.c (.one .emp))] [0,1] (.o [.M 11 0,.Z 12 11,.u 13 (.mk 1 [(.lit (.int .u32 0))] (.t 12) (.t 12)),.M 6 13] [0,1,6] (.o [.M 14 1,.Z 15 14,.I 16 .add 15 1,.u 17 (.mk 1 [(.lit (.int .u32 0))] (.t 16) (.t 16)),.M 7 17] [0,1,6,7] (.f (.o [.M 18 0,.H 19 f0 18,.I 20 .sub 19 1,.M 8 20] [0,1,6,7,8] (.block 0 (.loop (.f (.o [.M 21 8,.I 22 .geq 21 0] [0,1,6,7,8,22] (.cond (.t 22) .skip (.exit 0))) [0,1,6,7,8] (.f (.block 1 (.o [.M 25 0,.M 26 8,.I 27 .quo 26 32,.J 28 1 25 27,.F 29 1 28,.M 30 8,.I 31 .rem 30 32,.B 32 .shr 29 31,.u 33 (.bin .and (.t 32) (.c (.one (.lit (.int .u32 1))))),.M 9 33] [0,1,6,7,8,9] (.f (.o [.M 34 7,.Z 35 34,.N 36 0] [0,1,6,7,8,9,35,36] (.block 2 (.loop (.o [.B 37 .lss 36 35] [0,1,6,7,8,9,35,36,37] (.f (.cond (.t 37) .skip (.exit 2)) [0,1,6,7,8,9,35,36] (.f (.block 3 (.o [.M 38 36,.M 10 38] [0,1,6,7,8,9,10,35,36] (.y [.M 39 7,.M 40 10,.M 41 7,.M 42 10,.J 43 1 41 42,.F 44 1 43,.u 45 (.bin .shl (.t 44) (.c (.one (.lit (.int .u64 1))))),.M 46 9,.B 47 .or 45 46,.M 48 7,.M 49 10,.J 50 1 48 49,.F 51 1 50,.u 52 (.bin .shr (.t 51) (.c (.one (.lit (.int .u64 31))))),.J 53 1 39 40,.S 1 53 47,.M 9 52]))) [0,1,6,7,8,9,35,36] (.p [.I 54 .add 36 1,.M 36 54]))))))) [0,1,6,7,8] (.o [.M 55 7,.M 56 1,.D 57 f1 55 56,.I 58 .geq 57 0] [0,1,6,7,8,58] (.cond (.t 58) (.o [.M 59 7,.M 60 1,.D 61 f2 59 60] [0,1,6,7,8] (.y [.M 62 6,.M 63 8,.I 64 .quo 63 32,.J 65 1 62 64,.F 66 1 65,.M 67 8,.I 68 .rem 67 32,.u 69 (.bin .shl (.c (.one (.lit (.int .u32 1)))) (.t 68)),.B 70 .or 66 69,.J 71 1 62 64,.S 1 71 70])) .skip))))) [0,1,6,7,8] (.p [.M 23 8,.I 24 .sub 23 1,.M 8 24])))))) [6,7] (.seq (.p [.M 72 6,.u 73 (.callf f3 [(.t 72)]),.M 74 7,.u 75 (.callf f3 [(.t 74)]),.M 4 73,.M 5 75]) .ret)))))
theorem yK(hΓ:Holds P Γ){f fb fc fk ft:Nat}(hb:Γ fb=.dat true Zy)(hcm:Γ fc=.dat true kw)(hk:Γ fk=.own Ws)(ht:Γ ft=.fresh 1 Qw)
  (hc:check P f=some (76,(Qf fb fc fk ft).strip,[.tmp 4,.tmp 5])):Sound P f (.dat false Uk):=by
 refine Qa hc ZI hΓ (λargs K hcl hfi hG=>?_);match args,hG with
 | [a,b],hG=>
  obtain⟨x,rfl,hx,y,rfl,hy,hnx,hny,hy0,hxl,hyl,hK⟩:=hG;refine⟨by simp,?_⟩
  simp only [go_sem,Qf,hb,hcm,hk,ht];intro h1;refine⟨by omega,λ_=>⟨by omega,by omega,hx,by omega,?_⟩⟩
  obtain⟨n,hn⟩:∃n,(if x.length=0 then 0 else 32*(x.length-1)+bln (x.getD (x.length-1) 0))=n:=⟨_,rfl⟩
  have hnlt:val x<2 ^ n:=by
   rw [<-hn];split
   .rename_i h0;rw [List.eq_nil_of_length_eq_zero h0];simp [val]
   .exact ja9 hx ‹_›
  have hnb:n<=32*x.length:=by
   rw [<-hn];split
   .omega
   .have:=vaZ (k:=32) (n:=x.getD (x.length-1) 0) (Qb hx _);omega
  have hy1:0<val y:=by
   have:=Zc hny hy0;omega
  rw [hn];refine⟨by omega,?_⟩
  refine ja (λp:Nat×List Nat×List Nat=>⟨mkV [(0,wsA x),(1,wsA y),(6,.one (.own 13 1 1 0 x.length)),(7,.one (.own 17 1 1 0 (y.length+1))),(8,.one (.lit (.int .i64 ((p.1:Int)-1))))],mkH [(13,⟨1,some ⟨p.2.1.map wc,1,true⟩⟩),(17,⟨1,some ⟨p.2.2.map wc,1,true⟩⟩)]⟩)
   (λp=>p.1<=n/\WL p.2.1/\p.2.1.length=x.length/\val p.2.1=val x / 2 ^ p.1 / val y*2 ^ p.1/\WL p.2.2/\p.2.2.length=y.length+1/\val p.2.2=val x / 2 ^ p.1 % val y) (λp=>p.1) (n,List.replicate x.length 0,List.replicate (y.length+1) 0) ?_ ?_ ?_
  .exact za (by simp [bitvec_to_nat]) ⟨Ua (by simp),Ua (by simp),trivial⟩
  .simp [VaQ,JR,Nat.div_eq_of_lt hnlt]
  .rintro⟨n',q,r⟩ ⟨hn',hq,hql,hqv,hr,hrl,hrv⟩;simp only at hn' hq hql hqv hr hrl hrv;cases n' with
   | zero=>
    have e:((0:Nat):Int)-1 = -1:=rfl;have e' : ((0:Int)<=-1)=False:=by simp
    simp only [go_sem,hb,hcm,hk,ht,e,e',hql,hrl];simp only [Nat.pow_zero,Nat.div_one,Nat.mul_one]at hqv hrv;rw [hqv,hrv];exact⟨hq,by omega,hr,by omega,hK⟩
   | succ i=>
    have e:((i+1:Nat):Int)-1=(i:Int):=by omega
    have e1:(i:Int) / 32=((i / 32:Nat):Int):=rfl;have e2:(i:Int) % 32=((i % 32:Nat):Int):=rfl;have e3:=xbj hx i;have hi32:i / 32<x.length:=by omega
    have hib:i % 32<32:=Nat.mod_lt _ (by omega)
    simp only [go_sem,hb,hcm,hk,ht,e,e1,e2,e3,Jl,hql,hrl];have g1:=Qb hx (i / 32);have g2:x.getD (i / 32) 0 / 2 ^ (i % 32)<2 ^ IntKind.u32.bits:=Nat.lt_of_le_of_lt (Nat.div_le_self _ _) g1;have g3:((i % 32:Nat):Int)<=IntKind.u32.bits:=by have:IntKind.u32.bits=32:=rfl;omega
    refine⟨by decide,by omega,hi32,by decide,by omega,g2,λhyl'=>?_⟩
    generalize hbit:val x / 2 ^ i % 2=bit;have hbit1:bit<=1:=by omega
    refine ja (λp:List Nat×Nat=>⟨mkV [(0,wsA x),(1,wsA y),(6,.one (.own 13 1 1 0 x.length)),(7,.one (.own 17 1 1 0 (y.length+1))),(8,.one (.lit (.int .i64 i))),(9,.one (.lit (.int .u32 p.2))),(35,.one (.lit (.int .i64 (y.length+1:Nat)))),(36,.one (.lit (.int .i64 p.1.length)))],
      mkH [(13,⟨1,some ⟨q.map wc,1,true⟩⟩),(17,⟨1,some ⟨(p.1++r.drop p.1.length).map wc,1,true⟩⟩)]⟩)
     (λp=>p.1.length<=r.length/\WL p.1/\p.2<=1/\val p.1+4294967296 ^ p.1.length*p.2=2*val (r.take p.1.length)+bit) (λp=>r.length-p.1.length) ([],bit) ?_ ?_ ?_
    .exact za (by simp [bitvec_to_nat]) ⟨Ua rfl,Ua (by simp),trivial⟩
    .simp [Ub,val,hbit1]
    .rintro⟨o,c⟩ ⟨hol,ho,hc1,hov⟩;simp only at hol ho hc1 hov;by_cases hlt:o.length<y.length+1
     .have g4:=Qb hr o.length;simp only [go_sem,hb,hcm,hk,ht,qbe hol,hrl,hlt,vR,not_true,Jbp hc1,Jbf _ (show o.length<r.length by omega)]
      refine⟨⟨rfl,by decide,by decide⟩,⟨rfl,Nat.mod_lt _ (by omega),by omega⟩,⟨by decide,by decide⟩,by omega,(o++[r.getD o.length 0*2 % 4294967296+c],r.getD o.length 0 / 2147483648),za (by simp [bitvec_to_nat]) ⟨Ua rfl,Ua rfl,trivial⟩,⟨by simp;omega,Je.2 ⟨ho,Xb.2 ⟨by omega,Ub⟩⟩,by simp only;omega,?_⟩,by simp;omega⟩
      simp only [List.length_append,List.length_cons,List.length_nil,Nat.zero_add,Vb,Yb,qi,Zm,Nat.mul_zero,Nat.add_zero,Nat.pow_succ];exact uaU hov g4
     .have hoe:o.length=y.length+1:=by omega
      have hd:r.drop (y.length+1)=[]:=List.drop_of_length_le (by omega)
      simp only [go_sem,hb,hcm,hk,ht,hd,hoe,Nat.lt_irrefl,e1,e2];have hrlt:val r<val y:=by rw [hrv];exact Nat.mod_lt _ hy1
      have hylt:=Yl hy;rw [List.take_of_length_le (by omega),hoe,Nat.pow_succ]at hov
      have hc0:c=0:=by
       rcases Nat.eq_zero_or_pos c with h | h
       .exact h
       .exfalso;have:4294967296 ^ y.length*4294967296*1<=4294967296 ^ y.length*4294967296*c:=Nat.mul_le_mul_left _ h;omega
      subst hc0;rw [Nat.mul_zero,Nat.add_zero]at hov;refine⟨ho,hy,λh=>?_,λh=>?_⟩
      .have hge:=qs.1 h;have hs:=YaB hy1 hbit hqv hrv (by omega)
       simp only [Ws,jE];refine⟨hy,o,[],hoe.symm,by simp [qa],ho,by omega,hge,?_⟩
       have hp32:2 ^ (i % 32)<4294967296:=Nat.lt_of_lt_of_le (Nat.pow_lt_pow_right (by omega) hib) (by decide)
       have e4:(1*2 ^ (i % 32) % 4294967296:Int)=((2 ^ (i % 32):Nat):Int):=by
        rw [Int.one_mul,show((2:Int) ^ (i % 32))=((2 ^ (i % 32):Nat):Int) by rw [Int.natCast_pow];rfl]
        generalize 2 ^ (i % 32)=w at hp32 ⊢;omega
       have e5:=wbf hib (WaT hq hqv);have g5:=Qb hq (i / 32);simp only [go_sem,e1,e2,hql,wa,hoe,e4,e5];have hsv:=JV q (i / 32) (q.getD (i / 32) 0+2 ^ (i % 32)) (by omega)
       have hpp:=YG i;rw [Nat.mul_add]at hsv;have hv2:val (q.set (i / 32) (q.getD (i / 32) 0+2 ^ (i % 32)))=val q+2 ^ i:=by omega
       have hsum:q.getD (i / 32) 0+2 ^ (i % 32)<4294967296:=by
        rw [<-e5];exact Nat.or_lt_two_pow (n:=32) g5 hp32
       refine⟨by decide,by omega,hi32,hi32,by decide,⟨rfl,by decide,by omega⟩,⟨rfl,g5,hp32⟩,hi32,hi32,⟨by omega,by omega⟩,(i,q.set (i / 32) (q.getD (i / 32) 0+2 ^ (i % 32)),dig (y.length+1) (val o-val y)),za (by simp [bitvec_to_nat]) ⟨Ua rfl,Ua rfl,trivial⟩,⟨by simp only;omega,jZ hq _ hsum,by simp [hql],?_,yk _ _,wa _ _,?_⟩,by simp only;omega⟩
       .simp only;rw [hv2];exact hs.1
       .simp only;rw [uj,hov,hs.2,Nat.mod_eq_of_lt];have:=Nat.mod_lt (val x / 2 ^ i) hy1;have h6:(4294967296:Nat) ^ y.length<=4294967296 ^ (y.length+1):=Nat.pow_le_pow_right (by omega) (by omega)
        omega
      .have hlt2:=mt qs.2 h;have hs:=VaH hy1 hbit hqv hrv (by omega)
       refine⟨by omega,(i,q,o),za (by simp [bitvec_to_nat]) ⟨Ua rfl,Ua rfl,trivial⟩,⟨by simp only;omega,hq,hql,hs.1,ho,hoe,by simp only;rw [hov];exact hs.2⟩,by simp only;omega⟩
end Go.Abs
end
section
namespace Go.Abs
open Go.Num
variable {P:Program} {Γ:Nat->Spec}
def ug(f0:Nat):AC:=(.o [.G 4 [.z,.emp]] [0,1,4] (.o [.M 5 1,.u 6 (.callf f0 [(.t 5)]),.M 1 6] [0,1,4] (.f (.o [.M 7 1,.Z 8 7,.I 9 .eql 8 0] [0,1,4,9] (.cond (.t 9) (.seq (.p [.u 10 (.build [.z [.z,.emp]]),.S 2 4 10]) .ret) .skip)) [0,1,4] (.seq (.p [.M 11 0,.M 12 1,.u 13 (.build [.x 1 (.t 11),.x 1 (.t 12)]),.S 2 4 13]) .ret))))
def jh(f0 f1:Nat):AC:=(.o [.K 1 2 0,.N 2 0] [1] (.f (.o [.L 3 2 1,.H 4 f0 3,.Z 5 4,.I 6 .eql 5 0] [1,6] (.cond (.t 6) (.seq (.p [.N 2 0]) .ret) .skip)) [1] (.f (.o [.L 7 2 1,.H 8 f1 7] [8] (.cond (.t 8) (.seq (.p [.N 2 (-1)]) .ret) .skip)) [] (.seq (.p [.N 2 1]) .ret))))
def yi(f0 f1:Nat):AC:=(.o [.K 2 2 0,.K 3 2 1,.N 4 0] [2,3] (.seq (.p [.L 5 2 2,.L 6 2 3,.D 7 f0 5 6,.H 8 f1 7,.M 4 8]) .ret))
def wi(f0 f1 f2 f3 f4 f5:Nat):AC:=(.o [.K 2 2 0,.K 3 2 1,.G 4 [.z,.emp]] [2,3,4] (.f (.y [.L 7 2 2,.H 8 f0 7,.L 9 2 3,.H 10 f0 9,.M 5 8,.M 6 10]) [2,3,4,5,6] (.f (.f (.y [.L 11 2 2,.H 12 f1 11,.L 13 2 3,.H 14 f1 13,.u 15 (.binb .eql (.t 12) (.t 14))]) [2,3,4,5,6,15] (.cond (.t 15) (.seq (.p [.L 16 2 2,.H 17 f1 16,.M 18 5,.M 19 6,.D 20 f2 18 19,.D 21 f3 17 20,.S 2 4 21]) .ret) .skip)) [2,3,4,5,6] (.f (.o [.M 22 5,.M 23 6,.D 24 f4 22 23,.I 25 .geq 24 0] [2,3,4,5,6,25] (.cond (.t 25) (.seq (.p [.L 26 2 2,.H 27 f1 26,.M 28 5,.M 29 6,.D 30 f5 28 29,.D 31 f3 27 30,.S 2 4 31]) .ret) .skip)) [3,4,5,6] (.seq (.p [.L 32 2 3,.H 33 f1 32,.M 34 6,.M 35 5,.D 36 f5 34 35,.D 37 f3 33 36,.S 2 4 37]) .ret)))))
def zj(f0 f1:Nat):AC:=(.o [.K 2 2 0,.K 3 2 1,.G 4 [.z,.emp]] [2,3,4] (.seq (.y [.L 5 2 2,.L 6 2 3,.H 7 f0 6,.D 8 f1 5 7,.S 2 4 8]) .ret))
def ui(f0 f1 f2:Nat):AC:=(.o [.K 2 2 0,.K 3 2 1,.G 4 [.z,.emp]] [2,3,4] (.seq (.y [.L 5 2 2,.H 6 f0 5,.L 7 2 3,.H 8 f0 7,.D 9 f1 6 8,.u 10 (.call f2 [.fa,(.t 9)]),.S 2 4 10]) .ret))
def Vi(f0 f1 f2 f3 f4 f5 f6:Nat):AC:=(.o [.K 2 2 0,.K 3 2 1,.G 4 [.z,.emp],.G 5 [.z,.emp],.N 6 0] [2,3,4,5] (.f (.o [.L 9 2 3,.H 10 f0 9,.I 11 .eql 10 0] [2,3,4,5,11] (.cond (.t 11) (.seq (.p [.u 12 (.build [.z [.z,.emp]]),.u 13 (.build [.z [.z,.emp]]),.S 2 4 12,.S 2 5 13,.N 6 8]) .ret) .skip)) [2,3,4,5] (.f (.y [.L 15 2 2,.H 16 f1 15,.L 17 2 3,.H 18 f1 17,.D 19 f2 16 18,.M 14 19,.X 20 0 14,.X 21 1 14,.M 7 20,.M 8 21]) [2,3,4,5,7,8] (.f (.o [.L 22 2 2,.H 23 f3 22,.M 24 23,.V 25 24 true 8,.w 26 24 true (.len (.t 25)),.w 27 24 true (.bin .gtr (.t 26) (.i 0)),.P 28 24 27] [2,3,4,5,7,8,28] (.cond (.t 28) (.y [.M 29 7,.u 30 (.row 1 [[.x 1 (.c (.one (.lit (.int .u32 1))))]]),.D 31 f4 29 30,.L 32 2 3,.H 33 f1 32,.M 34 8,.D 35 f5 33 34,.M 7 31,.M 8 35]) .skip)) [2,3,4,5,7,8] (.seq (.y [.L 36 2 2,.H 37 f3 36,.L 38 2 3,.H 39 f3 38,.u 40 (.binb .neq (.t 37) (.t 39)),.M 41 7,.D 42 f6 40 41,.M 43 8,.u 44 (.call f6 [.fa,(.t 43)]),.S 2 4 42,.S 2 5 44,.N 6 0]) .ret)))))
theorem Z1(hΓ:Holds P Γ){f ft:Nat}(ht:Γ ft=.fresh 1 Qw)(hc:check P f=some (14,(ug ft).strip,[.cell 4 2 true])):Sound P f (.dat false Wh):=by
 refine Qa hc yO hΓ (λargs K hcl hfi hG=>?_);match args,hG with
 | [a,m],hG=>
  obtain⟨b,rfl,hG⟩:=xh hG;obtain⟨l,rfl,hl,hlen,hK⟩:=hG;refine⟨by simp,?_⟩
  simp only [go_sem,ug,ht];refine⟨hl,hlen,λ_=>⟨λh=>?_,λh=>?_⟩⟩
  .have h0:val l=0:=Vt.1 h;have e:zcan (sg b (val l))=zcan 0:=by rw [h0];unfold sg;split <;> rfl
   rw [e]at hK;have e2:(zcan 0)=(false,[]):=by simp [zcan,Zb]
   rw [e2]at hK;exact hK
  .rw [<-XL]at hK;have e:decide (0<(digs (val l)).length)=true:=by simp only [decide_eq_true_eq];omega
   rw [e,Bool.and_true]at hK;exact hK
theorem UU(hΓ:Holds P Γ){f fm fn:Nat}(hm:Γ fm=.dat false Yk)(hn:Γ fn=.dat true Yi)(hc:check P f=some (9,(jh fm fn).strip,[.tmp 2])):Sound P f (.dat true Uj):=by
 refine Qa hc qL hΓ (λargs K hcl hfi hG=>?_);match args,hG with
 | [a],hG=>
  obtain⟨w,rfl,hw,hK⟩:=hG;refine⟨by simp,?_⟩
  simp only [go_sem,jh,hm,hn,hw];intro _;refine⟨λh=>?_,λh=>⟨λhb=>?_,λhb=>?_⟩⟩
  .have h0:zv w=0:=Us.1 h;rw [h0]at hK;exact hK
  .rw [Int.sign_eq_neg_one_of_neg hb]at hK;exact hK
  .have h0:zv w≠0:=λe=>h (Us.2 e);rw [Int.sign_eq_one_of_pos (by omega)]at hK;exact hK
theorem V7(hΓ:Holds P Γ){f fn fa:Nat}(hn:Γ fn=.dat false Yw)(ha:Γ fa=.dat false Uy)(hc:check P f=some (9,(zj fn fa).strip,[.cell 4 2 true])):Sound P f (.dat false WP):=by
 refine Qa hc VaB hΓ (λargs K hcl hfi hG=>?_);match args,hG with
 | [a,b],hG=>
  obtain⟨v,rfl,hv,w,rfl,hw,hz,hz',hK⟩:=hG;refine⟨by simp,?_⟩
  simp only [go_sem,zj,hn,ha,hw,hv];refine⟨by omega,hz,by rw [zab];exact hz',?_⟩
  rw [<-Int.sub_eq_add_neg];exact hK
theorem VY(hΓ:Holds P Γ){f fs fg:Nat}(hs:Γ fs=.dat false WP)(hg:Γ fg=.dat true Uj)(hc:check P f=some (9,(yi fs fg).strip,[.tmp 4])):Sound P f (.dat true vx):=by
 refine Qa hc Yae hΓ (λargs K hcl hfi hG=>?_);match args,hG with
 | [a,b],hG=>
  obtain⟨v,rfl,hv,w,rfl,hw,hz,hz',hz2,hK⟩:=hG;refine⟨by simp,?_⟩
  simp only [go_sem,yi,hs,hg,hw,hv];refine⟨hz,hz',?_⟩;have e:Int.sign (zv v-zv w)=ordI (zv v) (zv w):=by
   unfold ordI;split
   .exact Int.sign_eq_neg_one_of_neg (by omega)
   .split
    .exact Int.sign_eq_one_of_pos (by omega)
    .rw [show zv v-zv w=0 by omega];rfl
  rw [e];exact hK
theorem yY(hΓ:Holds P Γ){f fm fg fw:Nat}(hm:Γ fm=.dat false Yk)(hg:Γ fg=.dat false vC)(hw' : Γ fw=.dat false Wh)(hc:check P f=some (11,(ui fm fg fw).strip,[.cell 4 2 true])):Sound P f (.dat false Yv):=by
 refine Qa hc V8 hΓ (λargs K hcl hfi hG=>?_);match args,hG with
 | [a,b],hG=>
  obtain⟨v,rfl,hv,w,rfl,hw,hz,hz',hK⟩:=hG;refine⟨by simp,?_⟩
  simp only [go_sem,ui,hm,hg,hw',hw,hv,Wa];have hle:(digs ((zv v).natAbs.gcd (zv w).natAbs)).length<=17179869184:=by
   rcases Nat.eq_zero_or_pos (zv v).natAbs with h | h
   .rw [h,Nat.gcd_zero_left];exact hz'
   .exact Nat.le_trans (Va (Nat.le_of_dvd h (Nat.gcd_dvd_left _ _))) hz
  exact⟨ka _,ka _,hz,hz',ka _,by omega,hK⟩
theorem wY(hΓ:Holds P Γ){f fn fm fp fw fc fl:Nat}(hn:Γ fn=.dat true Yi)(hm:Γ fm=.dat false Yk)(hp:Γ fp=.dat false Qt)(hw' : Γ fw=.dat false Wh)(hc' : Γ fc=.dat true kw)(hl:Γ fl=.dat false yv)(hc:check P f=some (38,(wi fm fn fp fw fc fl).strip,[.cell 4 2 true])):Sound P f (.dat false Uy):=by
 refine Qa hc Y8 hΓ (λargs K hcl hfi hG=>?_);match args,hG with
 | [a,b],hG=>
  obtain⟨v,rfl,hv,w,rfl,hw,hz,hz',hK⟩:=hG;refine⟨by simp,?_⟩
  simp only [go_sem,wi,hn,hm,hp,hw',hc',hl,hw,hv];simp only [Wa];have hsz:=vK (zv v) (zv w);refine⟨λh=>⟨ka _,ka _,hz,hz',ka _,?_,?_⟩,λh=>⟨ka _,ka _,λho=>⟨ka _,ka _,by unfold zs at hz;omega,?_,ka _,?_,?_⟩,λho=>⟨ka _,ka _,by unfold zs at hz';omega,?_,ka _,?_,?_⟩⟩⟩
  .have e:=Ju (Xh h);rw [show(zv v).natAbs+(zv w).natAbs=(zv v+zv w).natAbs by have:=Xh h;omega]
   unfold zs at *;omega
  .rw [Ju (Xh h)];exact hK
  .exact(qs.1 ho)
  .have:=Va (Nat.sub_le (zv v).natAbs (zv w).natAbs);unfold zs at *;omega
  .have h1:=qs.1 ho;rw [jar (Wo h) h1];exact hK
  .have:=mt qs.2 ho;omega
  .have:=Va (Nat.sub_le (zv w).natAbs (zv v).natAbs);unfold zs at *;omega
  .have h1:=mt qs.2 ho;rw [jar (λe=>Wo h e.symm) (by omega),Int.add_comm];exact hK
theorem waa(hΓ:Holds P Γ){f fs fn fm fp fw fd fl:Nat}(hs:Γ fs=.dat true Uj)(hn:Γ fn=.dat true Yi)(hm:Γ fm=.dat false Yk)(hp:Γ fp=.dat false Qt)(hw' : Γ fw=.dat false Wh)(hd:Γ fd=.dat false Uk)(hl:Γ fl=.dat false yv)(hc:check P f=some (45,(Vi fs fm fd fn fp fl fw).strip,[.cell 4 2 true,.cell 5 2 true,.tmp 6])):Sound P f (.dat false jx):=by
 refine Qa hc vab hΓ (λargs K hcl hfi hG=>?_);match args,hG with
 | [a,b],hG=>
  obtain⟨v,rfl,hv,w,rfl,hw,hz,hz',h0,hK⟩:=hG;refine⟨by simp,?_⟩
  simp only [go_sem,Vi,hs,hn,hm,hp,hw',hd,hl,hw,hv];simp only [Wa];have hne:¬(digs (zv w).natAbs).length=0:=λe=>h0 (Us.1 e);refine⟨λe=>absurd (Int.sign_eq_zero_iff_zero.1 e) h0,λ_=>⟨ka _,ka _,Wn _,Wn _,λe=>hne (by rw [e];rfl),hz,hz',?_⟩⟩
  have hq:(digs ((zv v).natAbs / (zv w).natAbs)).length<=17179869184:=Nat.le_trans (Va (Nat.div_le_self _ _)) hz;have hr:(digs ((zv v).natAbs % (zv w).natAbs)).length<=17179869184:=Nat.le_trans (Va (Nat.mod_le _ _)) hz;have hz'' : (digs (zv w).natAbs).length<=17179869184:=hz';have hlt:=Nat.mod_lt (zv v).natAbs (show 0<(zv w).natAbs by omega)
  have hfin:(0<=zv v∨(zv v).natAbs % (zv w).natAbs=0)->K (AV.tup
    [AV.agg [zb (zcan (sg (!(decide (zv v<0) == decide (zv w<0))) ((zv v).natAbs / (zv w).natAbs))),zm (zcan (sg (!(decide (zv v<0) == decide (zv w<0))) ((zv v).natAbs / (zv w).natAbs)))],
     AV.agg [zb (zcan (sg false ((zv v).natAbs % (zv w).natAbs))),zm (zcan (sg false ((zv v).natAbs % (zv w).natAbs)))],AV.one (C.lit (Value.int IntKind.i64 0))]):=by
   intro h;obtain⟨e1,e2⟩:=kam h0 h;have e1' : sg (!(decide (zv v<0) == decide (zv w<0))) ((zv v).natAbs / (zv w).natAbs)=zv v / zv w:=e1;have e2' : sg false ((zv v).natAbs % (zv w).natAbs)=zv v % zv w:=e2;rw [e1',e2'];exact hK
  refine⟨λhneg _=>⟨λhp=>⟨ka _,(Vas _ 1).mpr ⟨Xb.2 ⟨by decide,Ub⟩,hq,by decide,ka _,ka _,by omega,by omega,ka _,?_,ka _,?_,?_⟩⟩,λhp=>⟨ka _,by omega,ka _,by omega,hfin (.inr ?_)⟩⟩,λhneg=>⟨ka _,by omega,ka _,by omega,hfin (.inl (by omega))⟩⟩
  .have hv1:val [1]=1:=rfl;rw [hv1];have h1:zs 1<=2:=Jag (by decide)
   have:=vK (((zv v).natAbs / (zv w).natAbs:Nat):Int) 1;have e:(((zv v).natAbs / (zv w).natAbs:Nat):Int)+1=(((zv v).natAbs / (zv w).natAbs+1:Nat):Int):=by omega
   rw [e]at this;have h3:zs (((zv v).natAbs / (zv w).natAbs:Nat):Int)=(digs ((zv v).natAbs / (zv w).natAbs)).length:=rfl;have h4:zs (((zv v).natAbs / (zv w).natAbs+1:Nat):Int)=(digs ((zv v).natAbs / (zv w).natAbs+1)).length:=rfl;rw [h3,h4]at this;omega
  .have:=Va (Nat.sub_le (zv w).natAbs ((zv v).natAbs % (zv w).natAbs));omega
  .have hv1:val [1]=1:=rfl;rw [hv1];have hne' : (zv v).natAbs % (zv w).natAbs≠0:=by
    intro e;rw [e,Zb]at hp;simp at hp
   obtain⟨e1,e2⟩:=kah h0 hneg hne';have e1' : sg (!(decide (zv v<0) == decide (zv w<0))) ((zv v).natAbs / (zv w).natAbs+1)=zv v / zv w:=e1;have e2' : sg false ((zv w).natAbs-(zv v).natAbs % (zv w).natAbs)=zv v % zv w:=e2;rw [e1',e2'];exact hK
  .have:digs ((zv v).natAbs % (zv w).natAbs)=[]:=List.eq_nil_of_length_eq_zero (by omega)
   exact qf.1 this
end Go.Abs
end
