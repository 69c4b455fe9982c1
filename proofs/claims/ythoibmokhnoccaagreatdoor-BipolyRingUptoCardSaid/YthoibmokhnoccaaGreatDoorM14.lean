/-
  Parts of the proof, merged: RefF.
-/
import Derived.Test.YthoibmokhnoccaaGreatDoorM13
set_option linter.unusedVariables false
set_option linter.unusedSimpArgs false
set_option maxRecDepth 100000
section
namespace Go.Abs
open Go.Num
variable {P:Program} {Γ:Nat->Spec}
def Jg(f0:Nat):AC:=(.o [.G 4 [.z,.emp]] [0,1,4] (.o [.M 5 1,.u 6 (.callf f0 [(.t 5)]),.M 1 6] [0,1,4] (.f (.o [.M 7 1,.Z 8 7,.I 9 .eql 8 0] [0,1,4,9] (.cond (.t 9) (.seq (.p [.u 10 (.build [.z [.z,.emp]]),.S 2 4 10]) .ret) .skip)) [0,1,4] (.seq (.p [.M 11 0,.M 12 1,.u 13 (.build [.x 1 (.t 11),.x 1 (.t 12)]),.S 2 4 13]) .ret))))
def vg(f0 f1:Nat):AC:=(.o [.K 1 2 0,.N 2 0] [1] (.f (.o [.L 3 2 1,.H 4 f0 3,.Z 5 4,.I 6 .eql 5 0] [1,6] (.cond (.t 6) (.seq (.p [.N 2 0]) .ret) .skip)) [1] (.f (.o [.L 7 2 1,.H 8 f1 7] [8] (.cond (.t 8) (.seq (.p [.N 2 (-1)]) .ret) .skip)) [] (.seq (.p [.N 2 1]) .ret))))
def Yh(f0 f1:Nat):AC:=(.o [.K 2 2 0,.K 3 2 1,.N 4 0] [2,3] (.seq (.p [.L 5 2 2,.L 6 2 3,.D 7 f0 5 6,.H 8 f1 7,.M 4 8]) .ret))
def qi(f0 f1 f2 f3 f4 f5:Nat):AC:=(.o [.K 2 2 0,.K 3 2 1,.G 4 [.z,.emp]] [2,3,4] (.f (.y [.L 7 2 2,.H 8 f0 7,.L 9 2 3,.H 10 f0 9,.M 5 8,.M 6 10]) [2,3,4,5,6] (.f (.f (.y [.L 11 2 2,.H 12 f1 11,.L 13 2 3,.H 14 f1 13,.u 15 (.binb .eql (.t 12) (.t 14))]) [2,3,4,5,6,15] (.cond (.t 15) (.seq (.p [.L 16 2 2,.H 17 f1 16,.M 18 5,.M 19 6,.D 20 f2 18 19,.D 21 f3 17 20,.S 2 4 21]) .ret) .skip)) [2,3,4,5,6] (.f (.o [.M 22 5,.M 23 6,.D 24 f4 22 23,.I 25 .geq 24 0] [2,3,4,5,6,25] (.cond (.t 25) (.seq (.p [.L 26 2 2,.H 27 f1 26,.M 28 5,.M 29 6,.D 30 f5 28 29,.D 31 f3 27 30,.S 2 4 31]) .ret) .skip)) [3,4,5,6] (.seq (.p [.L 32 2 3,.H 33 f1 32,.M 34 6,.M 35 5,.D 36 f5 34 35,.D 37 f3 33 36,.S 2 4 37]) .ret)))))
def Xh(f0 f1:Nat):AC:=(.o [.K 2 2 0,.K 3 2 1,.G 4 [.z,.emp]] [2,3,4] (.seq (.y [.L 5 2 2,.L 6 2 3,.H 7 f0 6,.D 8 f1 5 7,.S 2 4 8]) .ret))
def Wh(f0 f1 f2:Nat):AC:=(.o [.K 2 2 0,.K 3 2 1,.G 4 [.z,.emp]] [2,3,4] (.seq (.y [.L 5 2 2,.H 6 f0 5,.L 7 2 3,.H 8 f0 7,.D 9 f1 6 8,.u 10 (.call f2 [.fa,(.t 9)]),.S 2 4 10]) .ret))
def wh(f0 f1 f2 f3 f4 f5 f6:Nat):AC:=(.o [.K 2 2 0,.K 3 2 1,.G 4 [.z,.emp],.G 5 [.z,.emp],.N 6 0] [2,3,4,5] (.f (.o [.L 9 2 3,.H 10 f0 9,.I 11 .eql 10 0] [2,3,4,5,11] (.cond (.t 11) (.seq (.p [.u 12 (.build [.z [.z,.emp]]),.u 13 (.build [.z [.z,.emp]]),.S 2 4 12,.S 2 5 13,.N 6 8]) .ret) .skip)) [2,3,4,5] (.f (.y [.L 15 2 2,.H 16 f1 15,.L 17 2 3,.H 18 f1 17,.D 19 f2 16 18,.M 14 19,.X 20 0 14,.X 21 1 14,.M 7 20,.M 8 21]) [2,3,4,5,7,8] (.f (.o [.L 22 2 2,.H 23 f3 22,.M 24 23,.V 25 24 true 8,.w 26 24 true (.len (.t 25)),.w 27 24 true (.bin .gtr (.t 26) (.i 0)),.P 28 24 27] [2,3,4,5,7,8,28] (.cond (.t 28) (.y [.M 29 7,.u 30 (.row 1 [[.x 1 (.c (.one (.lit (.int .u32 1))))]]),.D 31 f4 29 30,.L 32 2 3,.H 33 f1 32,.M 34 8,.D 35 f5 33 34,.M 7 31,.M 8 35]) .skip)) [2,3,4,5,7,8] (.seq (.y [.L 36 2 2,.H 37 f3 36,.L 38 2 3,.H 39 f3 38,.u 40 (.binb .neq (.t 37) (.t 39)),.M 41 7,.D 42 f6 40 41,.M 43 8,.u 44 (.call f6 [.fa,(.t 43)]),.S 2 4 42,.S 2 5 44,.N 6 0]) .ret)))))
theorem Jab(hΓ:Holds P Γ){f ft:Nat}(ht:Γ ft=.fresh 1 Vt)(hc:check P f=some (14,(Jg ft).strip,[.cell 4 2 true])):Sound P f (.dat false je):=by
 refine Qa hc YL hΓ (λargs K hcl hfi hG=>?_);match args,hG with
 | [a,m],hG=>
  obtain⟨b,rfl,hG⟩:=jx hG;obtain⟨l,rfl,hl,hlen,hK⟩:=hG;refine⟨by simp,?_⟩
  simp only [go_sem,Jg,ht];refine⟨hl,hlen,λ_=>⟨λh=>?_,λh=>?_⟩⟩
  .have h0:val l=0:=vt.1 h;have e:zcan (sg b (val l))=zcan 0:=by rw [h0];unfold sg;split <;> rfl
   rw [e]at hK;have e2:(zcan 0)=(false,[]):=by simp [zcan,Zb]
   rw [e2]at hK;exact hK
  .rw [<-vJ]at hK;have e:decide (0<(digs (val l)).length)=true:=by simp only [decide_eq_true_eq];omega
   rw [e,Bool.and_true]at hK;exact hK
theorem UV(hΓ:Holds P Γ){f fm fn:Nat}(hm:Γ fm=.dat false kh)(hn:Γ fn=.dat true Ve)(hc:check P f=some (9,(vg fm fn).strip,[.tmp 2])):Sound P f (.dat true vf):=by
 refine Qa hc zO hΓ (λargs K hcl hfi hG=>?_);match args,hG with
 | [a],hG=>
  obtain⟨w,rfl,hw,hK⟩:=hG;refine⟨by simp,?_⟩
  simp only [go_sem,vg,hm,hn,hw];intro _;refine⟨λh=>?_,λh=>⟨λhb=>?_,λhb=>?_⟩⟩
  .have h0:zv w=0:=ut.1 h;rw [h0]at hK;exact hK
  .rw [Int.sign_eq_neg_one_of_neg hb]at hK;exact hK
  .have h0:zv w≠0:=λe=>h (ut.2 e);rw [Int.sign_eq_one_of_pos (by omega)]at hK;exact hK
theorem W0(hΓ:Holds P Γ){f fn fa:Nat}(hn:Γ fn=.dat false Yq)(ha:Γ fa=.dat false kt)(hc:check P f=some (9,(Xh fn fa).strip,[.cell 4 2 true])):Sound P f (.dat false Qz):=by
 refine Qa hc ya0 hΓ (λargs K hcl hfi hG=>?_);match args,hG with
 | [a,b],hG=>
  obtain⟨v,rfl,hv,w,rfl,hw,hz,hz',hK⟩:=hG;refine⟨by simp,?_⟩
  simp only [go_sem,Xh,hn,ha,hw,hv];refine⟨by omega,hz,by rw [Jac];exact hz',?_⟩
  rw [<-Int.sub_eq_add_neg];exact hK
theorem UY(hΓ:Holds P Γ){f fs fg:Nat}(hs:Γ fs=.dat false Qz)(hg:Γ fg=.dat true vf)(hc:check P f=some (9,(Yh fs fg).strip,[.tmp 4])):Sound P f (.dat true vn):=by
 refine Qa hc Vah hΓ (λargs K hcl hfi hG=>?_);match args,hG with
 | [a,b],hG=>
  obtain⟨v,rfl,hv,w,rfl,hw,hz,hz',hz2,hK⟩:=hG;refine⟨by simp,?_⟩
  simp only [go_sem,Yh,hs,hg,hw,hv];refine⟨hz,hz',?_⟩;have e:Int.sign (zv v-zv w)=ordI (zv v) (zv w):=by
   unfold ordI;split
   .exact Int.sign_eq_neg_one_of_neg (by omega)
   .split
    .exact Int.sign_eq_one_of_pos (by omega)
    .rw [show zv v-zv w=0 by omega];rfl
  rw [e];exact hK
theorem JW(hΓ:Holds P Γ){f fm fg fw:Nat}(hm:Γ fm=.dat false kh)(hg:Γ fg=.dat false Zu)(hw' : Γ fw=.dat false je)(hc:check P f=some (11,(Wh fm fg fw).strip,[.cell 4 2 true])):Sound P f (.dat false wq):=by
 refine Qa hc U4 hΓ (λargs K hcl hfi hG=>?_);match args,hG with
 | [a,b],hG=>
  obtain⟨v,rfl,hv,w,rfl,hw,hz,hz',hK⟩:=hG;refine⟨by simp,?_⟩
  simp only [go_sem,Wh,hm,hg,hw',hw,hv,Ya];have hle:(digs ((zv v).natAbs.gcd (zv w).natAbs)).length<=17179869184:=by
   rcases Nat.eq_zero_or_pos (zv v).natAbs with h | h
   .rw [h,Nat.gcd_zero_left];exact hz'
   .exact Nat.le_trans (ka (Nat.le_of_dvd h (Nat.gcd_dvd_left _ _))) hz
  exact⟨wa _,wa _,hz,hz',wa _,by omega,hK⟩
theorem kY(hΓ:Holds P Γ){f fn fm fp fw fc fl:Nat}(hn:Γ fn=.dat true Ve)(hm:Γ fm=.dat false kh)(hp:Γ fp=.dat false qn)(hw' : Γ fw=.dat false je)(hc' : Γ fc=.dat true Wq)(hl:Γ fl=.dat false Xo)(hc:check P f=some (38,(qi fm fn fp fw fc fl).strip,[.cell 4 2 true])):Sound P f (.dat false kt):=by
 refine Qa hc Qad hΓ (λargs K hcl hfi hG=>?_);match args,hG with
 | [a,b],hG=>
  obtain⟨v,rfl,hv,w,rfl,hw,hz,hz',hK⟩:=hG;refine⟨by simp,?_⟩
  simp only [go_sem,qi,hn,hm,hp,hw',hc',hl,hw,hv];simp only [Ya];have hsz:=ZH (zv v) (zv w);refine⟨λh=>⟨wa _,wa _,hz,hz',wa _,?_,?_⟩,λh=>⟨wa _,wa _,λho=>⟨wa _,wa _,by unfold zs at hz;omega,?_,wa _,?_,?_⟩,λho=>⟨wa _,wa _,by unfold zs at hz';omega,?_,wa _,?_,?_⟩⟩⟩
  .have e:=qu (Ug h);rw [show(zv v).natAbs+(zv w).natAbs=(zv v+zv w).natAbs by have:=Ug h;omega]
   unfold zs at *;omega
  .rw [qu (Ug h)];exact hK
  .exact(Yr.1 ho)
  .have:=ka (Nat.sub_le (zv v).natAbs (zv w).natAbs);unfold zs at *;omega
  .have h1:=Yr.1 ho;rw [Yav (Yn h) h1];exact hK
  .have:=mt Yr.2 ho;omega
  .have:=ka (Nat.sub_le (zv w).natAbs (zv v).natAbs);unfold zs at *;omega
  .have h1:=mt Yr.2 ho;rw [Yav (λe=>Yn h e.symm) (by omega),Int.add_comm];exact hK
theorem Uad(hΓ:Holds P Γ){f fs fn fm fp fw fd fl:Nat}(hs:Γ fs=.dat true vf)(hn:Γ fn=.dat true Ve)(hm:Γ fm=.dat false kh)(hp:Γ fp=.dat false qn)(hw' : Γ fw=.dat false je)(hd:Γ fd=.dat false xf)(hl:Γ fl=.dat false Xo)(hc:check P f=some (45,(wh fs fm fd fn fp fl fw).strip,[.cell 4 2 true,.cell 5 2 true,.tmp 6])):Sound P f (.dat false Wo):=by
 refine Qa hc Zai hΓ (λargs K hcl hfi hG=>?_);match args,hG with
 | [a,b],hG=>
  obtain⟨v,rfl,hv,w,rfl,hw,hz,hz',h0,hK⟩:=hG;refine⟨by simp,?_⟩
  simp only [go_sem,wh,hs,hn,hm,hp,hw',hd,hl,hw,hv];simp only [Ya];have hne:¬(digs (zv w).natAbs).length=0:=λe=>h0 (ut.1 e);refine⟨λe=>absurd (Int.sign_eq_zero_iff_zero.1 e) h0,λ_=>⟨wa _,wa _,um _,um _,λe=>hne (by rw [e];rfl),hz,hz',?_⟩⟩
  have hq:(digs ((zv v).natAbs / (zv w).natAbs)).length<=17179869184:=Nat.le_trans (ka (Nat.div_le_self _ _)) hz;have hr:(digs ((zv v).natAbs % (zv w).natAbs)).length<=17179869184:=Nat.le_trans (ka (Nat.mod_le _ _)) hz;have hz'' : (digs (zv w).natAbs).length<=17179869184:=hz';have hlt:=Nat.mod_lt (zv v).natAbs (show 0<(zv w).natAbs by omega)
  have hfin:(0<=zv v∨(zv v).natAbs % (zv w).natAbs=0)->K (AV.tup
    [AV.agg [zb (zcan (sg (!(decide (zv v<0) == decide (zv w<0))) ((zv v).natAbs / (zv w).natAbs))),zm (zcan (sg (!(decide (zv v<0) == decide (zv w<0))) ((zv v).natAbs / (zv w).natAbs)))],
     AV.agg [zb (zcan (sg false ((zv v).natAbs % (zv w).natAbs))),zm (zcan (sg false ((zv v).natAbs % (zv w).natAbs)))],AV.one (C.lit (Value.int IntKind.i64 0))]):=by
   intro h;obtain⟨e1,e2⟩:=ZaC h0 h;have e1' : sg (!(decide (zv v<0) == decide (zv w<0))) ((zv v).natAbs / (zv w).natAbs)=zv v / zv w:=e1;have e2' : sg false ((zv v).natAbs % (zv w).natAbs)=zv v % zv w:=e2;rw [e1',e2'];exact hK
  refine⟨λhneg _=>⟨λhp=>⟨wa _,(zau _ 1).mpr ⟨Xb.2 ⟨by decide,Ub⟩,hq,by decide,wa _,wa _,by omega,by omega,wa _,?_,wa _,?_,?_⟩⟩,λhp=>⟨wa _,by omega,wa _,by omega,hfin (.inr ?_)⟩⟩,λhneg=>⟨wa _,by omega,wa _,by omega,hfin (.inl (by omega))⟩⟩
  .have hv1:val [1]=1:=rfl;rw [hv1];have h1:zs 1<=2:=qal (by decide)
   have:=ZH (((zv v).natAbs / (zv w).natAbs:Nat):Int) 1;have e:(((zv v).natAbs / (zv w).natAbs:Nat):Int)+1=(((zv v).natAbs / (zv w).natAbs+1:Nat):Int):=by omega
   rw [e]at this;have h3:zs (((zv v).natAbs / (zv w).natAbs:Nat):Int)=(digs ((zv v).natAbs / (zv w).natAbs)).length:=rfl;have h4:zs (((zv v).natAbs / (zv w).natAbs+1:Nat):Int)=(digs ((zv v).natAbs / (zv w).natAbs+1)).length:=rfl;rw [h3,h4]at this;omega
  .have:=ka (Nat.sub_le (zv w).natAbs ((zv v).natAbs % (zv w).natAbs));omega
  .have hv1:val [1]=1:=rfl;rw [hv1];have hne' : (zv v).natAbs % (zv w).natAbs≠0:=by
    intro e;rw [e,Zb]at hp;simp at hp
   obtain⟨e1,e2⟩:=Jav h0 hneg hne';have e1' : sg (!(decide (zv v<0) == decide (zv w<0))) ((zv v).natAbs / (zv w).natAbs+1)=zv v / zv w:=e1;have e2' : sg false ((zv w).natAbs-(zv v).natAbs % (zv w).natAbs)=zv v % zv w:=e2;rw [e1',e2'];exact hK
  .have:digs ((zv v).natAbs % (zv w).natAbs)=[]:=List.eq_nil_of_length_eq_zero (by omega)
   exact we.1 this
end Go.Abs
end
