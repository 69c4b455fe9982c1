/-
  Parts of the proof, merged: RefF.
-/
import Derived.Test.YtneiiodebbmcaaaGreatDoorM15
set_option linter.unusedVariables false
set_option linter.unusedSimpArgs false
set_option maxRecDepth 100000
section
namespace Go.Abs
open Go.Num
variable {P:Program} {Γ:Nat->Spec}
def Xh(f0:Nat):AC:=(.seq (.ops false [.u 4 (.alloc [(.lit (.bool false)),.emp])])
 (.fg [0,1,4] (.seq (.ops false [.m 5 (.t 1),.u 6 (.callf f0 [(.t 5)]),.m 1 (.t 6)])
 (.fg [0,1,4] (.seq (.seq (.ops false [.m 7 (.t 1),.u 8 (.len (.t 7)),.u 9 (.bin .eql (.t 8) (.i 0))])
 (.fg [0,1,4,9] (.cond (.t 9) (.seq (.ops false [.u 10 (.build [.z [(.lit (.bool false)),.emp]]),.n (.st none 2 (.t 4) (.t 10))])
 .ret) .skip)))
 (.fg [0,1,4] (.seq (.ops false [.m 11 (.t 0),.m 12 (.t 1),.u 13 (.build [.x 1 (.t 11),.x 1 (.t 12)]),.n (.st none 2 (.t 4) (.t 13))])
 .ret)))))))
def qi(f0 f1:Nat):AC:=(.seq (.ops false [.u 1 (.box 2 (.t 0)),.m 2 (.i 0)])
 (.fg [1] (.seq (.seq (.ops false [.u 3 (.ld none 2 true (.t 1)),.u 4 (.call f0 [(.t 3)]),.u 5 (.len (.t 4)),.u 6 (.bin .eql (.t 5) (.i 0))])
 (.fg [1,6] (.cond (.t 6) (.seq (.ops false [.m 2 (.i 0)])
 .ret) .skip)))
 (.fg [1] (.seq (.seq (.ops false [.u 7 (.ld none 2 true (.t 1)),.u 8 (.call f1 [(.t 7)])])
 (.fg [8] (.cond (.t 8) (.seq (.ops false [.m 2 (.i (-1))])
 .ret) .skip)))
 (.fg [] (.seq (.ops false [.m 2 (.i 1)])
 .ret)))))))
def uj(f0 f1:Nat):AC:=(.seq (.ops false [.u 2 (.box 2 (.t 0)),.u 3 (.box 2 (.t 1)),.m 4 (.i 0)])
 (.fg [2,3] (.seq (.ops false [.u 5 (.ld none 2 true (.t 2)),.u 6 (.ld none 2 true (.t 3)),.u 7 (.call f0 [(.t 5),(.t 6)]),.u 8 (.call f1 [(.t 7)]),.m 4 (.t 8)])
 .ret)))
def kj(f0 f1 f2 f3 f4 f5:Nat):AC:=(.seq (.ops false [.u 2 (.box 2 (.t 0)),.u 3 (.box 2 (.t 1)),.u 4 (.alloc [(.lit (.bool false)),.emp])])
 (.fg [2,3,4] (.seq (.ops true [.u 7 (.ld none 2 true (.t 2)),.u 8 (.call f0 [(.t 7)]),.u 9 (.ld none 2 true (.t 3)),.u 10 (.call f0 [(.t 9)]),.m 5 (.t 8),.m 6 (.t 10)])
 (.fg [2,3,4,5,6] (.seq (.seq (.ops true [.u 11 (.ld none 2 true (.t 2)),.u 12 (.call f1 [(.t 11)]),.u 13 (.ld none 2 true (.t 3)),.u 14 (.call f1 [(.t 13)]),.u 15 (.binb .eql (.t 12) (.t 14))])
 (.fg [2,3,4,5,6,15] (.cond (.t 15) (.seq (.ops false [.u 16 (.ld none 2 true (.t 2)),.u 17 (.call f1 [(.t 16)]),.m 18 (.t 5),.m 19 (.t 6),.u 20 (.call f2 [(.t 18),(.t 19)]),.u 21 (.call f3 [(.t 17),(.t 20)]),.n (.st none 2 (.t 4) (.t 21))])
 .ret) .skip)))
 (.fg [2,3,4,5,6] (.seq (.seq (.ops false [.m 22 (.t 5),.m 23 (.t 6),.u 24 (.call f4 [(.t 22),(.t 23)]),.u 25 (.bin .geq (.t 24) (.i 0))])
 (.fg [2,3,4,5,6,25] (.cond (.t 25) (.seq (.ops false [.u 26 (.ld none 2 true (.t 2)),.u 27 (.call f1 [(.t 26)]),.m 28 (.t 5),.m 29 (.t 6),.u 30 (.call f5 [(.t 28),(.t 29)]),.u 31 (.call f3 [(.t 27),(.t 30)]),.n (.st none 2 (.t 4) (.t 31))])
 .ret) .skip)))
 (.fg [3,4,5,6] (.seq (.ops false [.u 32 (.ld none 2 true (.t 3)),.u 33 (.call f1 [(.t 32)]),.m 34 (.t 6),.m 35 (.t 5),.u 36 (.call f5 [(.t 34),(.t 35)]),.u 37 (.call f3 [(.t 33),(.t 36)]),.n (.st none 2 (.t 4) (.t 37))])
 .ret)))))))))
def Wj(f0 f1:Nat):AC:=(.seq (.ops false [.u 2 (.box 2 (.t 0)),.u 3 (.box 2 (.t 1)),.u 4 (.alloc [(.lit (.bool false)),.emp])])
 (.fg [2,3,4] (.seq (.ops true [.u 5 (.ld none 2 true (.t 2)),.u 6 (.ld none 2 true (.t 3)),.u 7 (.call f0 [(.t 6)]),.u 8 (.call f1 [(.t 5),(.t 7)]),.n (.st none 2 (.t 4) (.t 8))])
 .ret)))
def Xj(f0 f1 f2:Nat):AC:=(.seq (.ops false [.u 2 (.box 2 (.t 0)),.u 3 (.box 2 (.t 1)),.u 4 (.alloc [(.lit (.bool false)),.emp])])
 (.fg [2,3,4] (.seq (.ops true [.u 5 (.ld none 2 true (.t 2)),.u 6 (.call f0 [(.t 5)]),.u 7 (.ld none 2 true (.t 3)),.u 8 (.call f0 [(.t 7)]),.u 9 (.call f1 [(.t 6),(.t 8)]),.u 10 (.call f2 [.fa,(.t 9)]),.n (.st none 2 (.t 4) (.t 10))])
 .ret)))
def xj(f0 f1 f2 f3 f4 f5 f6:Nat):AC:=(.seq (.ops false [.u 2 (.box 2 (.t 0)),.u 3 (.box 2 (.t 1)),.u 4 (.alloc [(.lit (.bool false)),.emp]),.u 5 (.alloc [(.lit (.bool false)),.emp]),.m 6 (.i 0)])
 (.fg [2,3,4,5] (.seq (.seq (.ops false [.u 9 (.ld none 2 true (.t 3)),.u 10 (.call f0 [(.t 9)]),.u 11 (.bin .eql (.t 10) (.i 0))])
 (.fg [2,3,4,5,11] (.cond (.t 11) (.seq (.ops false [.u 12 (.build [.z [(.lit (.bool false)),.emp]]),.u 13 (.build [.z [(.lit (.bool false)),.emp]]),.n (.st none 2 (.t 4) (.t 12)),.n (.st none 2 (.t 5) (.t 13)),.m 6 (.i 8)])
 .ret) .skip)))
 (.fg [2,3,4,5] (.seq (.ops true [.u 15 (.ld none 2 true (.t 2)),.u 16 (.call f1 [(.t 15)]),.u 17 (.ld none 2 true (.t 3)),.u 18 (.call f1 [(.t 17)]),.u 19 (.call f2 [(.t 16),(.t 18)]),.m 14 (.t 19),.u 20 (.ext 0 (.t 14)),.u 21 (.ext 1 (.t 14)),.m 7 (.t 20),.m 8 (.t 21)])
 (.fg [2,3,4,5,7,8] (.seq (.seq (.ops false [.u 22 (.ld none 2 true (.t 2)),.u 23 (.call f3 [(.t 22)]),.m 24 (.t 23),.w 25 24 true (.mv (.t 8)),.w 26 24 true (.len (.t 25)),.w 27 24 true (.bin .gtr (.t 26) (.i 0)),.u 28 (.pick (.t 24) (.t 27) .fa)])
 (.fg [2,3,4,5,7,8,28] (.cond (.t 28) (.ops true [.m 29 (.t 7),.u 30 (.row 1 [[.x 1 (.c (.one (.lit (.int .u32 1))))]]),.u 31 (.call f4 [(.t 29),(.t 30)]),.u 32 (.ld none 2 true (.t 3)),.u 33 (.call f1 [(.t 32)]),.m 34 (.t 8),.u 35 (.call f5 [(.t 33),(.t 34)]),.m 7 (.t 31),.m 8 (.t 35)]) .skip)))
 (.fg [2,3,4,5,7,8] (.seq (.ops true [.u 36 (.ld none 2 true (.t 2)),.u 37 (.call f3 [(.t 36)]),.u 38 (.ld none 2 true (.t 3)),.u 39 (.call f3 [(.t 38)]),.u 40 (.binb .neq (.t 37) (.t 39)),.m 41 (.t 7),.u 42 (.call f6 [(.t 40),(.t 41)]),.m 43 (.t 8),.u 44 (.call f6 [.fa,(.t 43)]),.n (.st none 2 (.t 4) (.t 42)),.n (.st none 2 (.t 5) (.t 44)),.m 6 (.i 0)])
 .ret)))))))))
theorem Waa(hΓ:Holds P Γ){f ft:Nat}(ht:Γ ft=.fresh 1 Qx)(hc:check P f=some (14,(Xh ft).strip,[.cell 4 2 true])):Sound P f (.dat false Jf):=by
 refine Wa hc uS hΓ (λargs K hcl hfi hG=>?_);match args,hG with
 | [a,m],hG=>
  obtain⟨b,rfl,hG⟩:=Zx hG;obtain⟨l,rfl,hl,hlen,hK⟩:=hG;refine⟨by simp,?_⟩
  simp only [go_sem,Xh,ht];refine⟨hl,hlen,λ_=>⟨λh=>?_,λh=>?_⟩⟩
  .have h0:val l=0:=uw.1 h;have e:zcan (sg b (val l))=zcan 0:=by rw [h0];unfold sg;split <;> rfl
   rw [e]at hK;have e2:(zcan 0)=(false,[]):=by simp [zcan,yb]
   rw [e2]at hK;exact hK
  .rw [<-vP]at hK;have e:decide (0<(digs (val l)).length)=true:=by simp only [decide_eq_true_eq];omega
   rw [e,Bool.and_true]at hK;exact hK
theorem VZ(hΓ:Holds P Γ){f fm fn:Nat}(hm:Γ fm=.dat false vj)(hn:Γ fn=.dat true Yf)(hc:check P f=some (9,(qi fm fn).strip,[.tmp 2])):Sound P f (.dat true Zh):=by
 refine Wa hc yO hΓ (λargs K hcl hfi hG=>?_);match args,hG with
 | [a],hG=>
  obtain⟨w,rfl,hw,hK⟩:=hG;refine⟨by simp,?_⟩
  simp only [go_sem,qi,hm,hn,hw];intro _;refine⟨λh=>?_,λh=>⟨λhb=>?_,λhb=>?_⟩⟩
  .have h0:zv w=0:=qx.1 h;rw [h0]at hK;exact hK
  .rw [Int.sign_eq_neg_one_of_neg hb]at hK;exact hK
  .have h0:zv w≠0:=λe=>h (qx.2 e);rw [Int.sign_eq_one_of_pos (by omega)]at hK;exact hK
theorem uad(hΓ:Holds P Γ){f fn fa:Nat}(hn:Γ fn=.dat false yu)(ha:Γ fa=.dat false jx)(hc:check P f=some (9,(Wj fn fa).strip,[.cell 4 2 true])):Sound P f (.dat false zG):=by
 refine Wa hc Xa7 hΓ (λargs K hcl hfi hG=>?_);match args,hG with
 | [a,b],hG=>
  obtain⟨v,rfl,hv,w,rfl,hw,hz,hz',hK⟩:=hG;refine⟨by simp,?_⟩
  simp only [go_sem,Wj,hn,ha,hw,hv];refine⟨by omega,hz,by rw [Vaa];exact hz',?_⟩
  rw [<-Int.sub_eq_add_neg];exact hK
theorem Wad(hΓ:Holds P Γ){f fs fg:Nat}(hs:Γ fs=.dat false zG)(hg:Γ fg=.dat true Zh)(hc:check P f=some (9,(uj fs fg).strip,[.tmp 4])):Sound P f (.dat true Xq):=by
 refine Wa hc Zam hΓ (λargs K hcl hfi hG=>?_);match args,hG with
 | [a,b],hG=>
  obtain⟨v,rfl,hv,w,rfl,hw,hz,hz',hz2,hK⟩:=hG;refine⟨by simp,?_⟩
  simp only [go_sem,uj,hs,hg,hw,hv];refine⟨hz,hz',?_⟩;have e:Int.sign (zv v-zv w)=ordI (zv v) (zv w):=by
   unfold ordI;split
   .exact Int.sign_eq_neg_one_of_neg (by omega)
   .split
    .exact Int.sign_eq_one_of_pos (by omega)
    .rw [show zv v-zv w=0 by omega];rfl
  rw [e];exact hK
theorem J0(hΓ:Holds P Γ){f fm fg fw:Nat}(hm:Γ fm=.dat false vj)(hg:Γ fg=.dat false yx)(hw' : Γ fw=.dat false Jf)(hc:check P f=some (11,(Xj fm fg fw).strip,[.cell 4 2 true])):Sound P f (.dat false Xt):=by
 refine Wa hc U7 hΓ (λargs K hcl hfi hG=>?_);match args,hG with
 | [a,b],hG=>
  obtain⟨v,rfl,hv,w,rfl,hw,hz,hz',hK⟩:=hG;refine⟨by simp,?_⟩
  simp only [go_sem,Xj,hm,hg,hw',hw,hv,jb];have hle:(digs ((zv v).natAbs.gcd (zv w).natAbs)).length<=17179869184:=by
   rcases Nat.eq_zero_or_pos (zv v).natAbs with h | h
   .rw [h,Nat.gcd_zero_left];exact hz'
   .exact Nat.le_trans (Ua (Nat.le_of_dvd h (Nat.gcd_dvd_left _ _))) hz
  exact⟨qb _,qb _,hz,hz',qb _,by omega,hK⟩
theorem V9(hΓ:Holds P Γ){f fn fm fp fw fc fl:Nat}(hn:Γ fn=.dat true Yf)(hm:Γ fm=.dat false vj)(hp:Γ fp=.dat false Vp)(hw' : Γ fw=.dat false Jf)(hc' : Γ fc=.dat true Qt)(hl:Γ fl=.dat false Ys)(hc:check P f=some (38,(kj fm fn fp fw fc fl).strip,[.cell 4 2 true])):Sound P f (.dat false jx):=by
 refine Wa hc Uab hΓ (λargs K hcl hfi hG=>?_);match args,hG with
 | [a,b],hG=>
  obtain⟨v,rfl,hv,w,rfl,hw,hz,hz',hK⟩:=hG;refine⟨by simp,?_⟩
  simp only [go_sem,kj,hn,hm,hp,hw',hc',hl,hw,hv];simp only [jb];have hsz:=vL (zv v) (zv w);refine⟨λh=>⟨qb _,qb _,hz,hz',qb _,?_,?_⟩,λh=>⟨qb _,qb _,λho=>⟨qb _,qb _,by unfold zs at hz;omega,?_,qb _,?_,?_⟩,λho=>⟨qb _,qb _,by unfold zs at hz';omega,?_,qb _,?_,?_⟩⟩⟩
  .have e:=Wy (Wi h);rw [show(zv v).natAbs+(zv w).natAbs=(zv v+zv w).natAbs by have:=Wi h;omega]
   unfold zs at *;omega
  .rw [Wy (Wi h)];exact hK
  .exact(Qw.1 ho)
  .have:=Ua (Nat.sub_le (zv v).natAbs (zv w).natAbs);unfold zs at *;omega
  .have h1:=Qw.1 ho;rw [Jau (Vr h) h1];exact hK
  .have:=mt Qw.2 ho;omega
  .have:=Ua (Nat.sub_le (zv w).natAbs (zv v).natAbs);unfold zs at *;omega
  .have h1:=mt Qw.2 ho;rw [Jau (λe=>Vr h e.symm) (by omega),Int.add_comm];exact hK
theorem U0(hΓ:Holds P Γ){f fs fn fm fp fw fd fl:Nat}(hs:Γ fs=.dat true Zh)(hn:Γ fn=.dat true Yf)(hm:Γ fm=.dat false vj)(hp:Γ fp=.dat false Vp)(hw' : Γ fw=.dat false Jf)(hd:Γ fd=.dat false vh)(hl:Γ fl=.dat false Ys)(hc:check P f=some (45,(xj fs fm fd fn fp fl fw).strip,[.cell 4 2 true,.cell 5 2 true,.tmp 6])):Sound P f (.dat false yq):=by
 refine Wa hc Jan hΓ (λargs K hcl hfi hG=>?_);match args,hG with
 | [a,b],hG=>
  obtain⟨v,rfl,hv,w,rfl,hw,hz,hz',h0,hK⟩:=hG;refine⟨by simp,?_⟩
  simp only [go_sem,xj,hs,hn,hm,hp,hw',hd,hl,hw,hv];simp only [jb];have hne:¬(digs (zv w).natAbs).length=0:=λe=>h0 (qx.1 e);refine⟨λe=>absurd (Int.sign_eq_zero_iff_zero.1 e) h0,λ_=>⟨qb _,qb _,Uo _,Uo _,λe=>hne (by rw [e];rfl),hz,hz',?_⟩⟩
  have hq:(digs ((zv v).natAbs / (zv w).natAbs)).length<=17179869184:=Nat.le_trans (Ua (Nat.div_le_self _ _)) hz;have hr:(digs ((zv v).natAbs % (zv w).natAbs)).length<=17179869184:=Nat.le_trans (Ua (Nat.mod_le _ _)) hz;have hz'' : (digs (zv w).natAbs).length<=17179869184:=hz';have hlt:=Nat.mod_lt (zv v).natAbs (show 0<(zv w).natAbs by omega)
  have hfin:(0<=zv v∨(zv v).natAbs % (zv w).natAbs=0)->K (AV.tup
    [AV.agg [zb (zcan (sg (!(decide (zv v<0) == decide (zv w<0))) ((zv v).natAbs / (zv w).natAbs))),zm (zcan (sg (!(decide (zv v<0) == decide (zv w<0))) ((zv v).natAbs / (zv w).natAbs)))],
     AV.agg [zb (zcan (sg false ((zv v).natAbs % (zv w).natAbs))),zm (zcan (sg false ((zv v).natAbs % (zv w).natAbs)))],AV.one (C.lit (Value.int IntKind.i64 0))]):=by
   intro h;obtain⟨e1,e2⟩:=yaz h0 h;have e1' : sg (!(decide (zv v<0) == decide (zv w<0))) ((zv v).natAbs / (zv w).natAbs)=zv v / zv w:=e1;have e2' : sg false ((zv v).natAbs % (zv w).natAbs)=zv v % zv w:=e2;rw [e1',e2'];exact hK
  refine⟨λhneg _=>⟨λhp=>⟨qb _,(yaA _ 1).mpr ⟨xc.2 ⟨by decide,zd⟩,hq,by decide,qb _,qb _,by omega,by omega,qb _,?_,qb _,?_,?_⟩⟩,λhp=>⟨qb _,by omega,qb _,by omega,hfin (.inr ?_)⟩⟩,λhneg=>⟨qb _,by omega,qb _,by omega,hfin (.inl (by omega))⟩⟩
  .have hv1:val [1]=1:=rfl;rw [hv1];have h1:zs 1<=2:=Xo (by decide)
   have:=vL (((zv v).natAbs / (zv w).natAbs:Nat):Int) 1;have e:(((zv v).natAbs / (zv w).natAbs:Nat):Int)+1=(((zv v).natAbs / (zv w).natAbs+1:Nat):Int):=by omega
   rw [e]at this;have h3:zs (((zv v).natAbs / (zv w).natAbs:Nat):Int)=(digs ((zv v).natAbs / (zv w).natAbs)).length:=rfl;have h4:zs (((zv v).natAbs / (zv w).natAbs+1:Nat):Int)=(digs ((zv v).natAbs / (zv w).natAbs+1)).length:=rfl;rw [h3,h4]at this;omega
  .have:=Ua (Nat.sub_le (zv w).natAbs ((zv v).natAbs % (zv w).natAbs));omega
  .have hv1:val [1]=1:=rfl;rw [hv1];have hne' : (zv v).natAbs % (zv w).natAbs≠0:=by
    intro e;rw [e,yb]at hp;simp at hp
   obtain⟨e1,e2⟩:=xaB h0 hneg hne';have e1' : sg (!(decide (zv v<0) == decide (zv w<0))) ((zv v).natAbs / (zv w).natAbs+1)=zv v / zv w:=e1;have e2' : sg false ((zv w).natAbs-(zv v).natAbs % (zv w).natAbs)=zv v % zv w:=e2;rw [e1',e2'];exact hK
  .have:digs ((zv v).natAbs % (zv w).natAbs)=[]:=List.eq_nil_of_length_eq_zero (by omega)
   exact xf.1 this
end Go.Abs
end
