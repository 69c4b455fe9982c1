/-
  Parts of the proof, merged: WholA.
-/
import Derived.Test.YtfichbefnpcdeaaGreatM17
set_option linter.unusedVariables false
set_option linter.unusedSimpArgs false
set_option linter.unnecessarySimpa false
set_option maxRecDepth 100000
section
namespace Go.Num
open Go.Abs
def wl(x:R):Nat:=x.2.1.length+x.2.2.length
def gP(p:Ps):Bool:=decide (tchk p.1=0) && vldR p.2.1 && vldR p.2.2 && decide (wl p.1.1<=4) && decide (wl p.2.1<=4) && decide (wl p.2.2<=4)
theorem Xa3{p:Ps}(h:gP p=true):pvld p=true/\pl p<=4:=by
 unfold gP at h;simp only [Bool.and_eq_true,decide_eq_true_eq]at h;obtain⟨⟨⟨⟨⟨h1,h2⟩,h3⟩,h4⟩,h5⟩,h6⟩:=h;unfold wl at h4 h5 h6;refine⟨?_,?_⟩
 .unfold pvld avld;rw [h1,h2,h3];rfl
 .unfold pl al rl;refine Nat.max_le.2 ⟨Nat.max_le.2 ⟨by omega,by omega⟩,Nat.max_le.2 ⟨Nat.max_le.2 ⟨by omega,by omega⟩,Nat.max_le.2 ⟨by omega,by omega⟩⟩⟩
theorem psk4{p:Ps}(hw:WLP p)(h:pl p<=4):rz (pv p).1.1<=4/\zq (pv p).2<=4:=
 ⟨Nat.le_trans (Wn hw.1) (Nat.le_trans (Nat.le_max_left _ _) h),Nat.le_trans (kaj hw.2) (Nat.le_trans (Nat.le_max_right _ _) h)⟩
theorem waY{p q:Ps}(w1:WLP p)(w2:WLP q)(l1:pl p<=4)(l2:pl q<=4):zq (fixQ (btwQ (pv p) (pv q)))<=100000:=by
 obtain⟨a1,a2⟩:=psk4 w1 l1;obtain⟨b1,b2⟩:=psk4 w2 l2;have i1:=wQ (backQ (pv p).1) (negQ (pv p).2);have i2:=qaf (pv p).2;have i3:rz (backQ (pv p).1).1=rz (pv p).1.1:=Ws _;have i4:(invQ (pv p)).2=rotQ (backQ (pv p).1) (negQ (pv p).2):=rfl;have t:=Yau (invQ (pv p)).1 (pv q).1;have t2:(invQ (pv p)).1=backQ (pv p).1:=rfl;have u:=Waz (pv q) (invQ (pv p)).2;rw [t2]at t;rw [i4]at u;have eB:btwQ (pv p) (pv q)=(addT (backQ (pv p).1) (pv q).1,appQ (pv q) (rotQ (backQ (pv p).1) (negQ (pv p).2))):=rfl;rw [eB];obtain⟨T,hT⟩:∃T,addT (backQ (pv p).1) (pv q).1=T:=⟨_,rfl⟩;obtain⟨A,hA⟩:∃A,appQ (pv q) (rotQ (backQ (pv p).1) (negQ (pv p).2))=A:=⟨_,rfl⟩;rw [hT]at t ⊢;rw [hA]at u ⊢;have c:=yaf T;have s:=uab T;have h1:=rz_1;have h2:=rz_2;have k:=Xu 1 (cosQ T);have m1:=ze (1-cosQ T) A.1;have m2:=ze (sinQ T) A.2;have m3:=Xu ((1-cosQ T)*A.1) (sinQ T*A.2);have m4:=ze 2 (1-cosQ T);have m5:=zC ((1-cosQ T)*A.1-sinQ T*A.2) (2*(1-cosQ T));have n1:=ze (1-cosQ T) A.2;have n2:=ze (sinQ T) A.1;have n3:=qm ((1-cosQ T)*A.2) (sinQ T*A.1);have n5:=zC ((1-cosQ T)*A.2+sinQ T*A.1) (2*(1-cosQ T));have z:zq A=max (rz A.1) (rz A.2):=rfl;have y1:rz A.1<=zq A:=Nat.le_max_left _ _;have y2:rz A.2<=zq A:=Nat.le_max_right _ _;show max (rz (fixQ (T,A)).1) (rz (fixQ (T,A)).2)<=100000;unfold fixQ;simp only;refine Nat.max_le.2 ⟨by omega,by omega⟩
def abtQ(c:V2)(t:TnQ):PsQ:=(t,subQ c (appQ (t,(0,0)) c))
theorem QaW{B:PsQ}(h:zeroT B.1=false):abtQ (fixQ B) B.1=B:=by
 have e:=Va3 h;have e1:appQ (B.1,(0,0)) (fixQ B)=subQ (fixQ B) B.2:=by
  have:appQ B (fixQ B)=addQ (rotQ B.1 (fixQ B)) B.2:=rfl;rw [this]at e;have e2:appQ (B.1,(0,0)) (fixQ B)=addQ (rotQ B.1 (fixQ B)) (0,0):=rfl;rw [e2];have h1:=congrArg Prod.fst e;have h2:=congrArg Prod.snd e;unfold addQ at h1 h2;simp only at h1 h2;unfold addQ subQ;exact Prod.ext (by simp only;grind) (by simp only;grind)
 unfold abtQ;rw [e1];unfold subQ;exact Prod.ext rfl (Prod.ext (by simp only;grind) (by simp only;grind))
end Go.Num
namespace Go.Abs
open Go.Num
variable {P:Program} {Γ:Nat->Spec} {L:List (Nat×Spec)}
theorem zaW(K:AV->Prop)(dr:Bool)(x:R):lenA K dr (.one (cn x))=bndK dr x.2.1.length (intR K .i64 (x.2.1.length:Nat)):=by
 unfold cn ws;rw [Qy,List.length_map]
theorem YaX(K:AV->Prop)(dr:Bool)(x:R):lenA K dr (.one (cd x))=bndK dr x.2.2.length (intR K .i64 (x.2.2.length:Nat)):=by
 unfold cd ws;rw [Qy,List.length_map]
def Qx:q_T:=q_c1 λa K=>onT (λt=>rl t.1<=100000000/\K (.one (.lit (.int .i64 (tchk t:Nat))))) a
theorem xag:Good Qx:=q_g1 λ_=>(Zu λ_=>(.and λ_=>(.ret _)))
def kw:q_T:=q_c1 λa K=>onPo (λp=>pl p<=100000000/\K (.one (.lit (.bool (gP p))))) a
theorem Zak:Good kw:=q_g1 λ_=>(Xi λ_=>(.and λ_=>(.ret _)))
def Zs:q_T:=q_c2 λa b K=>onPo (λp=>onPo (λq=>pl p<=1000/\pl q<=1000/\pvld p=true/\pvld q=true/\K (.tup [tQ (btwQ (pv p) (pv q)).1,.one (.lit .nilIface)])) b) a
theorem xU:Good Zs:=q_g2 λ_ _=>(Xi λ_=>(Xi λ_=>(.and λ_=>(.and λ_=>(.and λ_=>(.and λ_=>(.ret _)))))))
def Xr:q_T:=q_c2 λa b K=>onA (λc=>onT (λt=>al c<=1000000/\rl t.1<=1000000/\avld c=true/\tchk t=0/\K (.tup [psQ (abtQ (av c) (tv t)),.one (.lit .nilIface)])) b) a
theorem jU:Good Xr:=q_g2 λ_ _=>(XL λ_=>(Zu λ_=>(.and λ_=>(.and λ_=>(.and λ_=>(.and λ_=>(.ret _)))))))
def uag:q_T:=q_c2 λa b K=>onPo (λp=>onPo (λq=>p=q/\pl p<=100000000/\pvld p=true/\K (.tup [.one (.lit (.bool true)),.one (.lit .nilIface)])) b) a
theorem VaC:Good uag:=q_g2 λ_ _=>(Xi λ_=>(Xi λ_=>(.and λ_=>(.and λ_=>(.and λ_=>(.ret _))))))
def qaj(tE:Nat):q_T:=q_c2 λa b K=>onErr tE (λc=>b=.one (.slice [[.lit (.int .i64 8)]])/\K (.one (.lit (.bool (decide ((c:Int)=8)))))) a
theorem kaC(tE:Nat):Good (qaj tE):=q_g2 λ_ _=>(yU λ_=>(.and λ_=>(.ret _)))
def Uv:q_T:=q_c0 λK=>K (.one (.lit (.bool true)))
theorem Zal:Good Uv:=q_g0 (.ret _)
def Zo:q_T:=q_c2 λa b K=>onPo (λp=>onPo (λq=>pl p<=1048576/\pl q<=1048576/\K (.one (.lit (.bool true)))) b) a
theorem xO:Good Zo:=q_g2 λ_ _=>(Xi λ_=>(Xi λ_=>(.and λ_=>(.and λ_=>(.ret _)))))
attribute [go_sem] Qx kw Zs Xr uag qaj Uv Zo
def wb(f0 f1:Nat):AC:=(.o [.K 1 4 0,.N 2 0] [1] (.f (.o [.A 3 0 1,.L 4 3 3,.H 5 f0 4,.u 6 (.un .not (.t 5)),.M 7 6,.T 8 7 false 3 1,.U 9 7 false 1 false 8,.V 10 7 false 9,.T 11 10 true 0 1,.U 12 10 true 3 true 11,.W 13 10 true f1 12,.w 14 10 true (.bin .neq (.t 13) (.i 0)),.w 15 7 false (.pick (.t 10) (.t 14) .fa),.Q 16 7 15] [16] (.cond (.t 16) (.seq (.p [.N 2 2]) .ret) .skip)) [] (.seq (.p [.N 2 0]) .ret)))
def vb(f0 f1:Nat):AC:=(.o [.K 1 10 0,.m 2 .fa] [1] (.seq (.p [.A 3 0 1,.L 4 4 3,.H 5 f0 4,.I 6 .eql 5 0,.M 7 6,.T 8 7 true 4 1,.T 9 7 true 0 8,.U 10 7 true 3 true 9,.W 11 7 true f1 10,.P 12 7 11,.M 13 12,.T 14 13 true 4 1,.T 15 13 true 3 14,.U 16 13 true 3 true 15,.W 17 13 true f1 16,.P 18 13 17,.M 19 18,.T 20 19 true 0 1,.T 21 19 true 0 20,.T 22 19 true 1 21,.U 23 19 true 1 false 22,.w 24 19 true (.len (.t 23)),.T 25 19 true 0 1,.T 26 19 true 0 25,.T 27 19 true 2 26,.U 28 19 true 1 false 27,.w 29 19 true (.len (.t 28)),.w 30 19 true (.bin .add (.t 24) (.t 29)),.w 31 19 true (.bin .leq (.t 30) (.i 4)),.P 32 19 31,.M 33 32,.T 34 33 true 4 1,.T 35 33 true 0 34,.T 36 33 true 1 35,.U 37 33 true 1 false 36,.w 38 33 true (.len (.t 37)),.T 39 33 true 4 1,.T 40 33 true 0 39,.T 41 33 true 2 40,.U 42 33 true 1 false 41,.w 43 33 true (.len (.t 42)),.w 44 33 true (.bin .add (.t 38) (.t 43)),.w 45 33 true (.bin .leq (.t 44) (.i 4)),.P 46 33 45,.M 47 46,.T 48 47 true 4 1,.T 49 47 true 3 48,.T 50 47 true 1 49,.U 51 47 true 1 false 50,.w 52 47 true (.len (.t 51)),.T 53 47 true 4 1,.T 54 47 true 3 53,.T 55 47 true 2 54,.U 56 47 true 1 false 55,.w 57 47 true (.len (.t 56)),.w 58 47 true (.bin .add (.t 52) (.t 57)),.w 59 47 true (.bin .leq (.t 58) (.i 4)),.P 60 47 59,.M 2 60]) .ret))
def Xm(f0:Nat):AC:=(.o [.K 2 10 0,.K 3 10 1,.G 4 [.z,.emp,.emp,.z],.m 5 (.c (.one (.lit .nilIface)))] [2,3,4] (.o [.L 9 10 2,.L 10 10 3,.D 11 f0 9 10,.M 8 11,.X 12 0 8,.X 13 1 8,.G 6 [.z,.emp,.emp,.z,.z,.emp,.emp,.z,.emp,.emp],.S 10 6 12,.M 7 13] [4,6,7] (.seq (.p [.A 14 0 6,.L 15 4 14,.M 16 7,.S 4 4 15,.M 5 16]) .ret)))
def km(f0 f1 f2 f3 f4 tE:Nat):AC:=(.o [.K 2 6 0,.K 3 4 1,.G 4 [.z,.emp,.emp,.z,.z,.emp,.emp,.z,.emp,.emp],.m 5 (.c (.one (.lit .nilIface)))] [2,3,4] (.f (.o [.L 8 6 2,.H 9 f0 8,.u 10 (.un .not (.t 9)),.M 11 10,.U 12 11 false 4 true 3,.W 13 11 false f1 12,.w 14 11 false (.binn .neq (.t 13) (.c (.one (.lit .nilIface)))),.Q 15 11 14] [2,3,4,15] (.cond (.t 15) (.seq (.p [.u 16 (.build [.z [.z,.emp,.emp,.z,.z,.emp,.emp,.z,.emp,.emp]]),.u 17 (.iface tE (.i 2)),.S 10 4 16,.M 5 17]) .ret) .skip)) [2,3,4] (.f (.y [.A 18 0 3,.L 19 3 18,.u 20 (.build [.z [.z,.emp,.emp]]),.D 21 f2 19 20,.A 22 3 3,.F 23 1 22,.u 24 (.build [.x 3 (.t 21),.x 1 (.t 23)]),.S 4 3 24]) [2,3,4] (.o [.L 26 4 3,.u 27 (.build [.x 4 (.t 26),.z [.z,.emp,.emp,.z,.emp,.emp]]),.L 28 6 2,.D 29 f3 27 28,.M 25 29,.X 30 0 25,.X 31 1 25,.G 6 [.z,.emp,.emp,.z,.emp,.emp],.S 6 6 30,.M 7 31] [2,3,4,6,7] (.f (.o [.M 32 7,.R 33 32] [2,3,4,6,7,33] (.cond (.t 33) (.seq (.p [.u 34 (.build [.z [.z,.emp,.emp,.z,.z,.emp,.emp,.z,.emp,.emp]]),.M 35 7,.S 10 4 34,.M 5 35]) .ret) .skip)) [2,3,4,6] (.seq (.y [.L 36 4 3,.L 37 6 2,.L 38 6 6,.D 39 f4 37 38,.u 40 (.build [.x 4 (.t 36),.x 6 (.t 39)]),.S 10 4 40,.m 5 (.c (.one (.lit .nilIface)))]) .ret))))))
def Vq(f0 f1 tE:Nat):AC:=(.o [.K 2 10 0,.K 3 10 1,.m 4 .fa,.m 5 (.c (.one (.lit .nilIface)))] [2,3] (.f (.o [.L 6 10 2,.H 7 f0 6,.u 8 (.un .not (.t 7)),.M 9 8,.U 10 9 false 10 true 3,.W 11 9 false f0 10,.w 12 9 false (.un .not (.t 11)),.Q 13 9 12] [2,3,13] (.cond (.t 13) (.seq (.p [.u 14 (.iface tE (.i 2)),.m 4 .fa,.M 5 14]) .ret) .skip)) [2,3] (.seq (.p [.A 15 0 2,.A 16 3 15,.F 17 1 16,.A 18 0 3,.A 19 3 18,.F 20 1 19,.u 21 (.binb .eql (.t 17) (.t 20)),.M 22 21,.T 23 22 true 0 2,.T 24 22 true 0 23,.U 25 22 true 3 true 24,.T 26 22 true 0 3,.T 27 22 true 0 26,.U 28 22 true 3 true 27,.Y 29 22 true f1 25 28,.w 30 22 true (.bin .eql (.t 29) (.i 0)),.P 31 22 30,.M 32 31,.T 33 32 true 4 2,.T 34 32 true 0 33,.U 35 32 true 3 true 34,.T 36 32 true 4 3,.T 37 32 true 0 36,.U 38 32 true 3 true 37,.Y 39 32 true f1 35 38,.w 40 32 true (.bin .eql (.t 39) (.i 0)),.P 41 32 40,.M 42 41,.T 43 42 true 4 2,.T 44 42 true 3 43,.U 45 42 true 3 true 44,.T 46 42 true 4 3,.T 47 42 true 3 46,.U 48 42 true 3 true 47,.Y 49 42 true f1 45 48,.w 50 42 true (.bin .eql (.t 49) (.i 0)),.P 51 42 50,.M 4 51,.m 5 (.c (.one (.lit .nilIface)))]) .ret)))
def Uh(f0:Nat):AC:=(.o [.m 4 .fa] [0,1] (.f (.o [.N 5 0] [0,1,5] (.block 0 (.loop (.f (.o [.M 6 5,.M 7 1,.Z 8 7,.B 9 .lss 6 8] [0,1,5,9] (.cond (.t 9) .skip (.exit 0))) [0,1,5] (.f (.block 1 (.o [.M 12 0,.M 13 1,.M 14 5,.J 15 1 13 14,.F 16 1 15,.D 17 f0 12 16] [0,1,5,17] (.cond (.t 17) (.seq (.p [.m 4 .tr]) .ret) .skip))) [0,1,5] (.p [.M 10 5,.I 11 .add 10 1,.M 5 11])))))) [] (.seq (.p [.m 4 .fa]) .ret)))
def qb(f0 f1 f2 f3 f4 f5 f6 f7:Nat):AC:=(.o [.K 2 10 0,.K 3 10 1,.m 4 .fa] [2,3] (.f (.o [.u 14 (.call f0 []),.u 15 (.un .not (.t 14)),.M 16 15,.U 17 16 false 10 true 2,.W 18 16 false f1 17,.w 19 16 false (.un .not (.t 18)),.Q 20 16 19,.M 21 20,.U 22 21 false 10 true 3,.W 23 21 false f1 22,.w 24 21 false (.un .not (.t 23)),.Q 25 21 24] [2,3,25] (.cond (.t 25) (.seq (.p [.u 26 (.call f0 []),.M 4 26]) .ret) .skip)) [2,3] (.o [.L 28 10 2,.L 29 10 3,.D 30 f2 28 29,.M 27 30,.X 31 0 27,.X 32 1 27,.G 5 [.z,.emp,.emp,.z,.emp,.emp],.S 6 5 31,.M 6 32] [2,3,5,6] (.f (.o [.M 33 6,.R 34 33] [2,3,5,6,34] (.cond (.t 34) (.seq (.p [.M 35 6,.u 36 (.row 1 [[.x 1 (.i 8)]]),.D 37 f3 35 36,.M 4 37]) .ret) .skip)) [2,3,5] (.o [.L 39 10 2,.L 40 10 3,.D 41 f4 39 40,.M 38 41,.X 42 0 38,.X 43 1 38,.G 7 [.z,.emp,.emp,.z],.S 4 7 42,.M 8 43] [2,3,5,7,8] (.o [.L 45 6 5,.L 46 4 7,.D 47 f5 45 46,.M 44 47,.X 48 0 44,.X 49 1 44,.G 9 [.z,.emp,.emp,.z,.z,.emp,.emp,.z,.emp,.emp],.S 10 9 48,.M 10 49] [2,3,8,9,10] (.o [.L 51 10 2,.L 52 10 3,.D 53 f6 51 52,.M 50 53,.X 54 0 50,.X 55 1 50,.G 11 [.z,.emp,.emp,.z,.z,.emp,.emp,.z,.emp,.emp],.S 10 11 54,.M 12 55] [8,9,10,11,12] (.f (.o [.M 56 8,.R 57 56,.M 58 57,.V 59 58 false 10,.w 60 58 false (.binn .neq (.t 59) (.c (.one (.lit .nilIface)))),.Q 61 58 60,.M 62 61,.V 63 62 false 12,.w 64 62 false (.binn .neq (.t 63) (.c (.one (.lit .nilIface)))),.Q 65 62 64] [9,11,65] (.cond (.t 65) (.seq (.p [.m 4 .fa]) .ret) .skip)) [9,11] (.o [.L 67 10 9,.L 68 10 11,.D 69 f7 67 68,.M 66 69,.X 70 0 66,.X 71 1 66,.M 13 70,.M 6 71] [6,13] (.seq (.p [.M 72 6,.u 73 (.binn .eql (.t 72) (.c (.one (.lit .nilIface)))),.M 74 73,.V 75 74 true 13,.P 76 74 75,.M 4 76]) .ret))))))))))
theorem UX(hΓ:Holds P Γ){f fv fs:Nat}(hv:Γ fv=.dat true Xc)(hs:Γ fs=.dat true jh)(hc:check P f=some (17,(wb fv fs).strip,[.tmp 2])):Sound P f (.dat true Qx):=by
 refine qa hc xag hΓ (λargs K hcl hfi hG=>?_);match args,hG with
 | [a],hG=>
  obtain⟨t,rfl,ht,hl,hK⟩:=hG;refine⟨by simp,?_⟩
  rw [ZaK]at hK;cases h1:vldR t.1 with
  | false=>
   rw [if_neg (λh=>by rw [h1]at h;exact absurd h.1 (by decide))]at hK
   simp only [go_sem,wb,hv,hs,tA,tC,ht,h1];exact⟨by omega,hK⟩
  | true=>
   cases h2:t.2 with
   | false=>
    rw [if_pos ⟨h1,λh=>by rw [h2]at h;exact absurd h.1 (by decide)⟩]at hK
    simp only [go_sem,wb,hv,hs,tA,tC,ht,h1,h2];exact⟨by omega,hK⟩
   | true=>
    by_cases h3:ordQ (rv t.1) 0=0
    .rw [if_pos ⟨h1,λh=>h.2 (Zm.1 h3)⟩]at hK;simp only [go_sem,wb,hv,hs,tA,tC,ht,h1,h2,h3];exact⟨by omega,by omega,hK⟩
    .rw [if_neg (λh=>h.2 ⟨h2,λe=>h3 (Zm.2 e)⟩)]at hK;simp only [go_sem,wb,hv,hs,tA,tC,ht,h1,h2,h3];exact⟨by omega,by omega,hK⟩
theorem jQ(hΓ:Holds P Γ){f fb:Nat}(hb:Γ fb=.dat false Yx)(hc:check P f=some (17,(Xm fb).strip,[.cell 4 4 true,.tmp 5])):Sound P f (.dat false Zs):=by
 refine qa hc xU hΓ (λargs K hcl hfi hG=>?_);match args,hG with
 | [a,b],hG=>
  obtain⟨p,rfl,wp,q,rfl,wq,lp,lq,vp,vq,hK⟩:=hG;refine⟨by simp,?_⟩
  have w1:=wp.1;have w2:=wp.2;have w3:=wq.1;have w4:=wq.2;obtain⟨B,hB⟩:∃B,btwQ (pv p) (pv q)=B:=⟨_,rfl⟩;rw [hB,Xw]at hK;simp only [go_sem,Xm,hb,poA,pC,vp,vq,zc,Zv,hB];repeat first | refine q_Wk ?_ | intro _
  exact hK
theorem kax(hΓ:Holds P Γ){f fi tE:Nat}(hi:Γ fi=.dat true (Vai tE))(hc:check P f=some (18,(Uh fi).strip,[.tmp 4])):Sound P f (.dat true (qaj tE)):=by
 refine qa hc (kaC tE) hΓ (λargs K hcl hfi hG=>?_);match args,hG with
 | [a,b],hG=>
  obtain⟨c,rfl,rfl,hK⟩:=hG;refine⟨by simp,?_⟩
  simp only [go_sem,Uh];repeat first | refine q_Wk ?_ | intro _
  refine Wa (λk:Nat=>⟨mkV [(0,errV tE c),(1,.one (.slice [[.lit (.int .i64 8)]])),(5,.one (.lit (.int .i64 k)))],mkH []⟩) (λk=>k<=1/\(k=1->c≠8)) (λk=>1-k) 0 ?_ ?_ ?_
  .exact ja (by simp [bitvec_to_nat,errV]) trivial
  .exact⟨Nat.zero_le _,λh=>by omega⟩
  .rintro k ⟨hk2,hc8⟩;by_cases h0:k=0
   .subst h0;simp only [go_sem,hi];repeat first | refine q_Wk ?_ | intro _
    refine⟨λh=>?_,λh=>⟨by decide,1,ja (by simp [bitvec_to_nat,errV]) trivial,⟨by omega,λ_ e=>h (by omega)⟩,by omega⟩⟩
    have:decide ((c:Int)=8)=true:=decide_eq_true h;rw [this]at hK;exact hK
   .have h1:k=1:=by omega
    subst h1;have:decide ((c:Int)=8)=false:=decide_eq_false λe=>hc8 rfl (by omega)
    rw [this]at hK;simp only [go_sem,hi];repeat first | refine q_Wk ?_ | intro _
    exact hK
theorem JV(hΓ:Holds P Γ){f fk fv:Nat}(hk:Γ fk=.dat true Qx)(hv:Γ fv=.dat true Xc)(hc:check P f=some (61,(vb fk fv).strip,[.tmp 2])):Sound P f (.dat true kw):=by
 refine qa hc Zak hΓ (λargs K hcl hfi hG=>?_);match args,hG with
 | [a],hG=>
  obtain⟨p,rfl,wp,lp,hK⟩:=hG;refine⟨by simp,?_⟩
  have w1:=wp.1;have w2:=wp.2;have hK' : gP p=(decide (tchk p.1=0) && vldR p.2.1 && vldR p.2.2 && decide (wl p.1.1<=4) && decide (wl p.2.1<=4) && decide (wl p.2.2<=4)):=rfl;rw [hK']at hK;unfold wl at hK;obtain⟨l1,l2⟩:=pl1 lp;obtain⟨l3,l4⟩:=al1 l2;have l3' : rl p.2.1<=4294967296:=Nat.le_trans l3 (by decide)
  have l4' : rl p.2.2<=4294967296:=Nat.le_trans l4 (by decide)
  have m1:p.1.1.2.1.length<=100000000:=Nat.le_trans (Nat.le_max_left _ _) l1;have m2:p.1.1.2.2.length<=100000000:=Nat.le_trans (Nat.le_max_right _ _) l1;have m3:p.2.1.2.1.length<=100000000:=Nat.le_trans (Nat.le_max_left _ _) l3;have m4:p.2.1.2.2.length<=100000000:=Nat.le_trans (Nat.le_max_right _ _) l3;have m5:p.2.2.2.1.length<=100000000:=Nat.le_trans (Nat.le_max_left _ _) l4;have m6:p.2.2.2.2.length<=100000000:=Nat.le_trans (Nat.le_max_right _ _) l4;have w3:WLR p.2.1:=w2.1;have w4:WLR p.2.2:=w2.2;by_cases c1:tchk p.1=0
  .rw [decide_eq_true c1,Bool.true_and]at hK;cases c2:vldR p.2.1 with
   | false=>
    rw [c2]at hK;simp only [go_sem,vb,hk,hv,poA,pC,zc,c1,c2];repeat first | refine q_Wk ?_ | intro _
    exact⟨⟨w3,l3',hK⟩,λh=>(h trivial).elim⟩
   | true=>
    cases c3:vldR p.2.2 with
    | false=>
     rw [c2,c3]at hK;simp only [go_sem,vb,hk,hv,poA,pC,zc,c1,c2,c3];repeat first | refine q_Wk ?_ | intro _
     exact⟨⟨w3,l3',w4,l4',hK⟩,λh=>(h trivial).elim⟩
    | true=>
     rw [c2,c3]at hK;simp only [Bool.true_and]at hK;simp only [go_sem,vb,hk,hv,poA,pC,zc,c1,c2,c3,zaW,YaX];repeat first | refine q_Wk ?_ | intro _
     refine⟨⟨w3,l3',w4,l4',λ_ _=>⟨by omega,λg1 _ _=>⟨by omega,λg2 _ _=>⟨by omega,?_⟩,λg2=>?_⟩,λg1=>?_⟩⟩,λh=>(h trivial).elim⟩
     .rw [decide_eq_true (by omega:p.1.1.2.1.length+p.1.1.2.2.length<=4),decide_eq_true (by omega:p.2.1.2.1.length+p.2.1.2.2.length<=4),Bool.true_and,Bool.true_and]at hK
      have e:decide (((p.2.2.2.1.length+p.2.2.2.2.length:Nat):Int)<=4)=decide (p.2.2.2.1.length+p.2.2.2.2.length<=4):=decide_eq_decide.2 (by omega)
      rw [e];exact hK
     .rw [decide_eq_true (by omega:p.1.1.2.1.length+p.1.1.2.2.length<=4),decide_eq_false (by omega:¬p.2.1.2.1.length+p.2.1.2.2.length<=4),Bool.true_and,Bool.false_and]at hK
      exact hK
     .rw [decide_eq_false (by omega:¬p.1.1.2.1.length+p.1.1.2.2.length<=4),Bool.false_and,Bool.false_and]at hK
      exact hK
  .rw [decide_eq_false c1]at hK;simp only [Bool.false_and]at hK;rcases Xt p.1 with c2 | c2
   .exact(c1 c2).elim
   simp only [go_sem,vb,hk,hv,poA,pC,zc,c2];repeat first | refine q_Wk ?_ | intro _
   exact hK
theorem zT(hΓ:Holds P Γ){f fv fk fa fp fs tE:Nat}(hv:Γ fv=.dat true ki)(hk:Γ fk=.dat false (Xf tE))(ha:Γ fa=.dat false Wl)(hp' : Γ fp=.dat false (qC tE))(hs:Γ fs=.dat false jx)(hc:check P f=some (41,(km fv fk fa fp fs tE).strip,[.cell 4 10 true,.tmp 5])):Sound P f (.dat false Xr):=by
 refine qa hc jU hΓ (λargs K hcl hfi hG=>?_);match args,hG with
 | [a,b],hG=>
  obtain⟨c,rfl,wc,t,rfl,wt,lc,lt,vc,vt,hK⟩:=hG;refine⟨by simp,?_⟩
  have et2:rcan (rv t.1)=t.1:=Zg wt (ZaN vt);have et:rcan (rv t.1+0)=t.1:=by rw [Rat.add_zero];exact et2
  obtain⟨X,hX⟩:∃X,appQ (tv t,(0,0)) (av c)=X:=⟨_,rfl⟩;have hv0:pvld (t,rcan 0,rcan 0)=true:=by
   unfold pvld avld;rw [vt,ug];rfl
  have hok:aok (t,rcan 0,rcan 0) c=true:=by unfold aok;rw [hv0,vc];rfl
  have ep:pv (t,rcan 0,rcan 0)=(tv t,(0,0)):=by
   show(tv t,(rv (rcan 0),rv (rcan 0)))=_;rw [Zc]
  have e7:(if aok (t,rcan 0,rcan 0) c=true then appQ (pv (t,rcan 0,rcan 0)) (av c) else (0,0))=X:=by rw [if_pos hok,ep,hX]
  have e9:errV tE (if aok (t,rcan 0,rcan 0) c=true then 0 else 2)=.one (.lit .nilIface):=by rw [if_pos hok];exact Qc tE
  have eab:abtQ (av c) (tv t)=(tv t,subQ (av c) X):=by unfold abtQ;rw [hX]
  have etv:(tv t).1=rv t.1:=rfl;have etb:(tv t).2=t.2:=rfl;have z0:rz 0=0:=rz_0;have b0:WLP (t,rcan 0,rcan 0):=⟨wt,jk _,jk _⟩;have b1:pl (t,rcan 0,rcan 0)<=1000000:=by
   show max (rl t.1) (max (rz 0) (rz 0))<=_;rw [z0];refine Nat.max_le.2 ⟨by omega,by decide⟩
  have b2:rz X.1<=100000000/\rz X.2<=100000000:=by
   have h1:=Waz (tv t,(0,0)) (av c);rw [hX]at h1;have h2:=Wn wt;have h3:=kaj wc;have h4:zq ((0,0):V2)=0:=by unfold zq;simp only [z0];rfl
   have h5:rz X.1<=zq X:=Nat.le_max_left _ _;have h6:rz X.2<=zq X:=Nat.le_max_right _ _;rw [etv]at h1;dsimp only at h1;rw [h4]at h1;omega
  have b3:al (rcan X.1,rcan X.2)<=100000000:=by
   show max (rz X.1) (rz X.2)<=_;exact Nat.max_le.2 b2
  have eX:av (rcan X.1,rcan X.2)=X:=by
   show(rv (rcan X.1),rv (rcan X.2))=X;rw [Zc,Zc]
  rw [eab,Zv]at hK;simp only [etv,etb,et2]at hK;simp only [go_sem,km,hv,hk,ha,hp',hs,aA,aC,tA,tC,vc,vt,zc,Qc tE,et,e7,e9,eX];repeat first | refine q_Wk ?_ | intro _
  exact hK
theorem Wal(hΓ:Holds P Γ){f fv fc tE:Nat}(hv:Γ fv=.dat true jq)(hx:Γ fc=.dat true ux)(hc:check P f=some (52,(Vq fv fc tE).strip,[.tmp 4,.tmp 5])):Sound P f (.dat false uag):=by
 refine qa hc VaC hΓ (λargs K hcl hfi hG=>?_);match args,hG with
 | [a,b],hG=>
  obtain⟨p,rfl,wp,q,rfl,wq,rfl,lp,vp,hK⟩:=hG;refine⟨by simp,?_⟩
  have w1:=wp.1;have w2:=wp.2;have l1:=(pl1 lp).1;have l2:=al1 (pl1 lp).2;have i1:ordQ (rv p.1.1) (rv p.1.1)=0:=Zm.2 rfl;simp only [go_sem,Vq,hv,hx,poA,pC,vp,zc];repeat first | refine q_Wk ?_ | intro _
  have i2:ordQ (rv p.2.1) (rv p.2.1)=0:=Zm.2 rfl;have i3:ordQ (rv p.2.2) (rv p.2.2)=0:=Zm.2 rfl;have w3:WLR p.2.1:=w2.1;have w4:WLR p.2.2:=w2.2;have k1:rl p.1.1<=4294967296:=Nat.le_trans l1 (by decide)
  have k2:rl p.2.1<=4294967296:=Nat.le_trans l2.1 (by decide)
  have k3:rl p.2.2<=4294967296:=Nat.le_trans l2.2 (by decide)
  refine⟨λ_=>⟨w1,w1,k1,k1,λ_=>⟨w3,w3,k2,k2,λ_=>⟨w4,w4,k3,k3,?_⟩,λh=>(h i2).elim⟩,λh=>(h i1).elim⟩,λh=>?_⟩
  .rw [decide_eq_true i3];exact hK
  .rw [beq_self_eq_true]at h;exact Bool.noConfusion h
theorem wL(hΓ:Holds P Γ){f fw fg fp fi fa fb fd fs tE:Nat}(hw:Γ fw=.dat true Uv)(hg:Γ fg=.dat true kw)(hp' : Γ fp=.dat false (uv tE))(hi:Γ fi=.dat true (qaj tE))(ha:Γ fa=.dat false Zs)(hb:Γ fb=.dat false Xr)(hd:Γ fd=.dat false Yx)(hs:Γ fs=.dat false uag)(hc:check P f=some (77,(qb fw fg fp fi fa fb fd fs).strip,[.tmp 4])):Sound P f (.dat true Zo):=by
 refine qa hc xO hΓ (λargs K hcl hfi hG=>?_);match args,hG with
 | [a,b],hG=>
  obtain⟨p,rfl,wp,q,rfl,wq,lp,lq,hK⟩:=hG;refine⟨by simp,?_⟩
  have w1:=wp.1;have w2:=wp.2;have w3:=wq.1;have w4:=wq.2;have lp2:pl p<=100000000:=Nat.le_trans lp (by decide)
  have lq2:pl q<=100000000:=Nat.le_trans lq (by decide)
  cases g1:gP p with
  | false=>
   simp only [go_sem,qb,hw,hg,poA,pC,zc,g1];repeat first | refine q_Wk ?_ | intro _
   exact hK
  | true=>
   cases g2:gP q with
   | false=>
    simp only [go_sem,qb,hw,hg,poA,pC,zc,g1,g2];repeat first | refine q_Wk ?_ | intro _
    exact hK
   | true=>
    obtain⟨vp,kp4⟩:=Xa3 g1;obtain⟨vq,kq4⟩:=Xa3 g2;have kp:pl p<=1000:=Nat.le_trans kp4 (by decide)
    have kq:pl q<=1000:=Nat.le_trans kq4 (by decide)
    have zf:=waY wp wq kp4 kq4;have vi:=Qaf vp vq;have wi:WLP (pcan (btwQ (pv p) (pv q))):=YV _;have li:=yaN wp wq kp kq;obtain⟨B,hB⟩:∃B,btwQ (pv p) (pv q)=B:=⟨_,rfl⟩;rw [hB]at vi wi li zf;cases hz:zeroT B.1 with
    | true=>
     have e8:errV tE 8=.one (.lit (.iface tE (.int .i64 8))):=vh tE (by decide)
     simp only [go_sem,qb,hw,hg,hp',hi,poA,pC,zc,g1,g2,vp,vq,hB,hz,if_true,e8,ZE];repeat first | refine q_Wk ?_ | intro _
     exact hK
    | false=>
     have eF:av (rcan (fixQ B).1,rcan (fixQ B).2)=fixQ B:=by
      show(rv (rcan (fixQ B).1),rv (rcan (fixQ B).2))=fixQ B;rw [Zc,Zc]
     have eT:tv (rcan B.1.1,B.1.2)=B.1:=by
      show(rv (rcan B.1.1),B.1.2)=B.1;rw [Zc]
     have eA:abtQ (av (rcan (fixQ B).1,rcan (fixQ B).2)) (tv (rcan B.1.1,B.1.2))=B:=by rw [eF,eT];exact QaW hz
     have bF:al (rcan (fixQ B).1,rcan (fixQ B).2)<=1000000:=Nat.le_trans zf (by decide)
     have bT:rz B.1.1<=1000000:=Nat.le_trans (Nat.le_max_left _ _) li;have vF:avld (rcan (fixQ B).1,rcan (fixQ B).2)=true:=by
      unfold avld;rw [ug,ug];rfl
     have tB:tchk (rcan B.1.1,B.1.2)=0:=(YO vi).1;have lB:pl ((rcan B.1.1,B.1.2),rcan B.2.1,rcan B.2.2)<=100000000:=Nat.le_trans li (by decide)
     have vB:pvld ((rcan B.1.1,B.1.2),rcan B.2.1,rcan B.2.2)=true:=vi;have wB:WLP ((rcan B.1.1,B.1.2),rcan B.2.1,rcan B.2.2):=wi;simp only [go_sem,qb,hw,hg,hp',hi,ha,hb,hd,hs,poA,pC,zc,g1,g2,vp,vq,hB,hz,Qc tE,ZE,Xw,Zv,eA];repeat first | refine q_Wk ?_ | intro _
     exact hK
end Go.Abs
end
