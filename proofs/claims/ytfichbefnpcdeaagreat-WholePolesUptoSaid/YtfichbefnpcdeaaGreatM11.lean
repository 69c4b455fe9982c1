/-
  Parts of the proof, merged: CoupB, CoupC, BurP, BurA, PoseL, BurB, CoupD, BurC, BurJ.
-/
import Derived.Test.YtfichbefnpcdeaaGreatM10
set_option linter.unusedVariables false
set_option linter.unusedSimpArgs false
set_option linter.unnecessarySimpa false
set_option maxRecDepth 100000
section
namespace Go.Num
open Go.Abs
end Go.Num
namespace Go.Abs
open Go.Num
variable {P:Program} {Γ:Nat->Spec}
def wd(f0:Nat):AC:=(.o [.K 1 6 0,.m 2 .fa] [1] (.seq (.p [.A 3 0 1,.L 4 3 3,.H 5 f0 4,.M 6 5,.T 7 6 true 3 1,.U 8 6 true 3 true 7,.W 9 6 true f0 8,.P 10 6 9,.M 2 10]) .ret))
def Ym(f0:Nat):AC:=(.o [.K 2 6 0,.K 3 6 1,.G 4 [.z,.emp,.emp,.z,.emp,.emp]] [2,3,4] (.seq (.y [.A 5 0 2,.L 6 3 5,.A 7 0 3,.L 8 3 7,.D 9 f0 6 8,.A 10 3 2,.L 11 3 10,.A 12 3 3,.L 13 3 12,.D 14 f0 11 13,.u 15 (.build [.x 3 (.t 9),.x 3 (.t 14)]),.S 6 4 15]) .ret))
theorem qy(hΓ:Holds P Γ){f fv:Nat}(hv:Γ fv=.dat true Xc)(hc:check P f=some (11,(wd fv).strip,[.tmp 2])):Sound P f (.dat true ki):=by
 refine qa hc YU hΓ (λargs K hcl hfi hG=>?_);match args,hG with
 | [a],hG=>
  obtain⟨⟨x,y⟩,rfl,⟨wx,wy⟩,hl,hK⟩:=hG;refine⟨by simp,?_⟩
  have hl':=Nat.max_le.1 hl;simp only at wx wy hl';unfold avld at hK;simp only at hK;cases hx:vldR x with
  | true=>
   rw [hx,Bool.true_and]at hK;simp only [go_sem,wd,hv,uE,hx];repeat first | refine q_Wk ?_ | intro _
   exact hK
  | false=>
   rw [hx,Bool.false_and]at hK;simp only [go_sem,wd,hv,uE,hx];repeat first | refine q_Wk ?_ | intro _
   exact hK
theorem kW(hΓ:Holds P Γ){f fs:Nat}(hs:Γ fs=.dat false Un)(hc:check P f=some (16,(Ym fs).strip,[.cell 4 6 true])):Sound P f (.dat false jx):=by
 refine qa hc Wai hΓ (λargs K hcl hfi hG=>?_);match args,hG with
 | [a,b],hG=>
  obtain⟨⟨x,y⟩,rfl,⟨wx,wy⟩,⟨u,v⟩,rfl,⟨wu,wv⟩,hl,hl2,hK⟩:=hG;refine⟨by simp,?_⟩
  have hl':=Nat.max_le.1 hl;have hl2':=Nat.max_le.1 hl2;simp only at wx wy wu wv hl' hl2';simp only [go_sem,Ym,hs,uE];repeat first | refine q_Wk ?_ | intro _
  exact hK
end Go.Abs
end
section
namespace Go.Num
open Go.Abs
end Go.Num
namespace Go.Abs
open Go.Num
variable {P:Program} {Γ:Nat->Spec}
end Go.Abs
end
section
namespace Go.Num
abbrev Rw:=BQ×BQ×BQ
def PsK(p:PsQ):Prop:=rz p.1.1<=1000/\zq p.2<=1000
def RB(s n:Nat)(a:Rw):Prop:=PB 2 s a.1/\PB 1 n a.2.1/\PB 1 n a.2.2
def crs(a b c:V2):Rat:=crossQ (subQ b a) (subQ c a)
end Go.Num
end
section
namespace Go.Num
open Go.Abs
theorem YO{p:Ps}(h:pvld p=true):tchk p.1=0/\avld p.2=true:=by
 unfold pvld at h;simp only [Bool.and_eq_true,decide_eq_true_eq]at h;exact h
theorem XaL{p:Ps}(hw:WLP p)(h:pl p<=1000):PsK (pv p):=
 ⟨Nat.le_trans (Wn hw.1) (Nat.le_trans (Nat.le_max_left _ _) h),Nat.le_trans (kaj hw.2) (Nat.le_trans (Nat.le_max_right _ _) h)⟩
end Go.Num
namespace Go.Abs
open Go.Num
variable {P:Program} {Γ:Nat->Spec}
def onRw(k:Rw->Prop)(a:AV):Prop:=∃p q r,a=.agg [bC p,bC q,bC r]/\(Canon p/\Canon q/\Canon r)/\k (p,q,r)
@[congr] theorem uba{k:Rw->Prop}{a a'}(h:a=a'):onRw k a=onRw k a':=by subst h;rfl
theorem qa4(k:Rw->Prop)(p q r:BQ):onRw k (.agg [bC p,bC q,bC r])=((Canon p/\Canon q/\Canon r)/\k (p,q,r)):=by
 refine propext ⟨λ⟨x,y,z,h,h1,h2⟩=>?_,λh=>⟨p,q,r,rfl,h⟩⟩;simp only [AV.agg.injEq,List.cons.injEq,and_true]at h;obtain⟨e1,e2,e3⟩:=h;have:=ZH e1;have:=ZH e2;have:=ZH e3
 subst_vars;exact⟨h1,h2⟩
theorem kaJ(k:Rw->Prop)(p q r:BQ):onRw k (.agg [.slice ((mcs p).map mC),.slice ((mcs q).map mC),.slice ((mcs r).map mC)])=((Canon p/\Canon q/\Canon r)/\k (p,q,r)):=qa4 k p q r
attribute [go_sem,go_sem ↓] kaJ
end Go.Abs
end
section
namespace Go.Num
open Go.Abs
abbrev P3:=Ps×Ps×Ps
def WL3(t:P3):Prop:=WLP t.1/\WLP t.2.1/\WLP t.2.2
def l3(t:P3):List Ps:=[t.1,t.2.1,t.2.2]
end Go.Num
namespace Go.Abs
open Go.Num
variable {P:Program} {Γ:Nat->Spec}
def p3C(t:P3):List C:=pC t.1++pC t.2.1++pC t.2.2
def p3A(t:P3):AV:=.agg (p3C t)
def onP3(k:P3->Prop)(a:AV):Prop:=onE p3A (λt=>WL3 t/\k t) a
@[congr] theorem Ybc{k:P3->Prop}{a a'}(h:a=a'):onP3 k a=onP3 k a':=by subst h;rfl
theorem XaE(t:P3):CleanL (p3C t):=by
 intro c hc;simp only [p3C,List.mem_append]at hc;rcases hc with(hc | hc) | hc
 .exact Wr _ c hc
 .exact Wr _ c hc
 .exact Wr _ c hc
theorem Xam(t:P3):(p3C t).length=30:=by simp [p3C,Ux]
theorem yac(t:P3):(p3C t).drop 0=p3C t:=rfl
theorem zan(t:P3):(p3C t).take 30=p3C t:=List.take_of_length_le (by rw [Xam];decide)
theorem za7(t:P3):(p3C t).take 10=pC t.1:=by unfold p3C;rw [List.append_assoc,List.take_left' (Ux _)]
theorem Za3(t:P3):(p3C t).drop 10=pC t.2.1++pC t.2.2:=by unfold p3C;rw [List.append_assoc,List.drop_left' (Ux _)]
theorem qa7(t:P3):((p3C t).drop 10).take 10=pC t.2.1:=by rw [Za3,List.take_left' (Ux _)]
theorem Xa4(t:P3):(((p3C t).drop 10).drop 10).take 10=pC t.2.2:=by rw [Za3,List.drop_left' (Ux _),List.take_of_length_le (by rw [Ux];decide)]
theorem xaL(t:P3)(r:List (List C)):datQ 0 0 (some ⟨p3C t::r,30,true⟩)=.ref (p3C t):=JA [] _ _ _ _ _ ⟨Nat.zero_le _,XaE t⟩
theorem YaN(k:List Ps->Prop)(p q r:Ps):onPs k (.one (.slice [pC p,pC q,pC r]))=((∀x∈l3 (p,q,r),WLP x)/\k (l3 (p,q,r))):=Zaw k (l3 (p,q,r))
theorem uaM(t:P3):p3A t=.agg (p3C t):=eq_of_heq (HEq.refl _)
attribute [go_sem,go_sem ↓] YaN Xam yac zan za7 qa7 Xa4 xaL uaM
end Go.Abs
end
section
namespace Go.Num
open Go.Abs
end Go.Num
namespace Go.Abs
open Go.Num
variable {P:Program} {Γ:Nat->Spec}
theorem gE1y(K:List C->Prop)(e0 e1:List C)(r:List (List C)):getE K (e0::e1::r) 1=K e1:=by simp [getE]
theorem gE2y(K:List C->Prop)(e0 e1 e2:List C)(r:List (List C)):getE K (e0::e1::e2::r) 2=K e2:=by simp [getE]
theorem gE3y(K:List C->Prop)(e0 e1 e2 e3:List C)(r:List (List C)):getE K (e0::e1::e2::e3::r) 3=K e3:=by simp [getE]
attribute [go_sem,go_sem ↓] gE1y gE2y gE3y
end Go.Abs
end
section
namespace Go.Num
open Go.Abs
theorem qx(x:Rat):decide (ordQ x 0=0)=decide (x=0):=by rw [decide_eq_decide];exact Zm
instance decH(c:CpR)(a b:V2):Decidable (hldQ c a b):=inferInstanceAs (Decidable (_/\_/\_))
end Go.Num
namespace Go.Abs
open Go.Num
variable {P:Program} {Γ:Nat->Spec}
end Go.Abs
end
section
namespace Go.Num
open Go.Abs
theorem qR(p:PsQ)(h:tchk (pcan p).1=0):pvld (pcan p)=true:=by
 unfold pvld;have:avld (pcan p).2=true:=by show(vldR (rcan _) && vldR (rcan _))=true;rw [ug,ug];rfl
 rw [this,h];rfl
theorem jaD{p:Ps}(h:tchk p.1=0):tchk (pcan (invQ (pv p))).1=0:=by
 unfold tchk at h ⊢;split at h
 .rename_i h1;rw [if_pos];refine⟨ug _,λh2=>h1.2 ⟨h2.1,?_⟩⟩;intro h3;apply h2.2;show rv (rcan (-(rv p.1.1)))=0;rw [Zc,h3];rfl
 .contradiction
theorem QaE{p:Ps}(h:pvld p=true):pvld (pcan (invQ (pv p)))=true:=qR _ (jaD (YO h).1)
end Go.Num
namespace Go.Abs
open Go.Num
variable {P:Program} {Γ:Nat->Spec}
end Go.Abs
end
section
namespace Go.Num
open Go.Abs
theorem qan{t:Tn}(h:tchk t=0)(hh:t.2=true):rv t.1=0:=by
 unfold tchk at h;split at h
 .rename_i h1;by_cases e:rv t.1=0
  .exact e
  .exact absurd ⟨hh,e⟩ h1.2
 .contradiction
theorem ZaN{t:Tn}(h:tchk t=0):vldR t.1=true:=by
 unfold tchk at h;split at h
 .rename_i h1;exact h1.1
 .contradiction
theorem VaV{a b:TnQ}:(addT a b).2=true->(addT a b).1=0:=by
 unfold addT;split
 .split
  .intro h;exact absurd h (by simp)
  .split
   .intro _;rfl
   .intro h;exact absurd h (by simp)
 .split
  .split
   .intro _;rfl
   .intro h;exact absurd h (by simp)
  .split
   .intro _;rfl
   .intro h;exact absurd h (by simp)
theorem Qaf{p q:Ps}(h1:pvld p=true)(h2:pvld q=true):pvld (pcan (btwQ (pv p) (pv q)))=true:=by
 refine qR _ ?_;unfold tchk;rw [if_pos];refine⟨ug _,λh=>?_⟩;have e:rv (pcan (btwQ (pv p) (pv q))).1.1=(btwQ (pv p) (pv q)).1.1:=Zc _;rw [e]at h;exact h.2 (VaV h.1)
theorem yaN{p q:Ps}(w1:WLP p)(w2:WLP q)(h1:pl p<=1000)(h2:pl q<=1000):pl (pcan (btwQ (pv p) (pv q)))<=1000000:=by
 obtain⟨a1,a2⟩:=XaL w1 h1;obtain⟨b1,b2⟩:=XaL w2 h2;have i1:=wQ (backQ (pv p).1) (negQ (pv p).2);have i2:=qaf (pv p).2;have i3:rz (backQ (pv p).1).1=rz (pv p).1.1:=Ws _;have i4:(invQ (pv p)).2=rotQ (backQ (pv p).1) (negQ (pv p).2):=rfl;have t:=Yau (invQ (pv p)).1 (pv q).1;have t2:(invQ (pv p)).1=backQ (pv p).1:=rfl;have u:=Waz (pv q) (invQ (pv p)).2;rw [t2]at t;rw [i4]at u;have e:pl (pcan (btwQ (pv p) (pv q)))=max (rz (addT (backQ (pv p).1) (pv q).1).1) (max (rz (appQ (pv q) (rotQ (backQ (pv p).1) (negQ (pv p).2))).1) (rz (appQ (pv q) (rotQ (backQ (pv p).1) (negQ (pv p).2))).2)):=rfl;have e2:zq (appQ (pv q) (rotQ (backQ (pv p).1) (negQ (pv p).2)))=max (rz (appQ (pv q) (rotQ (backQ (pv p).1) (negQ (pv p).2))).1) (rz (appQ (pv q) (rotQ (backQ (pv p).1) (negQ (pv p).2))).2):=rfl;rw [e,<-e2];refine Nat.max_le.2 ⟨by omega,by omega⟩
theorem qa8{a b:TnQ}(h:b.2=true)(h2:a.2=false):addT a b=addT b a:=by
 unfold addT;rw [h,h2];rfl
end Go.Num
namespace Go.Abs
open Go.Num
variable {P:Program} {Γ:Nat->Spec} {L:List (Nat×Spec)}
def t2A(p:Tn×Tn):AV:=.one (.slice [tC p.1,tC p.2])
theorem yam(x y:Tn×Tn)(h:t2A x=t2A y):x=y:=by
 simp only [t2A,AV.one.injEq,C.slice.injEq,List.cons.injEq,and_true]at h;exact Prod.ext (Van _ _ (congrArg AV.agg h.1)) (Van _ _ (congrArg AV.agg h.2))
def onT2(k:Tn×Tn->Prop)(a:AV):Prop:=onE t2A (λt=>(WLR t.1.1/\WLR t.2.1)/\k t) a
@[congr] theorem Jbc{k:Tn×Tn->Prop}{a a'}(h:a=a'):onT2 k a=onT2 k a':=by subst h;rfl
theorem xa5{β:Type}{T:Tn×Tn->(β->Prop)->Prop}(h:∀x,GoodT (T x)){a:AV}:GoodT λK=>onT2 (λx=>T x K) a:=
 uR (e:=t2A) (T:=λt K=>(WLR t.1.1/\WLR t.2.1)/\T t K) yam λt=>GoodT.and (c:=WLR t.1.1/\WLR t.2.1) (T:=T t) λ_=>h t
theorem UaM(k:Tn×Tn->Prop)(x y:R)(b c:Bool):onT2 k (.one (.slice [[cb x,cn x,cd x,.lit (.bool b)],[cb y,cn y,cd y,.lit (.bool c)]]))=((WLR x/\WLR y)/\k ((x,b),(y,c))):=
 jj yam (λt=>(WLR t.1.1/\WLR t.2.1)/\k t) ((x,b),(y,c))
attribute [go_sem,go_sem ↓] UaM
theorem t2l0:((0:Int)<((2:Nat):Int))=True:=eq_true (by decide)
theorem t2l1:((1:Int)<((2:Nat):Int))=True:=eq_true (by decide)
theorem t2l2:(((2:Nat):Int)<((2:Nat):Int))=False:=eq_false (by decide)
theorem QaP(K:List C->Prop)(a b:List C):getE K [a,b] 0=K a:=by simp [getE]
theorem yaV(K:List C->Prop)(a b:List C):getE K [a,b] 1=K b:=by simp [getE]
def yx(tE:Nat):q_T:=q_c1 λa K=>onT2 (λt=>rl t.1.1<=100000000/\rl t.2.1<=100000000/\tchk t.1=0/\tchk t.2=0/\K (.one (.lit .nilIface))) a
theorem waj(tE:Nat):Good (yx tE):=q_g1 λ_=>(xa5 λ_=>(.and λ_=>(.and λ_=>(.and λ_=>(.and λ_=>(.ret _))))))
def Qr:q_T:=q_c0 λK=>K (tQ (0,true))
theorem Xah:Good Qr:=q_g0 (.ret _)
def Us(r:Bool):q_T:=q_c2 λa b K=>onT (λt=>onT (λu=>(r=true∨t.2=true∨u.2=false)/\rl t.1<=1000000/\rl u.1<=1000000/\tchk t=0/\tchk u=0/\K (tQ (addT (tv t) (tv u)))) b) a
theorem yas(r:Bool):Good (Us r):=q_g2 λ_ _=>(Zu λ_=>(Zu λ_=>(.and λ_=>(.and λ_=>(.and λ_=>(.and λ_=>(.and λ_=>(.ret _))))))))
def uI:q_T:=q_c2 λa b K=>onT (λt=>onT (λu=>rl t.1<=1000000/\rl u.1<=1000000/\tchk t=0/\tchk u=0/\K (.tup [tQ (addT (tv t) (tv u)),.one (.lit .nilIface)])) b) a
theorem Vav:Good uI:=q_g2 λ_ _=>(Zu λ_=>(Zu λ_=>(.and λ_=>(.and λ_=>(.and λ_=>(.and λ_=>(.ret _)))))))
def Xv:q_T:=q_c2 λa b K=>onPo (λp=>onPo (λq=>pl p<=100000/\pl q<=100000/\pvld p=true/\pvld q=true/\K (.tup [psQ (thenQ (pv p) (pv q)),.one (.lit .nilIface)])) b) a
theorem vah:Good Xv:=q_g2 λ_ _=>(Xi λ_=>(Xi λ_=>(.and λ_=>(.and λ_=>(.and λ_=>(.and λ_=>(.ret _)))))))
def Yx:q_T:=q_c2 λa b K=>onPo (λp=>onPo (λq=>pl p<=1000/\pl q<=1000/\pvld p=true/\pvld q=true/\K (.tup [psQ (btwQ (pv p) (pv q)),.one (.lit .nilIface)])) b) a
theorem xan:Good Yx:=q_g2 λ_ _=>(Xi λ_=>(Xi λ_=>(.and λ_=>(.and λ_=>(.and λ_=>(.and λ_=>(.ret _)))))))
def WG(tE:Nat):q_T:=q_c1 λa K=>onPo (λp=>pl p<=1000000/\pvld p=true/\K (.tup [pQ (if zeroT (pv p).1=true then (0,0) else fixQ (pv p)),errV tE (if zeroT (pv p).1=true then 8 else 0)])) a
theorem Yax(tE:Nat):Good (WG tE):=q_g1 λ_=>(Xi λ_=>(.and λ_=>(.and λ_=>(.ret _))))
def uv(tE:Nat):q_T:=q_c2 λa b K=>onPo (λp=>onPo (λq=>pl p<=1000/\pl q<=1000/\pvld p=true/\pvld q=true/\K (.tup [pQ (if zeroT (btwQ (pv p) (pv q)).1=true then (0,0) else fixQ (btwQ (pv p) (pv q))),errV tE (if zeroT (btwQ (pv p) (pv q)).1=true then 8 else 0)])) b) a
theorem zai(tE:Nat):Good (uv tE):=q_g2 λ_ _=>(Xi λ_=>(Xi λ_=>(.and λ_=>(.and λ_=>(.and λ_=>(.and λ_=>(.ret _)))))))
attribute [go_sem] yx Qr Us uI Xv Yx WG uv
def vj(f0:Nat):AC:=(.o [.m 2 (.c (.one (.lit .nilIface)))] [0] (.f (.o [.M 6 0,.Z 7 6,.N 8 0] [6,7,8] (.block 0 (.loop (.o [.B 9 .lss 8 7] [6,7,8,9] (.f (.cond (.t 9) .skip (.exit 0)) [6,7,8] (.f (.block 1 (.o [.J 10 4 6 8,.L 11 4 10,.G 4 [.z,.emp,.emp,.z],.S 4 4 11] [4,6,7,8] (.o [.L 12 4 4,.H 13 f0 12,.M 5 13] [5,6,7,8] (.o [.M 14 5,.R 15 14] [5,6,7,8,15] (.cond (.t 15) (.seq (.p [.M 16 5,.M 2 16]) .ret) .skip))))) [6,7,8] (.p [.I 17 .add 8 1,.M 8 17]))))))) [] (.seq (.p [.m 2 (.c (.one (.lit .nilIface)))]) .ret)))
def xq:AC:=(.o [.G 0 [.z,.emp,.emp,.z]] [0] (.seq (.p [.u 1 (.build [.z [.z,.emp,.emp],.x 1 .tr]),.S 4 0 1]) .ret))
def vd(f0 f1 f2 f3 f4 f5 f6 f7:Nat):AC:=(.o [.K 2 4 0,.K 3 4 1,.G 4 [.z,.emp,.emp,.z]] [2,3,4] (.f (.block 0 (.o [.A 7 3 2,.F 8 1 7,.M 9 8,.T 10 9 true 3 3,.U 11 9 true 1 false 10,.P 12 9 11,.M 6 12] [2,3,4,6] (.cond (.t 6) (.seq (.p [.u 13 (.build [.z [.z,.emp,.emp,.z]]),.S 4 4 13]) .ret) (.o [.A 15 3 3,.F 16 1 15,.M 14 16] [2,3,4,14] (.cond (.t 14) (.seq (.p [.L 17 4 3,.L 18 4 2,.D 19 f0 17 18,.S 4 4 19]) .ret) (.o [.A 21 3 2,.F 22 1 21,.M 23 22,.T 24 23 true 0 3,.U 25 23 true 3 true 24,.W 26 23 true f1 25,.w 27 23 true (.bin .eql (.t 26) (.i 0)),.P 28 23 27,.M 20 28] [2,3,4,20] (.cond (.t 20) (.seq (.p [.L 29 4 2,.S 4 4 29]) .ret) (.o [.A 31 3 2,.F 32 1 31,.M 30 32] [2,3,4,30] (.cond (.t 30) (.seq (.y [.u 33 (.call f2 [(.i (-1))]),.A 34 0 3,.L 35 3 34,.D 36 f3 33 35,.u 37 (.build [.x 3 (.t 36),.z [.z]]),.S 4 4 37]) .ret) .skip))))))))) [2,3,4] (.f (.y [.u 38 (.call f2 [(.i 1)]),.A 39 0 2,.L 40 3 39,.A 41 0 3,.L 42 3 41,.D 43 f4 40 42,.D 44 f5 38 43,.G 5 [.z,.emp,.emp],.S 3 5 44]) [2,3,4,5] (.f (.o [.L 45 3 5,.H 46 f1 45,.I 47 .eql 46 0] [2,3,4,5,47] (.cond (.t 47) (.seq (.p [.u 48 (.call f6 []),.S 4 4 48]) .ret) .skip)) [2,3,4,5] (.seq (.y [.A 49 0 2,.L 50 3 49,.A 51 0 3,.L 52 3 51,.D 53 f7 50 52,.L 54 3 5,.D 55 f3 53 54,.u 56 (.build [.x 3 (.t 55),.z [.z]]),.S 4 4 56]) .ret)))))
def qt(f0 f1:Nat):AC:=(.o [.K 2 4 0,.K 3 4 1,.G 4 [.z,.emp,.emp,.z],.m 5 (.c (.one (.lit .nilIface)))] [2,3,4] (.f (.o [.L 7 4 2,.L 8 4 3,.u 9 (.row 4 [[.x 4 (.t 7)],[.x 4 (.t 8)]]),.H 10 f0 9,.M 6 10] [2,3,4,6] (.o [.M 11 6,.R 12 11] [2,3,4,6,12] (.cond (.t 12) (.seq (.p [.u 13 (.build [.z [.z,.emp,.emp,.z]]),.M 14 6,.S 4 4 13,.M 5 14]) .ret) .skip))) [2,3,4] (.seq (.p [.L 15 4 2,.L 16 4 3,.D 17 f1 15 16,.S 4 4 17,.m 5 (.c (.one (.lit .nilIface)))]) .ret)))
def Jq(f0 f1 f2 tE:Nat):AC:=(.o [.K 2 10 0,.K 3 10 1,.G 4 [.z,.emp,.emp,.z,.z,.emp,.emp,.z,.emp,.emp],.m 5 (.c (.one (.lit .nilIface)))] [2,3,4] (.f (.o [.L 9 10 2,.H 10 f0 9,.u 11 (.un .not (.t 10)),.M 12 11,.U 13 12 false 10 true 3,.W 14 12 false f0 13,.w 15 12 false (.un .not (.t 14)),.Q 16 12 15] [2,3,4,16] (.cond (.t 16) (.seq (.p [.u 17 (.build [.z [.z,.emp,.emp,.z,.z,.emp,.emp,.z,.emp,.emp]]),.u 18 (.iface tE (.i 2)),.S 10 4 17,.M 5 18]) .ret) .skip)) [2,3,4] (.o [.A 20 0 2,.L 21 4 20,.A 22 0 3,.L 23 4 22,.D 24 f1 21 23,.M 19 24,.X 25 0 19,.X 26 1 19,.G 6 [.z,.emp,.emp,.z],.S 4 6 25,.M 7 26] [2,3,4,6,7] (.f (.o [.M 27 7,.R 28 27] [2,3,4,6,7,28] (.cond (.t 28) (.seq (.p [.u 29 (.build [.z [.z,.emp,.emp,.z,.z,.emp,.emp,.z,.emp,.emp]]),.M 30 7,.S 10 4 29,.M 5 30]) .ret) .skip)) [2,3,4,6] (.o [.L 32 10 3,.A 33 4 2,.L 34 6 33,.D 35 f2 32 34,.M 31 35,.X 36 0 31,.X 37 1 31,.G 8 [.z,.emp,.emp,.z,.emp,.emp],.S 6 8 36,.M 7 37] [4,6,7,8] (.f (.o [.M 38 7,.R 39 38] [4,6,7,8,39] (.cond (.t 39) (.seq (.p [.u 40 (.build [.z [.z,.emp,.emp,.z,.z,.emp,.emp,.z,.emp,.emp]]),.M 41 7,.S 10 4 40,.M 5 41]) .ret) .skip)) [4,6,8] (.seq (.p [.L 42 4 6,.L 43 6 8,.u 44 (.build [.x 4 (.t 42),.x 6 (.t 43)]),.S 10 4 44,.m 5 (.c (.one (.lit .nilIface)))]) .ret)))))))
def Ul(f0 f1 f2 tE:Nat):AC:=(.o [.K 2 10 0,.K 3 10 1,.G 4 [.z,.emp,.emp,.z,.z,.emp,.emp,.z,.emp,.emp],.m 5 (.c (.one (.lit .nilIface)))] [2,3,4] (.f (.o [.L 8 10 2,.H 9 f0 8,.u 10 (.un .not (.t 9)),.M 11 10,.U 12 11 false 10 true 3,.W 13 11 false f0 12,.w 14 11 false (.un .not (.t 13)),.Q 15 11 14] [2,3,4,15] (.cond (.t 15) (.seq (.p [.u 16 (.build [.z [.z,.emp,.emp,.z,.z,.emp,.emp,.z,.emp,.emp]]),.u 17 (.iface tE (.i 2)),.S 10 4 16,.M 5 17]) .ret) .skip)) [2,3,4] (.o [.L 19 10 2,.H 20 f1 19,.M 18 20,.X 21 0 18,.X 22 1 18,.G 6 [.z,.emp,.emp,.z,.z,.emp,.emp,.z,.emp,.emp],.S 10 6 21,.M 7 22] [3,4,6,7] (.f (.o [.M 23 7,.R 24 23] [3,4,6,7,24] (.cond (.t 24) (.seq (.p [.u 25 (.build [.z [.z,.emp,.emp,.z,.z,.emp,.emp,.z,.emp,.emp]]),.M 26 7,.S 10 4 25,.M 5 26]) .ret) .skip)) [3,4,6] (.seq (.p [.L 27 10 6,.L 28 10 3,.D 29 f2 27 28,.X 30 0 29,.X 31 1 29,.S 10 4 30,.M 5 31]) .ret)))))
def Ug(f0 f1 f2 f3 f4 f5 f6 f7 tE:Nat):AC:=(.o [.K 1 10 0,.G 2 [.z,.emp,.emp,.z,.emp,.emp],.m 3 (.c (.one (.lit .nilIface)))] [1,2] (.f (.o [.L 11 10 1,.H 12 f0 11,.u 13 (.un .not (.t 12))] [1,2,13] (.cond (.t 13) (.seq (.p [.u 14 (.build [.z [.z,.emp,.emp,.z,.emp,.emp]]),.u 15 (.iface tE (.i 2)),.S 6 2 14,.M 3 15]) .ret) .skip)) [1,2] (.f (.o [.A 16 0 1,.A 17 3 16,.F 18 1 17,.u 19 (.un .not (.t 18)),.M 20 19,.T 21 20 true 0 1,.T 22 20 true 0 21,.U 23 20 true 3 true 22,.W 24 20 true f1 23,.w 25 20 true (.bin .eql (.t 24) (.i 0)),.P 26 20 25] [1,2,26] (.cond (.t 26) (.seq (.p [.u 27 (.build [.z [.z,.emp,.emp,.z,.emp,.emp]]),.u 28 (.iface tE (.i 8)),.S 6 2 27,.M 3 28]) .ret) .skip)) [1,2] (.o [.A 30 0 1,.L 31 4 30,.H 32 f2 31,.M 29 32,.X 33 0 29,.X 34 1 29,.X 35 2 29,.G 4 [.z,.emp,.emp],.G 5 [.z,.emp,.emp],.S 3 4 33,.S 3 5 34,.M 6 35] [1,2,4,5,6] (.f (.o [.M 36 6,.R 37 36] [1,2,4,5,6,37] (.cond (.t 37) (.seq (.p [.u 38 (.build [.z [.z,.emp,.emp,.z,.emp,.emp]]),.M 39 6,.S 6 2 38,.M 3 39]) .ret) .skip)) [1,2,4,5] (.f (.y [.u 40 (.call f3 [(.i 1)]),.L 41 3 4,.D 42 f4 40 41,.G 7 [.z,.emp,.emp],.S 3 7 42]) [1,2,5,7] (.f (.y [.u 43 (.call f3 [(.i 2)]),.L 44 3 7,.D 45 f5 43 44,.G 8 [.z,.emp,.emp],.S 3 8 45]) [1,2,5,7,8] (.f (.y [.L 47 3 7,.A 48 4 1,.A 49 0 48,.L 50 3 49,.D 51 f5 47 50,.L 52 3 5,.A 53 4 1,.A 54 3 53,.L 55 3 54,.D 56 f5 52 55,.D 57 f4 51 56,.L 58 3 8,.D 59 f6 57 58,.M 46 59,.X 60 0 46,.X 61 1 46,.G 9 [.z,.emp,.emp],.S 3 9 60,.M 6 61]) [1,2,5,6,7,8,9] (.f (.o [.M 62 6,.R 63 62] [1,2,5,6,7,8,9,63] (.cond (.t 63) (.seq (.p [.u 64 (.build [.z [.z,.emp,.emp,.z,.emp,.emp]]),.M 65 6,.S 6 2 64,.M 3 65]) .ret) .skip)) [1,2,5,7,8,9] (.f (.y [.L 67 3 7,.A 68 4 1,.A 69 3 68,.L 70 3 69,.D 71 f5 67 70,.L 72 3 5,.A 73 4 1,.A 74 0 73,.L 75 3 74,.D 76 f5 72 75,.D 77 f7 71 76,.L 78 3 8,.D 79 f6 77 78,.M 66 79,.X 80 0 66,.X 81 1 66,.G 10 [.z,.emp,.emp],.S 3 10 80,.M 6 81]) [2,6,9,10] (.seq (.p [.L 82 3 9,.L 83 3 10,.u 84 (.build [.x 3 (.t 82),.x 3 (.t 83)]),.M 85 6,.S 6 2 84,.M 3 85]) .ret)))))))))))
def Xo(f0 f1:Nat):AC:=(.o [.K 2 10 0,.K 3 10 1,.G 4 [.z,.emp,.emp,.z,.emp,.emp],.m 5 (.c (.one (.lit .nilIface)))] [2,3,4] (.o [.L 9 10 2,.L 10 10 3,.D 11 f0 9 10,.M 8 11,.X 12 0 8,.X 13 1 8,.G 6 [.z,.emp,.emp,.z,.z,.emp,.emp,.z,.emp,.emp],.S 10 6 12,.M 7 13] [4,6,7] (.f (.o [.M 14 7,.R 15 14] [4,6,7,15] (.cond (.t 15) (.seq (.p [.u 16 (.build [.z [.z,.emp,.emp,.z,.emp,.emp]]),.M 17 7,.S 6 4 16,.M 5 17]) .ret) .skip)) [4,6] (.seq (.p [.L 18 10 6,.H 19 f1 18,.X 20 0 19,.X 21 1 19,.S 6 4 20,.M 5 21]) .ret))))
attribute [bitvec_to_nat] okS okV okC okL okH okB okE U5 vau Ua zaq wsA ws
theorem vX(hΓ:Holds P Γ){f fk tE:Nat}(hk:Γ fk=.dat false (Xf tE))(hc:check P f=some (18,(vj fk).strip,[.tmp 2])):Sound P f (.dat false (yx tE)):=by
 refine qa hc (waj tE) hΓ (λargs K hcl hfi hG=>?_);match args,hG with
 | [a],hG=>
  obtain⟨t,rfl,⟨w1,w2⟩,l1,l2,v1,v2,hK⟩:=hG;refine⟨by simp,?_⟩
  obtain⟨x,y⟩:=t;have e0:=Qc tE;simp only [go_sem,vj,t2A];repeat first | refine q_Wk ?_ | intro _
  refine Wa (λk:Nat=>⟨mkV [(6,.one (.slice [tC x,tC y])),(7,.one (.lit (.int .i64 ((2:Nat):Int)))),(8,.one (.lit (.int .i64 k)))],mkH []⟩) (λk=>k<=2) (λk=>2-k) 0 ?_ ?_ ?_
  .exact ja (by simp [bitvec_to_nat]) trivial
  .exact Nat.zero_le _
  .intro k hk2;by_cases h0:k=0
   .subst h0;simp only [go_sem,t2l0,QaP,hk,tC,zc,v1,e0];repeat first | refine q_Wk ?_ | intro _
    exact⟨1,ja (by simp [bitvec_to_nat,tC]) trivial,by omega,by omega⟩
   by_cases h1:k=1
   .subst h1;simp only [go_sem,t2l1,yaV,hk,tC,zc,v2,e0];repeat first | refine q_Wk ?_ | intro _
    exact⟨2,ja (by simp [bitvec_to_nat,tC]) trivial,by omega,by omega⟩
   have h2:k=2:=by omega
   subst h2;simp only [go_sem,t2l2];exact hK
theorem ZV(hΓ:Holds P Γ){f:Nat}(hc:check P f=some (2,xq.strip,[.cell 0 4 true])):Sound P f (.dat false Qr):=by
 refine qa hc Xah hΓ (λargs K hcl hfi hG=>?_);match args,hG with
 | [],hK=>
  refine⟨by simp,?_⟩
  simp only [Qr,Xw,Ya]at hK;simp only [go_sem,xq];exact hK
theorem zB{r:Bool}(hΓ:Holds P Γ){f fs fo fv fm fb fh fa:Nat}(hr:r=true->Γ f=.dat false (Us false))(hs:Γ fs=.dat true jh)(ho:Γ fo=.dat false QE)(hv:Γ fv=.dat false jr)(hm:Γ fm=.dat false Zq)(hb:Γ fb=.dat false Un)(hh:Γ fh=.dat false Qr)(ha:Γ fa=.dat false Wl)(hc:check P f=some (57,(vd f fs fo fv fm fb fh fa).strip,[.cell 4 4 true])):Sound P f (.dat false (Us r)):=by
 refine qa hc (yas r) hΓ (λargs K hcl hfi hG=>?_);match args,hG with
 | [a,b],hG=>
  obtain⟨t,rfl,wt,u,rfl,wu,hor,lt,lu,vt,vu,hK⟩:=hG;refine⟨by simp,?_⟩
  obtain⟨x,p⟩:=t;obtain⟨y,q⟩:=u;simp only at wt wu hor lt lu;have hz1:=qan vt;have kx:=ZaN vt;simp only at hz1 kx;have zx:=Wn wt;have zy:=Wn wu;have lx4:rl x<=4294967296:=Nat.le_trans lt (by decide)
  have ly4:rl y<=4294967296:=Nat.le_trans lu (by decide)
  have i1:((1:Int):Rat)=1:=rfl;have im:(((-1):Int):Rat) = -1:=rfl;have etx:tv (x,p)=(rv x,p):=rfl;have ety:tv (y,q)=(rv y,q):=rfl;rw [etx,ety]at hK;cases p with
  | true=>
   cases q with
   | true=>
    have e:addT (rv x,true) (rv y,true)=(0,false):=rfl;rw [e,Xw,Ya]at hK;simp only [go_sem,vd,tA,tC];exact hK
   | false=>
    by_cases h0:rv y=0
    .have e:addT (rv x,true) (rv y,false)=(0,true):=by unfold addT;rw [if_pos rfl,if_neg (by simp),if_pos h0]
     have ex:rcan 0=x:=by
      have hzz:rv x=0:=qan vt rfl;rw [<-hzz];exact Zg wt kx
     rw [e,Xw]at hK;simp only [ex]at hK;have d0:=decide_eq_true h0;simp only [go_sem,vd,tA,tC,hs,qx,d0];repeat first | refine q_Wk ?_ | intro _
     exact hK
    .have e:addT (rv x,true) (rv y,false)=(-1 / rv y,false):=by unfold addT;rw [if_pos rfl,if_neg (by simp),if_neg h0]
     rw [e,Xw]at hK;have d0:=decide_eq_false h0;have n1:rz (-1)<=1073741824:=Nat.le_trans wU (by decide)
     simp only [go_sem,vd,tA,tC,hs,qx,d0,ho,hv,im,Zc];repeat first | refine q_Wk ?_ | intro _
     exact hK
  | false=>
   cases q with
   | true=>
    have hr' : r=true:=by
     rcases hor with h | h | h
     .exact h
     .exact absurd h (by decide)
     .exact absurd h (by decide)
    have er:=hr hr';rw [qa8 rfl rfl]at hK;simp only [go_sem,vd,tA,tC,er,etx,ety];repeat first | refine q_Wk ?_ | intro _
    refine⟨by simp,?_⟩
    repeat first | refine q_Wk ?_ | intro _
    exact hK
   | false=>
    have m1:=ze (rv x) (rv y);have m2:=Xu 1 (rv x*rv y);have m3:=qm (rv x) (rv y);have z1:=rz_1;by_cases h0:1-rv x*rv y=0
    .have e:addT (rv x,false) (rv y,false)=(0,true):=by unfold addT;rw [if_neg (by simp),if_neg (by simp),if_pos h0]
     rw [e,Xw]at hK;have d0:decide ((1:Rat)-rv x*rv y=0)=true:=decide_eq_true h0;simp only [go_sem,vd,tA,tC,hs,qx,d0,ho,hm,hb,hh,i1,Zc];repeat first | refine q_Wk ?_ | intro _
     exact hK
    .have e:addT (rv x,false) (rv y,false)=((rv x+rv y) / (1-rv x*rv y),false):=by unfold addT;rw [if_neg (by simp),if_neg (by simp),if_neg h0]
     rw [e,Xw]at hK;have d0:decide ((1:Rat)-rv x*rv y=0)=false:=decide_eq_false h0;simp only [go_sem,vd,tA,tC,hs,qx,d0,ho,hm,hb,ha,hv,i1,Zc];repeat first | refine q_Wk ?_ | intro _
     exact hK
theorem vai(hΓ:Holds P (Gl L)){f fs fo fv fm fb fh fa:Nat}(n1:fs≠f)(n2:fo≠f)(n3:fv≠f)(n4:fm≠f)(n5:fb≠f)(n6:fh≠f)(n7:fa≠f)(hs:Gl L fs=.dat true jh)(ho:Gl L fo=.dat false QE)(hv:Gl L fv=.dat false jr)(hm:Gl L fm=.dat false Zq)(hb:Gl L fb=.dat false Un)(hh:Gl L fh=.dat false Qr)(ha:Gl L fa=.dat false Wl)(hc:check P f=some (57,(vd f fs fo fv fm fb fh fa).strip,[.cell 4 4 true])):Sound P f (.dat false (Us true)):=by
 have h0:=zB (r:=false) hΓ (λh=>absurd h (by decide)) hs ho hv hm hb hh ha hc
 have h1:Holds P (Gl ((f,.dat false (Us false))::L)):=za hΓ h0;have e:∀k,k≠f->Gl ((f,Spec.dat false (Us false))::L) k=Gl L k:=λk hk=>if_neg hk;refine zB (r:=true) h1 (λ_=>?_) ?_ ?_ ?_ ?_ ?_ ?_ ?_ hc
 .exact if_pos rfl
 .rw [e _ n1];exact hs
 .rw [e _ n2];exact ho
 .rw [e _ n3];exact hv
 .rw [e _ n4];exact hm
 .rw [e _ n5];exact hb
 .rw [e _ n6];exact hh
 .rw [e _ n7];exact ha
theorem wag(hΓ:Holds P Γ){f fk fa tE:Nat}(hk:Γ fk=.dat false (yx tE))(ha:Γ fa=.dat false (Us true))(hc:check P f=some (18,(qt fk fa).strip,[.cell 4 4 true,.tmp 5])):Sound P f (.dat false uI):=by
 refine qa hc Vav hΓ (λargs K hcl hfi hG=>?_);match args,hG with
 | [a,b],hG=>
  obtain⟨t,rfl,wt,u,rfl,wu,lt,lu,vt,vu,hK⟩:=hG;refine⟨by simp,?_⟩
  obtain⟨x,p⟩:=t;obtain⟨y,q⟩:=u;simp only at wt wu lt lu;rw [Xw]at hK;have l1:rl x<=100000000:=Nat.le_trans lt (by decide)
  have l2:rl y<=100000000:=Nat.le_trans lu (by decide)
  simp only [go_sem,qt,tA,tC,hk,ha,true_or,true_and];refine⟨⟨wt,wu⟩,?_⟩;repeat first | refine q_Wk ?_ | intro _
  exact hK
theorem uV(hΓ:Holds P Γ){f fv ft fp tE:Nat}(hv:Γ fv=.dat true jq)(ht' : Γ ft=.dat false uI)(hp' : Γ fp=.dat false (qC tE))(hc:check P f=some (45,(Jq fv ft fp tE).strip,[.cell 4 10 true,.tmp 5])):Sound P f (.dat false Xv):=by
 refine qa hc vah hΓ (λargs K hcl hfi hG=>?_);match args,hG with
 | [a,b],hG=>
  obtain⟨p,rfl,wp,q,rfl,wq,lp,lq,vp,vq,hK⟩:=hG;refine⟨by simp,?_⟩
  obtain⟨t1,a1⟩:=YO vp;obtain⟨t2,a2⟩:=YO vq;have lp1:pl p<=100000000:=Nat.le_trans lp (by decide)
  have lq1:pl q<=100000000:=Nat.le_trans lq (by decide)
  have lq2:pl q<=1000000:=Nat.le_trans lq (by decide)
  have x1:rl p.1.1<=1000000:=Nat.le_trans (Nat.le_max_left _ _) (Nat.le_trans lp (by decide))
  have x2:rl q.1.1<=1000000:=Nat.le_trans (Nat.le_max_left _ _) (Nat.le_trans lq (by decide))
  have x3:al p.2<=1000000:=Nat.le_trans (Nat.le_max_right _ _) (Nat.le_trans lp (by decide))
  have w1:=wp.1;have w2:=wp.2;have w3:=wq.1;have w4:=wq.2;have hok:aok q p.2=true:=by unfold aok;rw [vq,a1];rfl
  have e7:(if aok q p.2=true then appQ (pv q) (av p.2) else (0,0))=appQ (pv q) (av p.2):=if_pos hok
  have e9:errV tE (if aok q p.2=true then 0 else 2)=.one (.lit .nilIface):=by rw [if_pos hok];exact Qc tE
  have eth:thenQ (pv p) (pv q)=(addT (tv p.1) (tv q.1),appQ (pv q) (av p.2)):=rfl;rw [eth,Zv]at hK;simp only [go_sem,Jq,hv,ht',hp',poA,pC,vp,vq,zc,e7,e9,Xw];repeat first | refine q_Wk ?_ | intro _
  exact hK
theorem Zah(hΓ:Holds P Γ){f fv fi ft tE:Nat}(hv:Γ fv=.dat true jq)(hi:Γ fi=.dat false (uG tE))(ht' : Γ ft=.dat false Xv)(hc:check P f=some (32,(Ul fv fi ft tE).strip,[.cell 4 10 true,.tmp 5])):Sound P f (.dat false Yx):=by
 refine qa hc xan hΓ (λargs K hcl hfi hG=>?_);match args,hG with
 | [a,b],hG=>
  obtain⟨p,rfl,wp,q,rfl,wq,lp,lq,vp,vq,hK⟩:=hG;refine⟨by simp,?_⟩
  have lp1:pl p<=100000000:=Nat.le_trans lp (by decide)
  have lp2:pl p<=1000000:=Nat.le_trans lp (by decide)
  have lq1:pl q<=100000000:=Nat.le_trans lq (by decide)
  have lq2:pl q<=100000:=Nat.le_trans lq (by decide)
  have vi:pvld (pcan (invQ (pv p)))=true:=QaE vp;obtain⟨wi,li⟩:=Va2 (b:=1000) ⟨wp,lp⟩;have ei:pcan (invQ (pv p))=((rcan (invQ (pv p)).1.1,(invQ (pv p)).1.2),(rcan (invQ (pv p)).2.1,rcan (invQ (pv p)).2.2)):=rfl;have li2:pl (pcan (invQ (pv p)))<=100000:=Nat.le_trans li (by decide)
  have epv:pv (pcan (invQ (pv p)))=invQ (pv p):=waJ _;have eb:btwQ (pv p) (pv q)=thenQ (invQ (pv p)) (pv q):=rfl;have e7:(if pvld p=true then invQ (pv p) else ((0,false),(0,0)))=invQ (pv p):=if_pos vp
  have e9:errV tE (if pvld p=true then 0 else 2)=.one (.lit .nilIface):=by rw [if_pos vp];exact Qc tE
  rw [ei]at vi wi li2 epv;rw [eb]at hK;have w1:=wp.1;have w2:=wp.2;have w3:=wq.1;have w4:=wq.2;simp only [go_sem,Ul,hv,hi,ht',poA,pC,vp,vq,zc,Qc tE,Zv,epv];repeat first | refine q_Wk ?_ | intro _
  exact hK
theorem xah(hΓ:Holds P Γ){f fv fs fd fo fb fm fq fa tE:Nat}(hv:Γ fv=.dat true jq)(hs:Γ fs=.dat true jh)(hd:Γ fd=.dat false (UC tE))(ho:Γ fo=.dat false QE)(hb:Γ fb=.dat false Un)(hm:Γ fm=.dat false Zq)(hq:Γ fq=.dat false (Zp tE))(ha:Γ fa=.dat false Wl)(hc:check P f=some (86,(Ug fv fs fd fo fb fm fq fa tE).strip,[.cell 2 6 true,.tmp 3])):Sound P f (.dat false (WG tE)):=by
 refine qa hc (Yax tE) hΓ (λargs K hcl hfi hG=>?_);match args,hG with
 | [a],hG=>
  obtain⟨p,rfl,wp,lp,vp,hK⟩:=hG;refine⟨by simp,?_⟩
  obtain⟨t1,a1⟩:=YO vp;have lp1:pl p<=100000000:=Nat.le_trans lp (by decide)
  have x1:rl p.1.1<=10000000:=Nat.le_trans (Nat.le_max_left _ _) (Nat.le_trans lp (by decide))
  have x1' : rl p.1.1<=4294967296:=Nat.le_trans x1 (by decide)
  have w1:=wp.1;have w2:=wp.2;have w3:=w2.1;have w4:=w2.2;have x3:al p.2<=1000000:=Nat.le_trans (Nat.le_max_right _ _) (Nat.le_trans lp (by decide))
  have x4:rl p.2.1<=1000000:=Nat.le_trans (Nat.le_max_left _ _) x3;have x5:rl p.2.2<=1000000:=Nat.le_trans (Nat.le_max_right _ _) x3;have x6:rl p.2.1<=4294967296:=Nat.le_trans x4 (by decide)
  have x7:rl p.2.2<=4294967296:=Nat.le_trans x5 (by decide)
  have ez:zeroT (pv p).1=(!p.1.2 && decide (rv p.1.1=0)):=rfl;have i1:((1:Int):Rat)=1:=rfl;have i2:((2:Int):Rat)=2:=rfl;have e0:=Qc tE;cases hz:zeroT (pv p).1 with
  | true=>
   rw [hz,if_pos rfl,if_pos rfl,vh tE (by decide),ZE]at hK
   simp only [Ya]at hK;rw [ez]at hz;simp only [Bool.and_eq_true,Bool.not_eq_true',decide_eq_true_eq]at hz;have hz2:=decide_eq_true hz.2;have hp1:((p.1.1,false),p.2)=p:=by rw [<-hz.1]
   have hp2:(p.1.1,false)=p.1:=by rw [<-hz.1]
   simp only [go_sem,Ug,hv,hs,poA,pC,hz.1,hp1,hp2,vp,zc,qx,hz2,Bool.not_false];repeat first | refine q_Wk ?_ | intro _
   exact hK
  | false=>
   have hk:=JaN hz;have h2:2*(1-cosQ (pv p).1)≠0:=λe=>by
    rcases Rat.mul_eq_zero.1 e with e | e
    .exact absurd e (by decide)
    .exact hk e
   rw [hz,if_neg (by decide),if_neg (by decide),e0,ZE]at hK
   unfold fixQ at hK;have z1:=Wn w1;have z2:=Wn w3;have z3:=Wn w4;have c1:=yaf (pv p).1;have s1:=uab (pv p).1;have ec:(if tchk p.1=0 then cosQ (tv p.1) else 0)=cosQ (pv p).1:=if_pos t1
   have es:(if tchk p.1=0 then sinQ (tv p.1) else 0)=sinQ (pv p).1:=if_pos t1
   have et:(pv p).1.1=rv p.1.1:=rfl;have ex:(pv p).2.1=rv p.2.1:=rfl;have ey:(pv p).2.2=rv p.2.2:=rfl;rw [et]at c1 s1;rw [ex,ey]at hK;obtain⟨c,hcc⟩:∃c,cosQ (pv p).1=c:=⟨_,rfl⟩;obtain⟨s,hss⟩:∃s,sinQ (pv p).1=s:=⟨_,rfl⟩;have ecv:cosQ (tv p.1)=c:=hcc;have esv:sinQ (tv p.1)=s:=hss;rw [hcc]at ec c1 h2 hK;rw [hss]at es s1 hK;obtain⟨X,hX⟩:∃X,rv p.2.1=X:=⟨_,rfl⟩;obtain⟨Y,hY⟩:∃Y,rv p.2.2=Y:=⟨_,rfl⟩;rw [hX]at z2 hK;rw [hY]at z3 hK;have r1:=rz_1;have r2:=rz_2;have bk:=Xu 1 c;obtain⟨k,hkk⟩:∃k,1-c=k:=⟨_,rfl⟩;rw [hkk]at bk h2 hK;have bd:=ze 2 k;have b1:=ze k X;have b2:=ze s Y;have b3:=Xu (k*X) (s*Y);have b4:=ze k Y;have b5:=ze s X;have b6:=qm (k*Y) (s*X);have y1:rz c<=4294967296:=by omega
   have y2:rz k<=4294967296:=by omega
   have y3:rz s<=4294967296:=by omega
   have y4:rz (k*X)<=4294967296:=by omega
   have y5:rz (s*Y)<=4294967296:=by omega
   have y6:rz (k*X-s*Y)<=4294967296:=by omega
   have y7:rz (k*Y)<=4294967296:=by omega
   have y8:rz (s*X)<=4294967296:=by omega
   have y9:rz (k*Y+s*X)<=4294967296:=by omega
   have y10:rz (2*k)<=4294967296:=by omega
   have y11:rz 1<=4294967296:=by omega
   have y12:rz 2<=4294967296:=by omega
   have ed:(if 2*k=0 then 8 else 0)=0:=if_neg h2
   rw [ez]at hz;cases hh:p.1.2 with
   | true=>
    have hp1:((p.1.1,true),p.2)=p:=by rw [<-hh]
    have hp2:(p.1.1,true)=p.1:=by rw [<-hh]
    simp only [go_sem,Ug,hv,hs,hd,ho,hb,hm,hq,ha,poA,pC,hp1,hp2,vp,hh,zc,Bool.not_true,i1,i2,Zc,ecv,esv,t1,e0,hX,hY,hkk,ed];repeat refine q_Wr ?_
    exact hK
   | false=>
    rw [hh,Bool.not_false,Bool.true_and]at hz;have hp1:((p.1.1,false),p.2)=p:=by rw [<-hh]
    have hp2:(p.1.1,false)=p.1:=by rw [<-hh]
    simp only [go_sem,Ug,hv,hs,hd,ho,hb,hm,hq,ha,poA,pC,hp1,hp2,vp,hh,zc,Bool.not_false,qx,hz,i1,i2,Zc,ecv,esv,t1,e0,hX,hY,hkk,ed];repeat refine q_Wr ?_
    exact hK
theorem WW(hΓ:Holds P Γ){f fb ff tE:Nat}(hb:Γ fb=.dat false Yx)(hf:Γ ff=.dat false (WG tE))(hc:check P f=some (22,(Xo fb ff).strip,[.cell 4 6 true,.tmp 5])):Sound P f (.dat false (uv tE)):=by
 refine qa hc (zai tE) hΓ (λargs K hcl hfi hG=>?_);match args,hG with
 | [a,b],hG=>
  obtain⟨p,rfl,wp,q,rfl,wq,lp,lq,vp,vq,hK⟩:=hG;refine⟨by simp,?_⟩
  have vi:=Qaf vp vq;have wi:WLP (pcan (btwQ (pv p) (pv q))):=YV _;have li:=yaN wp wq lp lq;have epv:pv (pcan (btwQ (pv p) (pv q)))=btwQ (pv p) (pv q):=waJ _;have ei:pcan (btwQ (pv p) (pv q))=((rcan (btwQ (pv p) (pv q)).1.1,(btwQ (pv p) (pv q)).1.2),(rcan (btwQ (pv p) (pv q)).2.1,rcan (btwQ (pv p) (pv q)).2.2)):=rfl;rw [ei]at vi wi li epv;have w1:=wp.1;have w2:=wp.2;have w3:=wq.1;have w4:=wq.2;obtain⟨B,hB⟩:∃B,btwQ (pv p) (pv q)=B:=⟨_,rfl⟩;rw [hB]at vi wi li epv hK;rw [ZE]at hK;simp only [go_sem,Xo,hb,hf,poA,pC,vp,vq,zc,Zv,hB,epv,ZE];repeat first | refine q_Wk ?_ | intro _
  exact hK
end Go.Abs
end
