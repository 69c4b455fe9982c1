/-
  Parts of the proof, merged: WholA, OutA.
-/
import Derived.Test.YtfichbefnpcdeaaGreatM11
set_option linter.unusedVariables false
set_option linter.unusedSimpArgs false
set_option linter.unnecessarySimpa false
set_option maxRecDepth 100000
section
namespace Go.Num
open Go.Abs
end Go.Num
namespace Go.Abs
open Go.Num
variable {P:Program} {Γ:Nat->Spec} {L:List (Nat×Spec)}
theorem kay(K:AV->Prop)(dr:Bool)(x:R):lenA K dr (.one (cn x))=bndK dr x.2.1.length (intR K .i64 (x.2.1.length:Nat)):=by
 unfold cn ws;rw [Zr,List.length_map]
theorem qaw(K:AV->Prop)(dr:Bool)(x:R):lenA K dr (.one (cd x))=bndK dr x.2.2.length (intR K .i64 (x.2.2.length:Nat)):=by
 unfold cd ws;rw [Zr,List.length_map]
def xw:q_T:=q_c1 λa K=>onT (λt=>rl t.1<=100000000/\K (.one (.lit (.int .i64 (tchk t:Nat))))) a
theorem Ual:Good xw:=q_g1 λ_=>(Za6 λ_=>(.and λ_=>(.ret _)))
attribute [go_sem] xw
def Xb(f0 f1:Nat):AC:=(.o [.K 1 4 0,.N 2 0] [1] (.f (.o [.A 3 0 1,.L 4 3 3,.H 5 f0 4,.u 6 (.un .not (.t 5)),.M 7 6,.T 8 7 false 3 1,.U 9 7 false 1 false 8,.V 10 7 false 9,.T 11 10 true 0 1,.U 12 10 true 3 true 11,.W 13 10 true f1 12,.w 14 10 true (.bin .neq (.t 13) (.i 0)),.w 15 7 false (.pick (.t 10) (.t 14) .fa),.Q 16 7 15] [16] (.cond (.t 16) (.seq (.p [.N 2 2]) .ret) .skip)) [] (.seq (.p [.N 2 0]) .ret)))
theorem J2(hΓ:Holds P Γ){f fv fs:Nat}(hv:Γ fv=.dat true yd)(hs:Γ fs=.dat true Wj)(hc:check P f=some (17,(Xb fv fs).strip,[.tmp 2])):Sound P f (.dat true xw):=by
 refine Va hc Ual hΓ (λargs K hcl hfi hG=>?_);match args,hG with
 | [a],hG=>
  obtain⟨t,rfl,ht,hl,hK⟩:=hG;refine⟨by simp,?_⟩
  rw [kaO]at hK;cases h1:vldR t.1 with
  | false=>
   rw [if_neg (λh=>by rw [h1]at h;exact absurd h.1 (by decide))]at hK
   simp only [go_sem,Xb,hv,hs,tA,tC,ht,h1];exact⟨by omega,hK⟩
  | true=>
   cases h2:t.2 with
   | false=>
    rw [if_pos ⟨h1,λh=>by rw [h2]at h;exact absurd h.1 (by decide)⟩]at hK
    simp only [go_sem,Xb,hv,hs,tA,tC,ht,h1,h2];exact⟨by omega,hK⟩
   | true=>
    by_cases h3:ordQ (rv t.1) 0=0
    .rw [if_pos ⟨h1,λh=>h.2 (Uab.1 h3)⟩]at hK;simp only [go_sem,Xb,hv,hs,tA,tC,ht,h1,h2,h3];exact⟨by omega,by omega,hK⟩
    .rw [if_neg (λh=>h.2 ⟨h2,λe=>h3 (Uab.2 e)⟩)]at hK;simp only [go_sem,Xb,hv,hs,tA,tC,ht,h1,h2,h3];exact⟨by omega,by omega,hK⟩
end Go.Abs
end
section
namespace Go.Num
open Go.Abs
def lngB(x:R):Bool:=decide (2<x.2.1.length+x.2.2.length)
def upB(x:R):Bool:=vldR x && (!lngB x && decide (0<ordQ (rv x) 0))
structure Fb where
 g:R
 a:R
 b:R
 c:R
 u:R
 v:R
def WLF(x:Fb):Prop:=WLR x.g/\WLR x.a/\WLR x.b/\WLR x.c/\WLR x.u/\WLR x.v
def fl(x:Fb):Nat:=max (max (rl x.g) (max (rl x.a) (rl x.b))) (max (rl x.c) (max (rl x.u) (rl x.v)))
def gF(x:Fb):Bool:=upB x.g && (upB x.a && (upB x.b && (upB x.c && (vldR x.u && (vldR x.v && (!lngB x.u && !lngB x.v))))))
def gT(t:Tn):Bool:=decide (tchk t=0) && !lngB t.1
end Go.Num
namespace Go.Abs
open Go.Num
variable {P:Program} {Γ:Nat->Spec}
def fbC(x:Fb):List C:=[cb x.g,cn x.g,cd x.g,cb x.a,cn x.a,cd x.a,cb x.b,cn x.b,cd x.b,cb x.c,cn x.c,cd x.c,cb x.u,cn x.u,cd x.u,cb x.v,cn x.v,cd x.v]
def fbA(x:Fb):AV:=.agg (fbC x)
theorem Vay(x y:Fb)(h:fbA x=fbA y):x=y:=by
 simp only [fbA,fbC,AV.agg.injEq,List.cons.injEq,and_true]at h;obtain⟨g1,g2,g3,a1,a2,a3,b1,b2,b3,c1,c2,c3,u1,u2,u3,v1,v2,v3⟩:=h;have e:=λ{x y:R} (h1:cb x=cb y) (h2:cn x=cn y) (h3:cd x=cd y)=>qk x y (by simp only [rA];rw [h1,h2,h3])
 cases x;cases y
 simp only [Fb.mk.injEq];exact⟨e g1 g2 g3,e a1 a2 a3,e b1 b2 b3,e c1 c2 c3,e u1 u2 u3,e v1 v2 v3⟩
def onFb(k:Fb->Prop)(a:AV):Prop:=onE fbA (λx=>WLF x/\k x) a
@[congr] theorem Ubm{k:Fb->Prop}{a a'}(h:a=a'):onFb k a=onFb k a':=by subst h;rfl
theorem UaQ(k:Fb->Prop)(x:Fb):onFb k (.agg (fbC x))=(WLF x/\k x):=Vj Vay (λp=>WLF p/\k p) x
theorem WaS{β:Type}{T:Fb->(β->Prop)->Prop}(h:∀x,GoodT (T x)){a:AV}:GoodT λK=>onFb (λx=>T x K) a:=
 Yak (e:=fbA) (T:=λx K=>WLF x/\T x K) Vay λx=>GoodT.and (c:=WLF x) (T:=T x) λ_=>h x
theorem yaO(k:List R->Prop)(x:R):onRs k (.one (.slice [[cb x,cn x,cd x]]))=((∀y∈[x],WLR y)/\k [x]):=wQ k [x]
theorem yaQ(k:List R->Prop)(x y:R):onRs k (.one (.slice [[cb x,cn x,cd x],[cb y,cn y,cd y]]))=((∀z∈[x,y],WLR z)/\k [x,y]):=wQ k [x,y]
theorem YaQ(k:List R->Prop)(x y z w:R):onRs k (.one (.slice [[cb x,cn x,cd x],[cb y,cn y,cd y],[cb z,cn z,cd z],[cb w,cn w,cd w]]))=((∀q∈[x,y,z,w],WLR q)/\k [x,y,z,w]):=wQ k [x,y,z,w]
attribute [go_sem,go_sem ↓] UaQ yaO yaQ YaQ
def Wq:q_T:=q_c1 λa K=>onRs (λl=>okRs 4294967296 l/\l.length<=1000000/\K (.one (.lit (.bool (l.any lngB))))) a
theorem kam:Good Wq:=q_g1 λ_=>(YaS λ_=>(.and λ_=>(.and λ_=>(.ret _))))
def Xq:q_T:=q_c1 λa K=>onRs (λl=>okRs 4294967296 l/\l.length<=1000000/\K (.one (.lit (.bool (l.all upB))))) a
theorem WY:Good Xq:=q_g1 λ_=>(YaS λ_=>(.and λ_=>(.and λ_=>(.ret _))))
def XK:q_T:=q_c1 λa K=>onFb (λx=>fl x<=4294967296/\K (.one (.lit (.bool (gF x))))) a
theorem yaF:Good XK:=q_g1 λ_=>(WaS λ_=>(.and λ_=>(.ret _)))
def Xw:q_T:=q_c1 λa K=>onT (λt=>rl t.1<=100000000/\K (.one (.lit (.bool (gT t))))) a
theorem qam:Good Xw:=q_g1 λ_=>(Za6 λ_=>(.and λ_=>(.ret _)))
def yn:q_T:=q_c2 λa b K=>onFb (λx=>onT (λt=>fl x<=1048576/\rl t.1<=1048576/\K (.one (.lit (.bool true)))) b) a
theorem vU:Good yn:=q_g2 λ_ _=>(WaS λ_=>(Za6 λ_=>(.and λ_=>(.and λ_=>(.ret _)))))
attribute [go_sem] Wq Xq XK Xw yn
def Xg:AC:=(.o [.m 2 .fa] [0] (.f (.o [.N 3 0] [0,3] (.block 0 (.loop (.f (.o [.M 4 3,.M 5 0,.Z 6 5,.B 7 .lss 4 6] [0,3,7] (.cond (.t 7) .skip (.exit 0))) [0,3] (.f (.block 1 (.f (.y [.M 10 0,.M 11 3,.J 12 3 10 11,.A 13 1 12,.F 14 1 13,.Z 15 14,.M 16 0,.M 17 3,.J 18 3 16 17,.A 19 2 18,.F 20 1 19,.Z 21 20,.B 22 .add 15 21,.I 23 .gtr 22 2]) [0,3,23] (.cond (.t 23) (.seq (.p [.m 2 .tr]) .ret) .skip))) [0,3] (.p [.M 8 3,.I 9 .add 8 1,.M 3 9])))))) [] (.seq (.p [.m 2 .fa]) .ret)))
def yf(f0 f1 f2:Nat):AC:=(.o [.m 2 .fa] [0] (.f (.o [.N 3 0] [0,3] (.block 0 (.loop (.f (.o [.M 4 3,.M 5 0,.Z 6 5,.B 7 .lss 4 6] [0,3,7] (.cond (.t 7) .skip (.exit 0))) [0,3] (.f (.block 1 (.o [.M 10 0,.M 11 3,.J 12 3 10 11,.L 13 3 12,.H 14 f0 13,.u 15 (.un .not (.t 14)),.M 16 15,.V 17 16 false 0,.V 18 16 false 3,.w 19 16 false (.idx 3 (.t 17) (.t 18)),.U 20 16 false 3 true 19,.w 21 16 false (.row 3 [[.x 3 (.t 20)]]),.W 22 16 false f1 21,.Q 23 16 22,.M 24 23,.V 25 24 false 0,.V 26 24 false 3,.w 27 24 false (.idx 3 (.t 25) (.t 26)),.U 28 24 false 3 true 27,.W 29 24 false f2 28,.w 30 24 false (.bin .leq (.t 29) (.i 0)),.Q 31 24 30] [0,3,31] (.cond (.t 31) (.seq (.p [.m 2 .fa]) .ret) .skip))) [0,3] (.p [.M 8 3,.I 9 .add 8 1,.M 3 9])))))) [] (.seq (.p [.m 2 .tr]) .ret)))
def Yb(f0 f1 f2:Nat):AC:=(.o [.K 1 18 0,.m 2 .fa] [1] (.seq (.p [.A 3 0 1,.L 4 3 3,.A 5 3 1,.L 6 3 5,.A 7 6 1,.L 8 3 7,.A 9 9 1,.L 10 3 9,.u 11 (.row 3 [[.x 3 (.t 4)],[.x 3 (.t 6)],[.x 3 (.t 8)],[.x 3 (.t 10)]]),.H 12 f0 11,.M 13 12,.T 14 13 true 12 1,.U 15 13 true 3 true 14,.W 16 13 true f1 15,.P 17 13 16,.M 18 17,.T 19 18 true 15 1,.U 20 18 true 3 true 19,.W 21 18 true f1 20,.P 22 18 21,.M 23 22,.T 24 23 true 12 1,.U 25 23 true 3 true 24,.T 26 23 true 15 1,.U 27 23 true 3 true 26,.w 28 23 true (.row 3 [[.x 3 (.t 25)],[.x 3 (.t 27)]]),.W 29 23 true f2 28,.w 30 23 true (.un .not (.t 29)),.P 31 23 30,.M 2 31]) .ret))
def zd(f0 f1:Nat):AC:=(.o [.K 1 4 0,.m 2 .fa] [1] (.seq (.p [.L 3 4 1,.H 4 f0 3,.I 5 .eql 4 0,.M 6 5,.T 7 6 true 0 1,.U 8 6 true 3 true 7,.w 9 6 true (.row 3 [[.x 3 (.t 8)]]),.W 10 6 true f1 9,.w 11 6 true (.un .not (.t 10)),.P 12 6 11,.M 2 12]) .ret))
theorem getDR{l:List R}{k:Nat}{x:R}(hlt:k<l.length)(hx:l.getD k (rcan 0)=x):l[k]?=some x:=by
 rw [List.getD_eq_getElem?_getD,List.getElem?_eq_getElem hlt]at hx;rw [List.getElem?_eq_getElem hlt];simpa using hx
attribute [bitvec_to_nat] okS okV okC okL okH okB okE Yae Jay Qb uaD wsA ws
theorem V3(hΓ:Holds P Γ){f:Nat}(hc:check P f=some (24,Xg.strip,[.tmp 2])):Sound P f (.dat true Wq):=by
 refine Va hc kam hΓ (λargs K hcl hfi hG=>?_);match args,hG with
 | [a],hG=>
  obtain⟨l,rfl,hw,hok,hlen,hK⟩:=hG;refine⟨by simp,?_⟩
  simp only [go_sem,Xg,W6];refine Ua (λk:Nat=>⟨mkV [(0,rsA l),(3,.one (.lit (.int .i64 k)))],mkH []⟩) (λk=>k<=l.length/\(l.take k).any lngB=false) (λk=>l.length-k) 0 ?_ ?_ ?_
  .exact ja (by simp [bitvec_to_nat,rsA]) trivial
  .exact⟨Nat.zero_le _,rfl⟩
  .rintro k ⟨hk,htk⟩;by_cases hlt:k<l.length
   .obtain⟨x,hx⟩:∃x,l.getD k (rcan 0)=x:=⟨_,rfl⟩;have hx0:=getDR hlt hx;have hxm:=List.mem_of_getElem? hx0;have hwx:=hw x hxm;have hrx:=(hok x hxm).2;have b1:x.2.1.length<=4294967296:=Nat.le_trans (Nat.le_max_left _ _) hrx;have b2:x.2.2.length<=4294967296:=Nat.le_trans (Nat.le_max_right _ _) hrx;by_cases hb:2<x.2.1.length+x.2.2.length
    .have e:l.any lngB=true:=List.any_eq_true.2 ⟨x,hxm,decide_eq_true hb⟩;rw [e]at hK;simp only [go_sem,hlt,hx,rC,kay,qaw];repeat first | refine q_Wk ?_ | intro _
     exact⟨λ_=>hK,λh=>(h (by omega)).elim⟩
    .simp only [go_sem,hlt,hx,rC,kay,qaw];repeat first | refine q_Wk ?_ | intro _
     refine⟨k+1,ja (by simp [bitvec_to_nat,rsA]) trivial,⟨by omega,?_⟩,by omega⟩
     rw [List.take_add_one,hx0,List.any_append,htk];simpa [lngB] using hb
   .rw [List.take_of_length_le (by omega)]at htk
    rw [htk]at hK;simp only [go_sem,hlt];exact λ_=>hK
theorem zQ(hΓ:Holds P Γ){f fv fl fs:Nat}(hv:Γ fv=.dat true yd)(hl:Γ fl=.dat true Wq)(hs:Γ fs=.dat true Wj)(hc:check P f=some (32,(yf fv fl fs).strip,[.tmp 2])):Sound P f (.dat true Xq):=by
 refine Va hc WY hΓ (λargs K hcl hfi hG=>?_);match args,hG with
 | [a],hG=>
  obtain⟨l,rfl,hw,hok,hlen,hK⟩:=hG;refine⟨by simp,?_⟩
  simp only [go_sem,yf,W6];refine Ua (λk:Nat=>⟨mkV [(0,rsA l),(3,.one (.lit (.int .i64 k)))],mkH []⟩) (λk=>k<=l.length/\(l.take k).all upB=true) (λk=>l.length-k) 0 ?_ ?_ ?_
  .exact ja (by simp [bitvec_to_nat,rsA]) trivial
  .exact⟨Nat.zero_le _,rfl⟩
  .rintro k ⟨hk,htk⟩;by_cases hlt:k<l.length
   .obtain⟨x,hx⟩:∃x,l.getD k (rcan 0)=x:=⟨_,rfl⟩;have hx0:=getDR hlt hx;have hxm:=List.mem_of_getElem? hx0;have hwx:=hw x hxm;have hrx:=(hok x hxm).2;have hw1:∀y∈[x],WLR y:=λy hy=>by rw [List.mem_singleton]at hy;subst hy;exact hwx
    have hok1:okRs 4294967296 [x]:=λy hy=>by rw [List.mem_singleton]at hy;subst hy;exact⟨hwx,hrx⟩
    have no:upB x=false->l.all upB=false:=λh=>by
     rw [Bool.eq_false_iff];intro h2;rw [List.all_eq_true.1 h2 x hxm]at h;exact Bool.noConfusion h
    cases h1:vldR x with
    | false=>
     rw [no (by unfold upB;rw [h1];rfl)]at hK
     simp only [go_sem,hlt,hx,rC,hv,hl,hs,h1];repeat first | refine q_Wk ?_ | intro _
     exact hK
    | true=>
     cases h2:lngB x with
     | true=>
      rw [no (by unfold upB;rw [h1,h2];rfl)]at hK
      simp only [go_sem,hlt,hx,rC,hv,hl,hs,h1,h2,List.any_cons,List.any_nil];repeat first | refine q_Wk ?_ | intro _
      exact⟨λ_=>hK,λh=>Bool.noConfusion h⟩
     | false=>
      by_cases h3:0<ordQ (rv x) 0
      .simp only [go_sem,hlt,hx,rC,hv,hl,hs,h1,h2,h3,List.any_cons,List.any_nil];repeat first | refine q_Wk ?_ | intro _
       refine⟨λh=>Bool.noConfusion h,λ_=>⟨hwx,hrx,λh=>absurd h3 (by omega),λ_=>⟨by omega,k+1,ja (by simp [bitvec_to_nat,rsA]) trivial,⟨by omega,?_⟩,by omega⟩⟩⟩
       rw [List.take_add_one,hx0,List.all_append,htk];have:upB x=true:=by unfold upB;rw [h1,h2,decide_eq_true h3];rfl
       simpa using this
      .rw [no (by unfold upB;rw [h1,h2,decide_eq_false h3];rfl)]at hK
       simp only [go_sem,hlt,hx,rC,hv,hl,hs,h1,h2,h3,List.any_cons,List.any_nil];repeat first | refine q_Wk ?_ | intro _
       exact⟨λh=>Bool.noConfusion h,λ_=>⟨hwx,hrx,λ_=>hK,λh=>(h (by omega)).elim⟩⟩
   .rw [List.take_of_length_le (by omega)]at htk
    rw [htk]at hK;simp only [go_sem,hlt];exact λ_=>hK
theorem qan(hΓ:Holds P Γ){f fa fv fl' : Nat}(ha:Γ fa=.dat true Xq)(hv:Γ fv=.dat true yd)(hl:Γ fl' = .dat true Wq)(hc:check P f=some (32,(Yb fa fv fl').strip,[.tmp 2])):Sound P f (.dat true XK):=by
 refine Va hc yaF hΓ (λargs K hcl hfi hG=>?_);match args,hG with
 | [a],hG=>
  obtain⟨x,rfl,hw,hx,hK⟩:=hG;refine⟨by simp,?_⟩
  obtain⟨w1,w2,w3,w4,w5,w6⟩:=hw;obtain⟨m1,m2⟩:=Nat.max_le.1 hx;obtain⟨l1,m1⟩:=Nat.max_le.1 m1;obtain⟨l2,l3⟩:=Nat.max_le.1 m1;obtain⟨l4,m2⟩:=Nat.max_le.1 m2;obtain⟨l5,l6⟩:=Nat.max_le.1 m2;have h4:∀q∈[x.g,x.a,x.b,x.c],WLR q/\rl q<=4294967296:=List.forall_mem_cons.2 ⟨⟨w1,l1⟩,List.forall_mem_cons.2 ⟨⟨w2,l2⟩,List.forall_mem_cons.2 ⟨⟨w3,l3⟩,List.forall_mem_cons.2 ⟨⟨w4,l4⟩,λq hq=>by cases hq⟩⟩⟩⟩
  have h2:∀q∈[x.u,x.v],WLR q/\rl q<=4294967296:=List.forall_mem_cons.2 ⟨⟨w5,l5⟩,List.forall_mem_cons.2 ⟨⟨w6,l6⟩,λq hq=>by cases hq⟩⟩
  have hK' : gF x=([x.g,x.a,x.b,x.c].all upB && (vldR x.u && (vldR x.v && ![x.u,x.v].any lngB))):=by
   unfold gF;simp only [List.all_cons,List.all_nil,List.any_cons,List.any_nil,Bool.and_true,Bool.or_false,Bool.not_or,Bool.and_assoc]
  rw [hK']at hK;cases c1:[x.g,x.a,x.b,x.c].all upB with
  | false=>
   rw [c1]at hK;simp only [go_sem,Yb,ha,hv,hl,fbA,fbC,c1];repeat first | refine q_Wk ?_ | intro _
   exact⟨λq h=>(h4 q h).1,h4,hK⟩
  | true=>
   cases c2:vldR x.u with
   | false=>
    rw [c1,c2]at hK;simp only [go_sem,Yb,ha,hv,hl,fbA,fbC,c1,c2];repeat first | refine q_Wk ?_ | intro _
    exact⟨λq h=>(h4 q h).1,h4,w5,l5,hK⟩
   | true=>
    cases c3:vldR x.v with
    | false=>
     rw [c1,c2,c3]at hK;simp only [go_sem,Yb,ha,hv,hl,fbA,fbC,c1,c2,c3];repeat first | refine q_Wk ?_ | intro _
     exact⟨λq h=>(h4 q h).1,h4,w5,l5,w6,l6,hK⟩
    | true=>
     rw [c1,c2,c3]at hK;simp only [go_sem,Yb,ha,hv,hl,fbA,fbC,c1,c2,c3];repeat first | refine q_Wk ?_ | intro _
     exact⟨λq h=>(h4 q h).1,h4,w5,l5,w6,l6,λq h=>(h2 q h).1,h2,hK⟩
theorem ZZ(hΓ:Holds P Γ){f fk fl' : Nat}(hk:Γ fk=.dat true xw)(hl:Γ fl' = .dat true Wq)(hc:check P f=some (13,(zd fk fl').strip,[.tmp 2])):Sound P f (.dat true Xw):=by
 refine Va hc qam hΓ (λargs K hcl hfi hG=>?_);match args,hG with
 | [a],hG=>
  obtain⟨t,rfl,hw,hx,hK⟩:=hG;refine⟨by simp,?_⟩
  have h1:∀q∈[t.1],WLR q/\rl q<=4294967296:=List.forall_mem_cons.2 ⟨⟨hw,by omega⟩,λq hq=>by cases hq⟩
  have hK' : gT t=(decide (tchk t=0) && ![t.1].any lngB):=by
   unfold gT;simp only [List.any_cons,List.any_nil,Bool.or_false]
  rw [hK']at hK;rcases ja5 t with c1 | c1
  .rw [c1]at hK;simp only [go_sem,zd,hk,hl,tA,tC,c1];repeat first | refine q_Wk ?_ | intro _
   exact⟨⟨λq h=>(h1 q h).1,h1,hK⟩,λh=>(h trivial).elim⟩
  .rw [c1]at hK;simp only [go_sem,zd,hk,hl,tA,tC,c1];repeat first | refine q_Wk ?_ | intro _
   exact hK
end Go.Abs
end
