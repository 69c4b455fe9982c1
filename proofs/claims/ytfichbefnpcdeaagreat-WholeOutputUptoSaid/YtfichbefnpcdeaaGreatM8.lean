/-
  Parts of the proof, merged: ChartG, ChartQ, ChartH, ChartR, ChartW, ChartX, ComA, ChartRow, ComB, PoseD, PoseE, PoseQ, BurQ, PoseT.
-/
import Derived.Test.YtfichbefnpcdeaaGreatM7
set_option linter.unusedVariables false
set_option linter.unusedSimpArgs false
set_option linter.unnecessarySimpa false
set_option maxRecDepth 100000
section
namespace Go.Num
def lim64(l:List Q2):List Q2:=if 64<l.length then [] else l
end Go.Num
namespace Go.Abs
open Go.Num
variable {P:Program} {Γ:Nat->Spec}
end Go.Abs
end
section
namespace Go.Num
end Go.Num
end
section
namespace Go.Num
end Go.Num
namespace Go.Abs
open Go.Num
variable {P:Program} {Γ:Nat->Spec}
theorem XaU(k:List Arc->Prop)(x y:R):onAs k (.one (.slice [[cb x,cn x,cd x,cb y,cn y,cd y]]))=((∀z∈[(x,y)],WLA z)/\k [(x,y)]):=YF k [(x,y)]
theorem JaQ(k:List Arc->Prop)(x y x' y' : R):onAs k (.one (.slice [[cb x,cn x,cd x,cb y,cn y,cd y],[cb x',cn x',cd x',cb y',cn y',cd y']]))=((∀z∈[(x,y),(x',y')],WLA z)/\k [(x,y),(x',y')]):=YF k [(x,y),(x',y')]
theorem Vau(k:List Arc->Prop)(x:Arc):onAs k (.one (.slice [aC x]))=((∀z∈[x],WLA z)/\k [x]):=YF k [x]
theorem QaC(k:List Arc->Prop)(x y:Arc):onAs k (.one (.slice [aC x,aC y]))=((∀z∈[x,y],WLA z)/\k [x,y]):=YF k [x,y]
theorem qaA(k:List Arc->Prop)(y x' y' : R):onAs k (.one (.slice [[.lit (.bool false),.slice [],.slice [],cb y,cn y,cd y],[cb x',cn x',cd x',cb y',cn y',cd y']]))=((∀z∈[(rcan 0,y),(x',y')],WLA z)/\k [(rcan 0,y),(x',y')]):=by
 rw [uc];exact YF k [((false,[],[]),y),(x',y')]
attribute [go_sem,go_sem ↓] XaU JaQ Vau QaC qaA
end Go.Abs
end
section
namespace Go.Num
instance(x:Rat)(a:Q2):Decidable (mem x a):=by unfold mem;infer_instance
instance(x:Rat)(l:List Q2):Decidable (memL x l):=by unfold memL;infer_instance
def mk1(x:Arc):List Rat:=[rv x.1,frac (rv x.2)]
end Go.Num
end
section
namespace Go.Num
end Go.Num
namespace Go.Abs
open Go.Num
variable {P:Program} {Γ:Nat->Spec}
end Go.Abs
end
section
namespace Go.Num
def res(c:Nat)(L:List Q2):List Q2:=if c=0 then lim64 L else []
end Go.Num
namespace Go.Abs
open Go.Num
variable {P:Program} {Γ:Nat->Spec}
end Go.Abs
end
section
namespace Go.Abs
open Go.Num
variable {P:Program} {Γ:Nat->Spec}
end Go.Abs
end
section
namespace Go.Abs
open Go.Num
def rC(x:R):List C:=[cb x,cn x,cd x]
theorem yaS(x:R):(rC x).length=3:=eq_of_heq (HEq.refl _)
theorem WaF(K:List C->Prop)(L:List R)(i:Nat):getE K (L.map rC) i=(i<L.length/\K (rC (L.getD i (rcan 0)))):=by
 simp only [getE,List.length_map,List.getElem?_map];refine propext ⟨λh=>⟨h.1,h.2 _ (by simp [h.1,List.getD_eq_getElem?_getD])⟩,λh=>⟨h.1,λe he=>?_⟩⟩
 simp [h.1]at he;subst he;have:=h.2;simpa [List.getD_eq_getElem?_getD,h.1] using this
theorem uL(l:List R):CleanR (l.map rC)=True:=eq_true λe he c hc=>by
 obtain⟨x,_,rfl⟩:=List.mem_map.1 he;exact yam x c hc
theorem uaS(L:List R):(∀e∈L.map rC,e.length=3)=True:=eq_true λe he=>by
 obtain⟨l,_,rfl⟩:=List.mem_map.1 he;rfl
theorem zay(h:Nat->HB)(L:List R):(L.map rC).map (λx=>x.map (datC h))=L.map rC:=by
 rw [List.map_map];exact List.map_congr_left λx _=>rfl
theorem jaw(L:List R):(L.map rC).flatMap (λx=>x.flatMap ownC)=[]:=by
 rw [List.flatMap_map];exact List.flatMap_eq_nil_iff.2 λx _=>rfl
theorem zao(h:Nat->HB)(L:List (List Arc)):(L.map lC).map (λx=>x.map (datC h))=L.map lC:=by
 rw [List.map_map];exact List.map_congr_left λx _=>rfl
theorem zaB(L:List (List Arc)):(L.map lC).flatMap (λx=>x.flatMap ownC)=[]:=by
 rw [List.flatMap_map];exact List.flatMap_eq_nil_iff.2 λx _=>rfl
theorem Qaz(h:Nat->HB):frz [] h=h:=eq_of_heq (HEq.refl _)
attribute [go_sem,go_sem ↓] yaS WaF uL uaS zay jaw zao zaB Qaz
end Go.Abs
end
section
namespace Go.Num
def okRs(b:Nat)(l:List R):Prop:=∀x∈l,WLR x/\rl x<=b
end Go.Num
namespace Go.Abs
open Go.Num
variable {P:Program} {Γ:Nat->Spec}
def rsA(l:List R):AV:=.one (.slice (l.map rC))
theorem qbd{x y:R}(h:rC x=rC y):x=y:=qk x y (by simpa [rC,rA] using h)
theorem Vaw(x y:List R)(h:rsA x=rsA y):x=y:=by
 simp only [rsA,AV.one.injEq,C.slice.injEq]at h;exact List.map_inj_right (λ_ _=>qbd) |>.1 h
def onRs(k:List R->Prop)(a:AV):Prop:=onE rsA (λl=>(∀x∈l,WLR x)/\k l) a
@[congr] theorem Zbl{k:List R->Prop}{a a'}(h:a=a'):onRs k a=onRs k a':=by subst h;rfl
theorem wQ(k:List R->Prop)(l:List R):onRs k (.one (.slice (l.map rC)))=((∀x∈l,WLR x)/\k l):=Vj Vaw (λl=>(∀x∈l,WLR x)/\k l) l
theorem YaS{β:Type}{T:List R->(β->Prop)->Prop}(h:∀l,GoodT (T l)){a:AV}:GoodT λK=>onRs (λl=>T l K) a:=
 Yak (e:=rsA) (T:=λl K=>(∀x∈l,WLR x)/\T l K) Vaw λl=>GoodT.and (c:=∀x∈l,WLR x) (T:=T l) λ_=>h l
theorem Z8(l:List R):Clean (.slice (l.map rC))=True:=eq_true (.slice _ (of_eq_true (uL l)))
theorem ZaX(l:List R)(n:Nat):(l.map rC).take n=(l.take n).map rC:=by rw [List.map_take]
theorem ua5(l:List R)(n:Nat):(l.map rC).drop n=(l.drop n).map rC:=by rw [List.map_drop]
theorem W6(l:List R):rsA l=.one (.slice (l.map rC)):=eq_of_heq (HEq.refl _)
attribute [go_sem] wQ Z8 W6 ZaX ua5
attribute [go_sem ↓] wQ Z8 W6
end Go.Abs
end
section
namespace Go.Num
open Go.Abs
def sR(n:Nat)(x:R):Bool:=decide (x.2.1.length<=n) && decide (x.2.2.length<=n)
def sA(p:Arc):Bool:=sR 2 p.1 && sR 2 p.2
end Go.Num
namespace Go.Abs
open Go.Num
variable {P:Program} {Γ:Nat->Spec}
def qsA(l:List V2):AV:=.one (.slice ((l.map acan).map aC))
theorem QaQ(l:List V2):qsA l=.one (.slice ((l.map acan).map aC)):=eq_of_heq (HEq.refl _)
theorem Zau(k:List Arc->Prop)(a b c d e f:C):onAs k (.one (.slice [[a,b,c,d,e,f]]))=onO (λx=>onO (λy=>WLA (x,y)/\k [(x,y)]) (dR d e f)) (dR a b c):=by
 refine propext ⟨λ⟨t,h,h1⟩=>?_,λh=>?_⟩
 .simp only [asA,as,AV.one.injEq,C.slice.injEq]at h;match t,h with
  | [z],h=>
   simp only [List.map_cons,List.map_nil,aC,List.cons.injEq,and_true]at h;obtain⟨rfl,rfl,rfl,rfl,rfl,rfl⟩:=h;simp only [dR_e,WE];exact⟨h1.1 _ (by simp),h1.2⟩
 .obtain⟨x,h1,q1⟩:=Jb.1 h;obtain⟨y,h2,q2⟩:=Jb.1 q1;obtain⟨rfl,rfl,rfl⟩:=Wb.1 h1;obtain⟨rfl,rfl,rfl⟩:=Wb.1 h2;exact⟨[(x,y)],rfl,λz hz=>by rw [List.mem_singleton.1 hz];exact q2.1,q2.2⟩
theorem qaB(k:List Arc->Prop)(a b c d e f a' b' c' d' e' f' : C):onAs k (.one (.slice [[a,b,c,d,e,f],[a',b',c',d',e',f']]))=onO (λx=>onO (λy=>onO (λz=>onO (λw=>WLA (x,y)/\WLA (z,w)/\k [(x,y),(z,w)]) (dR d' e' f')) (dR a' b' c')) (dR d e f)) (dR a b c):=by
 refine propext ⟨λ⟨t,h,h1⟩=>?_,λh=>?_⟩
 .simp only [asA,as,AV.one.injEq,C.slice.injEq]at h;match t,h with
  | [z,w],h=>
   simp only [List.map_cons,List.map_nil,aC,List.cons.injEq,and_true]at h;obtain⟨⟨rfl,rfl,rfl,rfl,rfl,rfl⟩,rfl,rfl,rfl,rfl,rfl,rfl⟩:=h;simp only [dR_e,WE];exact⟨h1.1 _ (by simp),h1.1 _ (by simp),h1.2⟩
 .obtain⟨x,h1,q1⟩:=Jb.1 h;obtain⟨y,h2,q2⟩:=Jb.1 q1;obtain⟨z,h3,q3⟩:=Jb.1 q2;obtain⟨w,h4,q4⟩:=Jb.1 q3;obtain⟨rfl,rfl,rfl⟩:=Wb.1 h1;obtain⟨rfl,rfl,rfl⟩:=Wb.1 h2;obtain⟨rfl,rfl,rfl⟩:=Wb.1 h3;obtain⟨rfl,rfl,rfl⟩:=Wb.1 h4;refine⟨[(x,y),(z,w)],rfl,λv hv=>?_,q4.2.2⟩;simp only [List.mem_cons,List.not_mem_nil,or_false]at hv;rcases hv with rfl | rfl
  .exact q4.1
  .exact q4.2.1
theorem WaR(k:List R->Prop)(a b c d e f g h i:C):onRs k (.one (.slice [[a,b,c],[d,e,f],[g,h,i]]))=onO (λx=>onO (λy=>onO (λz=>(WLR x/\WLR y/\WLR z)/\k [x,y,z]) (dR g h i)) (dR d e f)) (dR a b c):=by
 refine propext ⟨λ⟨t,h,h1⟩=>?_,λh=>?_⟩
 .simp only [rsA,AV.one.injEq,C.slice.injEq]at h;match t,h with
  | [x,y,z],h=>
   simp only [List.map_cons,List.map_nil,rC,List.cons.injEq,and_true]at h;obtain⟨⟨rfl,rfl,rfl⟩,⟨rfl,rfl,rfl⟩,rfl,rfl,rfl⟩:=h;simp only [dR_e,WE];exact⟨⟨h1.1 _ (by simp),h1.1 _ (by simp),h1.1 _ (by simp)⟩,h1.2⟩
 .obtain⟨x,h1,q1⟩:=Jb.1 h;obtain⟨y,h2,q2⟩:=Jb.1 q1;obtain⟨z,h3,q3⟩:=Jb.1 q2;obtain⟨rfl,rfl,rfl⟩:=Wb.1 h1;obtain⟨rfl,rfl,rfl⟩:=Wb.1 h2;obtain⟨rfl,rfl,rfl⟩:=Wb.1 h3;refine⟨[x,y,z],rfl,λv hv=>?_,q3.2⟩;simp only [List.mem_cons,List.not_mem_nil,or_false]at hv;rcases hv with rfl | rfl | rfl
  .exact q3.1.1
  .exact q3.1.2.1
  .exact q3.1.2.2
theorem VaT(k:List R->Prop)(a b c d e f g h i j l m n o p:C):onRs k (.one (.slice [[a,b,c],[d,e,f],[g,h,i],[j,l,m],[n,o,p]]))=onO (λx=>onO (λy=>onO (λz=>onO (λu=>onO (λv=>(WLR x/\WLR y/\WLR z/\WLR u/\WLR v)/\k [x,y,z,u,v]) (dR n o p)) (dR j l m)) (dR g h i)) (dR d e f)) (dR a b c):=by
 refine propext ⟨λ⟨t,h,h1⟩=>?_,λh=>?_⟩
 .simp only [rsA,AV.one.injEq,C.slice.injEq]at h;match t,h with
  | [x,y,z,u,v],h=>
   simp only [List.map_cons,List.map_nil,rC,List.cons.injEq,and_true]at h;obtain⟨⟨rfl,rfl,rfl⟩,⟨rfl,rfl,rfl⟩,⟨rfl,rfl,rfl⟩,⟨rfl,rfl,rfl⟩,rfl,rfl,rfl⟩:=h;simp only [dR_e,WE];exact⟨⟨h1.1 _ (by simp),h1.1 _ (by simp),h1.1 _ (by simp),h1.1 _ (by simp),h1.1 _ (by simp)⟩,h1.2⟩
 .obtain⟨x,h1,q1⟩:=Jb.1 h;obtain⟨y,h2,q2⟩:=Jb.1 q1;obtain⟨z,h3,q3⟩:=Jb.1 q2;obtain⟨u,h4,q4⟩:=Jb.1 q3;obtain⟨v,h5,q5⟩:=Jb.1 q4;obtain⟨rfl,rfl,rfl⟩:=Wb.1 h1;obtain⟨rfl,rfl,rfl⟩:=Wb.1 h2;obtain⟨rfl,rfl,rfl⟩:=Wb.1 h3;obtain⟨rfl,rfl,rfl⟩:=Wb.1 h4;obtain⟨rfl,rfl,rfl⟩:=Wb.1 h5;refine⟨[x,y,z,u,v],rfl,λw hw=>?_,q5.2⟩;obtain⟨w1,w2,w3,w4,w5⟩:=q5.1;simp only [List.mem_cons,List.not_mem_nil,or_false]at hw;rcases hw with rfl | rfl | rfl | rfl | rfl <;> assumption
attribute [go_sem,go_sem ↓] Zau qaB WaR VaT QaQ
end Go.Abs
end
section
namespace Go.Num
open Go.Abs
end Go.Num
namespace Go.Abs
open Go.Num
variable {P:Program} {Γ:Nat->Spec}
end Go.Abs
end
section
namespace Go.Num
open Go.Abs
end Go.Num
end
section
namespace Go.Num
end Go.Num
end
section
namespace Go.Abs
open Go.Num
variable {P:Program} {Γ:Nat->Spec}
end Go.Abs
end
