/-
  Parts of the proof, merged: ChartG, ChartQ, ChartH, ChartR, ChartW, ChartX, ComA, ChartRow, ComB, PoseD, PoseE, PoseQ, BurQ, PoseT.
-/
import Derived.Test.YtfichbefnpcdeaaGreatM7
set_option linter.unusedVariables false
set_option linter.unusedSimpArgs false
set_option linter.unnecessarySimpa false
set_option maxRecDepth 100000
section
namespace Go.Num
end Go.Num
namespace Go.Abs
open Go.Num
variable {P:Program} {Γ:Nat->Spec}
end Go.Abs
end
section
namespace Go.Num
end Go.Num
end
section
namespace Go.Num
end Go.Num
namespace Go.Abs
open Go.Num
variable {P:Program} {Γ:Nat->Spec}
theorem UaI(k:List Arc->Prop)(x y:R):onAs k (.one (.slice [[cb x,cn x,cd x,cb y,cn y,cd y]]))=((∀z∈[(x,y)],WLA z)/\k [(x,y)]):=QC k [(x,y)]
theorem JaI(k:List Arc->Prop)(x y x' y' : R):onAs k (.one (.slice [[cb x,cn x,cd x,cb y,cn y,cd y],[cb x',cn x',cd x',cb y',cn y',cd y']]))=((∀z∈[(x,y),(x',y')],WLA z)/\k [(x,y),(x',y')]):=QC k [(x,y),(x',y')]
theorem wam(k:List Arc->Prop)(x:Arc):onAs k (.one (.slice [aC x]))=((∀z∈[x],WLA z)/\k [x]):=QC k [x]
theorem xaq(k:List Arc->Prop)(x y:Arc):onAs k (.one (.slice [aC x,aC y]))=((∀z∈[x,y],WLA z)/\k [x,y]):=QC k [x,y]
theorem jas(k:List Arc->Prop)(y x' y' : R):onAs k (.one (.slice [[.lit (.bool false),.slice [],.slice [],cb y,cn y,cd y],[cb x',cn x',cd x',cb y',cn y',cd y']]))=((∀z∈[(rcan 0,y),(x',y')],WLA z)/\k [(rcan 0,y),(x',y')]):=by
 rw [Ya];exact QC k [((false,[],[]),y),(x',y')]
attribute [go_sem,go_sem ↓] UaI JaI wam xaq jas
end Go.Abs
end
section
namespace Go.Num
instance(x:Rat)(a:Q2):Decidable (mem x a):=by unfold mem;infer_instance
instance(x:Rat)(l:List Q2):Decidable (memL x l):=by unfold memL;infer_instance
end Go.Num
end
section
namespace Go.Num
end Go.Num
namespace Go.Abs
open Go.Num
variable {P:Program} {Γ:Nat->Spec}
end Go.Abs
end
section
namespace Go.Num
end Go.Num
namespace Go.Abs
open Go.Num
variable {P:Program} {Γ:Nat->Spec}
end Go.Abs
end
section
namespace Go.Abs
open Go.Num
variable {P:Program} {Γ:Nat->Spec}
end Go.Abs
end
section
namespace Go.Abs
open Go.Num
def rC(x:R):List C:=[cb x,cn x,cd x]
theorem yaI(x:R):(rC x).length=3:=eq_of_heq (HEq.refl _)
theorem waB(K:List C->Prop)(L:List R)(i:Nat):getE K (L.map rC) i=(i<L.length/\K (rC (L.getD i (rcan 0)))):=by
 simp only [getE,List.length_map,List.getElem?_map];refine propext ⟨λh=>⟨h.1,h.2 _ (by simp [h.1,List.getD_eq_getElem?_getD])⟩,λh=>⟨h.1,λe he=>?_⟩⟩
 simp [h.1]at he;subst he;have:=h.2;simpa [List.getD_eq_getElem?_getD,h.1] using this
theorem zK(l:List R):CleanR (l.map rC)=True:=eq_true λe he c hc=>by
 obtain⟨x,_,rfl⟩:=List.mem_map.1 he;exact wah x c hc
theorem jaK(L:List R):(∀e∈L.map rC,e.length=3)=True:=eq_true λe he=>by
 obtain⟨l,_,rfl⟩:=List.mem_map.1 he;rfl
theorem uax(h:Nat->HB)(L:List R):(L.map rC).map (λx=>x.map (datC h))=L.map rC:=by
 rw [List.map_map];exact List.map_congr_left λx _=>rfl
theorem zax(L:List R):(L.map rC).flatMap (λx=>x.flatMap ownC)=[]:=by
 rw [List.flatMap_map];exact List.flatMap_eq_nil_iff.2 λx _=>rfl
theorem waA(h:Nat->HB)(L:List (List Arc)):(L.map lC).map (λx=>x.map (datC h))=L.map lC:=by
 rw [List.map_map];exact List.map_congr_left λx _=>rfl
theorem Qaq(L:List (List Arc)):(L.map lC).flatMap (λx=>x.flatMap ownC)=[]:=by
 rw [List.flatMap_map];exact List.flatMap_eq_nil_iff.2 λx _=>rfl
theorem kav(h:Nat->HB):frz [] h=h:=eq_of_heq (HEq.refl _)
attribute [go_sem,go_sem ↓] yaI waB zK jaK uax zax waA Qaq kav
end Go.Abs
end
section
namespace Go.Num
end Go.Num
namespace Go.Abs
open Go.Num
variable {P:Program} {Γ:Nat->Spec}
def rsA(l:List R):AV:=.one (.slice (l.map rC))
theorem Ua4{x y:R}(h:rC x=rC y):x=y:=Xl x y (by simpa [rC,rA] using h)
theorem xaP(x y:List R)(h:rsA x=rsA y):x=y:=by
 simp only [rsA,AV.one.injEq,C.slice.injEq]at h;exact List.map_inj_right (λ_ _=>Ua4) |>.1 h
def onRs(k:List R->Prop)(a:AV):Prop:=onE rsA (λl=>(∀x∈l,WLR x)/\k l) a
@[congr] theorem Wba{k:List R->Prop}{a a'}(h:a=a'):onRs k a=onRs k a':=by subst h;rfl
theorem WaN(k:List R->Prop)(l:List R):onRs k (.one (.slice (l.map rC)))=((∀x∈l,WLR x)/\k l):=jj xaP (λl=>(∀x∈l,WLR x)/\k l) l
theorem Qag(l:List R):Clean (.slice (l.map rC))=True:=eq_true (.slice _ (of_eq_true (zK l)))
theorem JaW(l:List R)(n:Nat):(l.map rC).take n=(l.take n).map rC:=by rw [List.map_take]
theorem jaV(l:List R)(n:Nat):(l.map rC).drop n=(l.drop n).map rC:=by rw [List.map_drop]
theorem waL(l:List R):rsA l=.one (.slice (l.map rC)):=eq_of_heq (HEq.refl _)
attribute [go_sem] WaN Qag waL JaW jaV
attribute [go_sem ↓] WaN Qag waL
end Go.Abs
end
section
namespace Go.Num
open Go.Abs
def sR(n:Nat)(x:R):Bool:=decide (x.2.1.length<=n) && decide (x.2.2.length<=n)
def sA(p:Arc):Bool:=sR 2 p.1 && sR 2 p.2
end Go.Num
namespace Go.Abs
open Go.Num
variable {P:Program} {Γ:Nat->Spec}
def qsA(l:List V2):AV:=.one (.slice ((l.map acan).map aC))
theorem UaJ(l:List V2):qsA l=.one (.slice ((l.map acan).map aC)):=eq_of_heq (HEq.refl _)
theorem Uap(k:List Arc->Prop)(a b c d e f:C):onAs k (.one (.slice [[a,b,c,d,e,f]]))=onO (λx=>onO (λy=>WLA (x,y)/\k [(x,y)]) (dR d e f)) (dR a b c):=by
 refine propext ⟨λ⟨t,h,h1⟩=>?_,λh=>?_⟩
 .simp only [asA,as,AV.one.injEq,C.slice.injEq]at h;match t,h with
  | [z],h=>
   simp only [List.map_cons,List.map_nil,aC,List.cons.injEq,and_true]at h;obtain⟨rfl,rfl,rfl,rfl,rfl,rfl⟩:=h;simp only [dR_e,xB];exact⟨h1.1 _ (by simp),h1.2⟩
 .obtain⟨x,h1,q1⟩:=Zb.1 h;obtain⟨y,h2,q2⟩:=Zb.1 q1;obtain⟨rfl,rfl,rfl⟩:=Jb.1 h1;obtain⟨rfl,rfl,rfl⟩:=Jb.1 h2;exact⟨[(x,y)],rfl,λz hz=>by rw [List.mem_singleton.1 hz];exact q2.1,q2.2⟩
theorem yan(k:List Arc->Prop)(a b c d e f a' b' c' d' e' f' : C):onAs k (.one (.slice [[a,b,c,d,e,f],[a',b',c',d',e',f']]))=onO (λx=>onO (λy=>onO (λz=>onO (λw=>WLA (x,y)/\WLA (z,w)/\k [(x,y),(z,w)]) (dR d' e' f')) (dR a' b' c')) (dR d e f)) (dR a b c):=by
 refine propext ⟨λ⟨t,h,h1⟩=>?_,λh=>?_⟩
 .simp only [asA,as,AV.one.injEq,C.slice.injEq]at h;match t,h with
  | [z,w],h=>
   simp only [List.map_cons,List.map_nil,aC,List.cons.injEq,and_true]at h;obtain⟨⟨rfl,rfl,rfl,rfl,rfl,rfl⟩,rfl,rfl,rfl,rfl,rfl,rfl⟩:=h;simp only [dR_e,xB];exact⟨h1.1 _ (by simp),h1.1 _ (by simp),h1.2⟩
 .obtain⟨x,h1,q1⟩:=Zb.1 h;obtain⟨y,h2,q2⟩:=Zb.1 q1;obtain⟨z,h3,q3⟩:=Zb.1 q2;obtain⟨w,h4,q4⟩:=Zb.1 q3;obtain⟨rfl,rfl,rfl⟩:=Jb.1 h1;obtain⟨rfl,rfl,rfl⟩:=Jb.1 h2;obtain⟨rfl,rfl,rfl⟩:=Jb.1 h3;obtain⟨rfl,rfl,rfl⟩:=Jb.1 h4;refine⟨[(x,y),(z,w)],rfl,λv hv=>?_,q4.2.2⟩;simp only [List.mem_cons,List.not_mem_nil,or_false]at hv;rcases hv with rfl | rfl
  .exact q4.1
  .exact q4.2.1
theorem vaO(k:List R->Prop)(a b c d e f g h i:C):onRs k (.one (.slice [[a,b,c],[d,e,f],[g,h,i]]))=onO (λx=>onO (λy=>onO (λz=>(WLR x/\WLR y/\WLR z)/\k [x,y,z]) (dR g h i)) (dR d e f)) (dR a b c):=by
 refine propext ⟨λ⟨t,h,h1⟩=>?_,λh=>?_⟩
 .simp only [rsA,AV.one.injEq,C.slice.injEq]at h;match t,h with
  | [x,y,z],h=>
   simp only [List.map_cons,List.map_nil,rC,List.cons.injEq,and_true]at h;obtain⟨⟨rfl,rfl,rfl⟩,⟨rfl,rfl,rfl⟩,rfl,rfl,rfl⟩:=h;simp only [dR_e,xB];exact⟨⟨h1.1 _ (by simp),h1.1 _ (by simp),h1.1 _ (by simp)⟩,h1.2⟩
 .obtain⟨x,h1,q1⟩:=Zb.1 h;obtain⟨y,h2,q2⟩:=Zb.1 q1;obtain⟨z,h3,q3⟩:=Zb.1 q2;obtain⟨rfl,rfl,rfl⟩:=Jb.1 h1;obtain⟨rfl,rfl,rfl⟩:=Jb.1 h2;obtain⟨rfl,rfl,rfl⟩:=Jb.1 h3;refine⟨[x,y,z],rfl,λv hv=>?_,q3.2⟩;simp only [List.mem_cons,List.not_mem_nil,or_false]at hv;rcases hv with rfl | rfl | rfl
  .exact q3.1.1
  .exact q3.1.2.1
  .exact q3.1.2.2
theorem XaM(k:List R->Prop)(a b c d e f g h i j l m n o p:C):onRs k (.one (.slice [[a,b,c],[d,e,f],[g,h,i],[j,l,m],[n,o,p]]))=onO (λx=>onO (λy=>onO (λz=>onO (λu=>onO (λv=>(WLR x/\WLR y/\WLR z/\WLR u/\WLR v)/\k [x,y,z,u,v]) (dR n o p)) (dR j l m)) (dR g h i)) (dR d e f)) (dR a b c):=by
 refine propext ⟨λ⟨t,h,h1⟩=>?_,λh=>?_⟩
 .simp only [rsA,AV.one.injEq,C.slice.injEq]at h;match t,h with
  | [x,y,z,u,v],h=>
   simp only [List.map_cons,List.map_nil,rC,List.cons.injEq,and_true]at h;obtain⟨⟨rfl,rfl,rfl⟩,⟨rfl,rfl,rfl⟩,⟨rfl,rfl,rfl⟩,⟨rfl,rfl,rfl⟩,rfl,rfl,rfl⟩:=h;simp only [dR_e,xB];exact⟨⟨h1.1 _ (by simp),h1.1 _ (by simp),h1.1 _ (by simp),h1.1 _ (by simp),h1.1 _ (by simp)⟩,h1.2⟩
 .obtain⟨x,h1,q1⟩:=Zb.1 h;obtain⟨y,h2,q2⟩:=Zb.1 q1;obtain⟨z,h3,q3⟩:=Zb.1 q2;obtain⟨u,h4,q4⟩:=Zb.1 q3;obtain⟨v,h5,q5⟩:=Zb.1 q4;obtain⟨rfl,rfl,rfl⟩:=Jb.1 h1;obtain⟨rfl,rfl,rfl⟩:=Jb.1 h2;obtain⟨rfl,rfl,rfl⟩:=Jb.1 h3;obtain⟨rfl,rfl,rfl⟩:=Jb.1 h4;obtain⟨rfl,rfl,rfl⟩:=Jb.1 h5;refine⟨[x,y,z,u,v],rfl,λw hw=>?_,q5.2⟩;obtain⟨w1,w2,w3,w4,w5⟩:=q5.1;simp only [List.mem_cons,List.not_mem_nil,or_false]at hw;rcases hw with rfl | rfl | rfl | rfl | rfl <;> assumption
attribute [go_sem,go_sem ↓] Uap yan vaO XaM UaJ
end Go.Abs
end
section
namespace Go.Num
open Go.Abs
end Go.Num
namespace Go.Abs
open Go.Num
variable {P:Program} {Γ:Nat->Spec}
end Go.Abs
end
section
namespace Go.Num
open Go.Abs
theorem Ya4(t:TnQ):cosQ t*cosQ t+sinQ t*sinQ t=1:=by
 unfold cosQ sinQ;by_cases h:t.2=true
 .rw [if_pos h,if_pos h];grind
 .rw [if_neg h,if_neg h];have hd:=Wap t.1;obtain⟨x,hx⟩:∃x,t.1=x:=⟨_,rfl⟩;rw [hx]at hd ⊢;obtain⟨d,hdd⟩:∃d,1+x*x=d:=⟨_,rfl⟩;rw [hdd]at hd ⊢;have e:(1-x*x)*(1-x*x)+(x+x)*(x+x)=d*d:=by grind
  simp only [Rat.div_def];have hi:d*d⁻¹=1:=Rat.mul_inv_cancel d hd;obtain⟨i,hii⟩:∃i,d⁻¹=i:=⟨_,rfl⟩;rw [hii]at hi ⊢;grind
end Go.Num
end
section
namespace Go.Num
def addT(a b:TnQ):TnQ:=
 if a.2=true then (if b.2=true then (0,false) else if b.1=0 then (0,true) else (-1 / b.1,false))
 else if b.2=true then (if a.1=0 then (0,true) else (-1 / a.1,false))
 else if 1-a.1*b.1=0 then (0,true) else ((a.1+b.1) / (1-a.1*b.1),false)
theorem ya3{x:Rat}(h:x≠0):x*x⁻¹=1:=Rat.mul_inv_cancel x h
theorem cs_f(t:Rat):∃i,(1+t*t)*i=1/\cosQ (t,false)=(1-t*t)*i/\sinQ (t,false)=(t+t)*i:=by
 refine⟨(1+t*t)⁻¹,ya3 (Wap t),?_,?_⟩
 .unfold cosQ;rw [if_neg (by simp),Rat.div_def]
 .unfold sinQ;rw [if_neg (by simp),Rat.div_def]
theorem cs_h(t:Rat):cosQ (t,true) = -1/\sinQ (t,true)=0:=⟨rfl,rfl⟩
def thenQ(p q:PsQ):PsQ:=(addT p.1 q.1,appQ q p.2)
def btwQ(p q:PsQ):PsQ:=thenQ (invQ p) q
def fixQ(p:PsQ):V2:=
 (((1-cosQ p.1)*p.2.1-sinQ p.1*p.2.2) / (2*(1-cosQ p.1)),((1-cosQ p.1)*p.2.2+sinQ p.1*p.2.1) / (2*(1-cosQ p.1)))
def zeroT(t:TnQ):Bool:=!t.2 && decide (t.1=0)
theorem JaN{t:TnQ}(h:zeroT t=false):1-cosQ t≠0:=by
 obtain⟨x,hb⟩:=t;cases hb with
 | true=>obtain⟨c,_⟩:=cs_h x;rw [c];decide +kernel
 | false=>
  obtain⟨i,h1,h2,_⟩:=cs_f x;have hx:x≠0:=by simpa [zeroT] using h
  rw [h2];intro e;have e1:(1+x*x)*i-(1-x*x)*i=0:=by rw [h1];exact e
  have e2:2*(x*x)*i=0:=by grind
  have hi:i≠0:=by rintro rfl;rw [Rat.mul_zero]at h1;exact absurd h1 (by decide)
  have h2x:x*x≠0:=λhh=>by rcases Rat.mul_eq_zero.1 hh with hh | hh <;> exact hx hh
  rcases Rat.mul_eq_zero.1 e2 with hh | hh
  .rcases Rat.mul_eq_zero.1 hh with hh | hh
   .exact absurd hh (by decide)
   .exact h2x hh
  .exact hi hh
theorem Va3{p:PsQ}(h:zeroT p.1=false):appQ p (fixQ p)=fixQ p:=by
 have hk:=JaN h;have h1:=Ya4 p.1;have h2:2*(1-cosQ p.1)≠0:=λe=>by
  rcases Rat.mul_eq_zero.1 e with e | e
  .exact absurd e (by decide)
  .exact hk e
 have hi:=ya3 h2;unfold fixQ appQ rotQ addQ;simp only [Rat.div_def];obtain⟨q,hq⟩:∃q,(2*(1-cosQ p.1))⁻¹=q:=⟨_,rfl⟩;rw [hq]at hi ⊢;generalize cosQ p.1=c at *
 generalize sinQ p.1=s at *
 generalize p.2.1=X at *
 generalize p.2.2=Y at *
 have hs:s*s=(1-c)*(1+c):=by grind
 exact Prod.ext (by simp only;grind) (by simp only;grind)
theorem Yau(a b:TnQ):rz (addT a b).1<=6*rz a.1+6*rz b.1+40:=by
 have h0:=rz_0;have h1:=rz_1;have hn:=wU;have a1:=zC (-1) a.1;have a2:=zC (-1) b.1;have a3:=ze a.1 b.1;have a4:=Xu 1 (a.1*b.1);have a5:=qm a.1 b.1;have a6:=zC (a.1+b.1) (1-a.1*b.1);unfold addT;split
 .split
  .simp only;omega
  .split
   .simp only;omega
   .simp only;omega
 .split
  .split
   .simp only;omega
   .simp only;omega
  .split
   .simp only;omega
   .simp only;omega
end Go.Num
end
section
namespace Go.Abs
open Go.Num
variable {P:Program} {Γ:Nat->Spec}
end Go.Abs
end
