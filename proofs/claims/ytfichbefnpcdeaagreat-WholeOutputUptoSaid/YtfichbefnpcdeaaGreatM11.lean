/-
  Parts of the proof, merged: CoupB, CoupC, BurP, BurA, PoseL, BurB, CoupD, BurC, BurJ.
-/
import Derived.Test.YtfichbefnpcdeaaGreatM10
set_option linter.unusedVariables false
set_option linter.unusedSimpArgs false
set_option linter.unnecessarySimpa false
set_option maxRecDepth 100000
section
namespace Go.Num
open Go.Abs
end Go.Num
namespace Go.Abs
open Go.Num
variable {P:Program} {Γ:Nat->Spec}
end Go.Abs
end
section
namespace Go.Num
open Go.Abs
end Go.Num
namespace Go.Abs
open Go.Num
variable {P:Program} {Γ:Nat->Spec}
end Go.Abs
end
section
namespace Go.Num
def ln3(a b c:Rat):BQ:=nf [(1,0,a),(0,1,b),(0,0,c)]
abbrev Rw:=BQ×BQ×BQ
def bXp(p:PsQ):BQ:=ln3 (cosQ p.1) (-sinQ p.1) p.2.1
def PsK(p:PsQ):Prop:=rz p.1.1<=1000/\zq p.2<=1000
theorem vbd(a b c:Rat):InQ [(1,0,a),(0,1,b),(0,0,c)]:=λt ht=>by
 simp only [List.mem_cons,List.not_mem_nil,or_false]at ht;rcases ht with rfl | rfl | rfl <;> simp [inQ]
theorem PB.ln3(a b c:Rat):PB 1 (rz a+rz b+rz c+6) (ln3 a b c):=by
 refine⟨Vu (vbd a b c),YV λt ht=>?_,?_⟩
 .simp only [List.mem_cons,List.not_mem_nil,or_false]at ht;rcases ht with rfl | rfl | rfl <;> simp
 .refine Nat.le_trans (kaq _) ?_;simp only [sz];omega
theorem PB.xp{p:PsQ}(h:PsK p):PB 1 9100 (bXp p):=by
 have h1:=Jbi p.1;have h2:=Ybf p.1;have h3:=h.1;have h4:rz p.2.1<=1000:=Nat.le_trans (Nat.le_max_left _ _) h.2;have h5:=Uy (sinQ p.1);exact(PB.ln3 _ _ _).mono (Nat.le_refl _) (by omega)
def RB(s n:Nat)(a:Rw):Prop:=PB 2 s a.1/\PB 1 n a.2.1/\PB 1 n a.2.2
def crs(a b c:V2):Rat:=crossQ (subQ b a) (subQ c a)
end Go.Num
end
section
namespace Go.Num
open Go.Abs
end Go.Num
namespace Go.Abs
open Go.Num
variable {P:Program} {Γ:Nat->Spec}
def onRw(k:Rw->Prop)(a:AV):Prop:=∃p q r,a=.agg [bC p,bC q,bC r]/\(Canon p/\Canon q/\Canon r)/\k (p,q,r)
@[congr] theorem vbj{k:Rw->Prop}{a a'}(h:a=a'):onRw k a=onRw k a':=by subst h;rfl
theorem ybf(k:Rw->Prop)(p q r:BQ):onRw k (.agg [bC p,bC q,bC r])=((Canon p/\Canon q/\Canon r)/\k (p,q,r)):=by
 refine propext ⟨λ⟨x,y,z,h,h1,h2⟩=>?_,λh=>⟨p,q,r,rfl,h⟩⟩;simp only [AV.agg.injEq,List.cons.injEq,and_true]at h;obtain⟨e1,e2,e3⟩:=h;have:=vJ e1;have:=vJ e2;have:=vJ e3
 subst_vars;exact⟨h1,h2⟩
theorem ZaP(k:Rw->Prop)(p q r:BQ):onRw k (.agg [.slice ((mcs p).map mC),.slice ((mcs q).map mC),.slice ((mcs r).map mC)])=((Canon p/\Canon q/\Canon r)/\k (p,q,r)):=ybf k p q r
attribute [go_sem,go_sem ↓] ZaP
end Go.Abs
end
section
namespace Go.Num
open Go.Abs
abbrev P3:=Ps×Ps×Ps
def WL3(t:P3):Prop:=WLP t.1/\WLP t.2.1/\WLP t.2.2
def l3(t:P3):List Ps:=[t.1,t.2.1,t.2.2]
end Go.Num
namespace Go.Abs
open Go.Num
variable {P:Program} {Γ:Nat->Spec}
def p3C(t:P3):List C:=pC t.1++pC t.2.1++pC t.2.2
def p3A(t:P3):AV:=.agg (p3C t)
def onP3(k:P3->Prop)(a:AV):Prop:=onE p3A (λt=>WL3 t/\k t) a
@[congr] theorem Jbk{k:P3->Prop}{a a'}(h:a=a'):onP3 k a=onP3 k a':=by subst h;rfl
theorem uaF(t:P3):CleanL (p3C t):=by
 intro c hc;simp only [p3C,List.mem_append]at hc;rcases hc with(hc | hc) | hc
 .exact Uz _ c hc
 .exact Uz _ c hc
 .exact Uz _ c hc
theorem Xaq(t:P3):(p3C t).length=30:=by simp [p3C,jy]
theorem Zah(t:P3):(p3C t).drop 0=p3C t:=rfl
theorem waD(t:P3):(p3C t).take 30=p3C t:=List.take_of_length_le (by rw [Xaq];decide)
theorem Wbg(t:P3):(p3C t).take 10=pC t.1:=by unfold p3C;rw [List.append_assoc,List.take_left' (jy _)]
theorem jbf(t:P3):(p3C t).drop 10=pC t.2.1++pC t.2.2:=by unfold p3C;rw [List.append_assoc,List.drop_left' (jy _)]
theorem Ybg(t:P3):((p3C t).drop 10).take 10=pC t.2.1:=by rw [jbf,List.take_left' (jy _)]
theorem Zbh(t:P3):(((p3C t).drop 10).drop 10).take 10=pC t.2.2:=by rw [jbf,List.drop_left' (jy _),List.take_of_length_le (by rw [jy];decide)]
theorem xaS(t:P3)(r:List (List C)):datQ 0 0 (some ⟨p3C t::r,30,true⟩)=.ref (p3C t):=wB [] _ _ _ _ _ ⟨Nat.zero_le _,uaF t⟩
theorem YaU(k:List Ps->Prop)(p q r:Ps):onPs k (.one (.slice [pC p,pC q,pC r]))=((∀x∈l3 (p,q,r),WLP x)/\k (l3 (p,q,r))):=YaD k (l3 (p,q,r))
theorem vaQ(t:P3):p3A t=.agg (p3C t):=eq_of_heq (HEq.refl _)
attribute [go_sem,go_sem ↓] YaU Xaq Zah waD Wbg Ybg Zbh xaS vaQ
end Go.Abs
end
section
namespace Go.Num
open Go.Abs
end Go.Num
namespace Go.Abs
open Go.Num
variable {P:Program} {Γ:Nat->Spec}
theorem gE1y(K:List C->Prop)(e0 e1:List C)(r:List (List C)):getE K (e0::e1::r) 1=K e1:=by simp [getE]
theorem gE2y(K:List C->Prop)(e0 e1 e2:List C)(r:List (List C)):getE K (e0::e1::e2::r) 2=K e2:=by simp [getE]
theorem gE3y(K:List C->Prop)(e0 e1 e2 e3:List C)(r:List (List C)):getE K (e0::e1::e2::e3::r) 3=K e3:=by simp [getE]
attribute [go_sem,go_sem ↓] gE1y gE2y gE3y
end Go.Abs
end
section
namespace Go.Num
open Go.Abs
instance decH(c:CpR)(a b:V2):Decidable (hldQ c a b):=inferInstanceAs (Decidable (_/\_/\_))
end Go.Num
namespace Go.Abs
open Go.Num
variable {P:Program} {Γ:Nat->Spec}
end Go.Abs
end
section
namespace Go.Num
open Go.Abs
end Go.Num
namespace Go.Abs
open Go.Num
variable {P:Program} {Γ:Nat->Spec}
end Go.Abs
end
section
namespace Go.Num
open Go.Abs
end Go.Num
namespace Go.Abs
open Go.Num
variable {P:Program} {Γ:Nat->Spec} {L:List (Nat×Spec)}
def t2A(p:Tn×Tn):AV:=.one (.slice [tC p.1,tC p.2])
theorem kaV(x y:Tn×Tn)(h:t2A x=t2A y):x=y:=by
 simp only [t2A,AV.one.injEq,C.slice.injEq,List.cons.injEq,and_true]at h;exact Prod.ext (vay _ _ (congrArg AV.agg h.1)) (vay _ _ (congrArg AV.agg h.2))
def onT2(k:Tn×Tn->Prop)(a:AV):Prop:=onE t2A (λt=>(WLR t.1.1/\WLR t.2.1)/\k t) a
@[congr] theorem vbm{k:Tn×Tn->Prop}{a a'}(h:a=a'):onT2 k a=onT2 k a':=by subst h;rfl
theorem vaT(k:Tn×Tn->Prop)(x y:R)(b c:Bool):onT2 k (.one (.slice [[cb x,cn x,cd x,.lit (.bool b)],[cb y,cn y,cd y,.lit (.bool c)]]))=((WLR x/\WLR y)/\k ((x,b),(y,c))):=
 Vj kaV (λt=>(WLR t.1.1/\WLR t.2.1)/\k t) ((x,b),(y,c))
attribute [go_sem,go_sem ↓] vaT
end Go.Abs
end
