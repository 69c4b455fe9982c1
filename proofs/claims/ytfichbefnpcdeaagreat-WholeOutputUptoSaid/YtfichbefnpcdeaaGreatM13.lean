/-
  Parts of the proof, merged: ArgJ.
-/
import Derived.Test.YtfichbefnpcdeaaGreatM12
set_option linter.unusedVariables false
set_option linter.unusedSimpArgs false
set_option linter.unnecessarySimpa false
section
namespace Go.Abs
open Go.Num
variable {H:Type} {enc:TypeId×Value->H} {bulk:DataW H->Nat} {P:Program} {w:World} {α:Type}
def okFb(n:Nat)(x:Fb):Prop:=WLF x/\fl x<=n
structure FbT (P:Program) (t:TypeId):Prop where
 ex:∃f0 f1 f2 f3 f4 f5:Field,P.underlying t=some (.struct #[f0,f1,f2,f3,f4,f5])/\(f0.offset=0/\f1.offset=3/\f2.offset=6/\f3.offset=9/\f4.offset=12/\f5.offset=15)/\P.cellsOf t=18/\
  (P.cellsOf f0.type=3/\P.cellsOf f1.type=3/\P.cellsOf f2.type=3/\P.cellsOf f3.type=3/\P.cellsOf f4.type=3/\P.cellsOf f5.type=3)/\
  RatT P f0.type/\RatT P f1.type/\RatT P f2.type/\RatT P f3.type/\RatT P f4.type/\RatT P f5.type
theorem ZaK{t:TypeId}(B:Bk bulk)(h:FbT P t):Opens enc bulk P w t fbC okFb:=by
 obtain⟨f0,f1,f2,f3,f4,f5,ht,⟨o0,o1,o2,o3,o4,o5⟩,hs,⟨c0,c1,c2,c3,c4,c5⟩,r0,r1,r2,r3,r4,r5⟩:=h.ex;intro fuel cs x hx;obtain⟨xs,n,_,rfl,hl,hlen,hf⟩:=DataW.trod_struct ht hx;match xs,hlen with
 | [y0,y1,y2,y3,y4,y5],_=>
  have q0:=hf 0 f0 rfl;have q1:=hf 1 f1 rfl;have q2:=hf 2 f2 rfl;have q3:=hf 3 f3 rfl;have q4:=hf 4 f4 rfl;have q5:=hf 5 f5 rfl;rw [o0,c0]at q0;rw [o1,c1]at q1;rw [o2,c2]at q2;rw [o3,c3]at q3;rw [o4,c4]at q4;rw [o5,c5]at q5;obtain⟨a0,k0,s0⟩:=Wl (enc:=enc) (w:=w) B r0 n _ y0 q0;obtain⟨a1,k1,s1⟩:=Wl (enc:=enc) (w:=w) B r1 n _ y1 q1;obtain⟨a2,k2,s2⟩:=Wl (enc:=enc) (w:=w) B r2 n _ y2 q2;obtain⟨a3,k3,s3⟩:=Wl (enc:=enc) (w:=w) B r3 n _ y3 q3;obtain⟨a4,k4,s4⟩:=Wl (enc:=enc) (w:=w) B r4 n _ y4 q4;obtain⟨a5,k5,s5⟩:=Wl (enc:=enc) (w:=w) B r5 n _ y5 q5;have b:∀y∈[y0,y1,y2,y3,y4,y5],bulk y.1<=bulk (.agg ([y0,y1,y2,y3,y4,y5].map (·.1))):=λy hy=>B.ag _ _ (List.mem_map.2 ⟨y,hy,rfl⟩);have k0:=yo _ _ _ (b y0 (by simp)) k0
  have k1:=yo _ _ _ (b y1 (by simp)) k1
  have k2:=yo _ _ _ (b y2 (by simp)) k2
  have k3:=yo _ _ _ (b y3 (by simp)) k3
  have k4:=yo _ _ _ (b y4 (by simp)) k4
  have k5:=yo _ _ _ (b y5 (by simp)) k5
  refine⟨⟨a0,a1,a2,a3,a4,a5⟩,⟨⟨k0.2,k1.2,k2.2,k3.2,k4.2,k5.2⟩,Nat.max_le.2 ⟨Nat.max_le.2 ⟨k0.1,Nat.max_le.2 ⟨k1.1,k2.1⟩⟩,Nat.max_le.2 ⟨k3.1,Nat.max_le.2 ⟨k4.1,k5.1⟩⟩⟩⟩,?_⟩;have rr:=(((((s0.append s1).append s2).append s3).append s4).append s5);have t1:cs.take 3++(cs.drop 3).take 3=cs.take 6:=(List.take_add (i:=3) (j:=3)).symm;have t2:cs.take 6++(cs.drop 6).take 3=cs.take 9:=(List.take_add (i:=6) (j:=3)).symm;have t3:cs.take 9++(cs.drop 9).take 3=cs.take 12:=(List.take_add (i:=9) (j:=3)).symm;have t4:cs.take 12++(cs.drop 12).take 3=cs.take 15:=(List.take_add (i:=12) (j:=3)).symm;have t5:cs.take 15++(cs.drop 15).take 3=cs.take 18:=(List.take_add (i:=15) (j:=3)).symm;rw [List.drop_zero,t1,t2,t3,t4,t5,List.take_of_length_le (by omega)]at rr
  exact rr
theorem vaD(x:Fb):CleanL (fbC x):=by
 intro c hc;simp only [fbC,List.mem_cons,List.not_mem_nil,or_false]at hc;rcases hc with rfl | rfl | rfl | rfl | rfl | rfl | rfl | rfl | rfl | rfl | rfl | rfl | rfl | rfl | rfl | rfl | rfl | rfl
 all_goals first | exact of_eq_true (xh _) | exact of_eq_true (wh _) | exact of_eq_true (Yh _)
theorem kaE(t:Tn):CleanL (tC t):=by
 intro c hc;simp only [tC,List.mem_cons,List.not_mem_nil,or_false]at hc;rcases hc with rfl | rfl | rfl | rfl
 .exact of_eq_true (xh _)
 .exact of_eq_true (wh _)
 .exact of_eq_true (Yh _)
 .exact .lit _
end Go.Abs
end
