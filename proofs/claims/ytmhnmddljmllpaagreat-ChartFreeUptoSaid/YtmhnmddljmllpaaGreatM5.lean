/-
  Parts of the proof, merged: ArgB, ArgC, ChartB, RatC, ChartD, ChartE, RefA, RatD, ChartF, ChartG.
-/
import Derived.Test.YtmhnmddljmllpaaGreatM4
import Derived.Below
import Derived.RowKit
import Derived.ChangeSame
set_option linter.unusedVariables false
set_option linter.unusedSimpArgs false
section
set_option linter.unusedVariables false
namespace Go.Abs
open Go.Num
variable {H : Type} {enc : TypeId × Value → H} {bulk : DataW H → Nat} {P : Program} {w : World} {α : Type}
theorem Opens.imp {t : TypeId} {e : α → List C} {ok ok' : Nat → α → Prop} (h : Opens enc bulk P w t e ok) (hi : ∀ n a, ok n a → ok' n a) : Opens enc bulk P w t e ok' := by
 intro fuel cs x hx
 obtain ⟨a, h1, h2⟩ := h fuel cs x hx
 exact ⟨a, hi _ _ h1, h2⟩
def okW (n : Nat) (l : List Nat) : Prop := l.length ≤ n ∧ WL l
def okR (n : Nat) (x : R) : Prop := rl x ≤ n ∧ WLR x
def okArc (n : Nat) (x : Arc) : Prop := okA n x
theorem okW_mono (n n' : Nat) (a : List Nat) (h : n ≤ n') (k : okW n a) : okW n' a := ⟨Nat.le_trans k.1 h, k.2⟩
theorem okR_mono (n n' : Nat) (a : R) (h : n ≤ n') (k : okR n a) : okR n' a := ⟨Nat.le_trans k.1 h, k.2⟩
theorem okArc_mono (n n' : Nat) (a : Arc) (h : n ≤ n') (k : okArc n a) : okArc n' a := ⟨k.1, Nat.le_trans k.2 h⟩
theorem okLs_mono {ok : Nat → α → Prop} (m : ∀ n n' a, n ≤ n' → ok n a → ok n' a) (n n' : Nat) (a : List α) (h : n ≤ n') (k : okLs ok n a) : okLs ok n' a := ⟨Nat.le_trans k.1 h, fun x hx => m _ _ _ h (k.2 x hx)⟩
theorem opens_ws {t u : TypeId} (B : Bk bulk) (ht : P.underlying t = some (.slice u)) (hu : P.underlying u = some (.int .u32)) (hc : P.cellsOf u = 1) : Opens enc bulk P w t (fun l : List Nat => [ws l]) okW := by
 have := opens_slice (enc := enc) (w := w) (e := wc) (ok := fun _ n => n < 4294967296) B ht (by omega) (fun a => by rw [hc]; rfl) (fun a c hc => by rw [wc_eq, List.mem_singleton] at hc; subst hc; exact .lit _) (fun _ _ _ _ h => h) (opens_u32 hu)
 exact this.imp fun n l h => ⟨h.1, fun x hx => h.2 x hx⟩
structure RatT (P : Program) (t : TypeId) : Prop where
 ex : ∃ f0 f1 f2 u : _, P.underlying t = some (.struct #[f0, f1, f2]) ∧ f0.offset = 0 ∧ f1.offset = 1 ∧ f2.offset = 2 ∧ P.cellsOf t = 3 ∧ P.cellsOf f0.type = 1 ∧ P.cellsOf f1.type = 1 ∧ P.cellsOf f2.type = 1 ∧
  P.underlying f0.type = some .bool ∧ P.underlying f1.type = some (.slice u) ∧ P.underlying f2.type = some (.slice u) ∧ P.underlying u = some (.int .u32) ∧ P.cellsOf u = 1
theorem opens_rat {t : TypeId} (B : Bk bulk) (h : RatT P t) : Opens enc bulk P w t (fun x : R => [cb x, cn x, cd x]) okR := by
 obtain ⟨f0, f1, f2, u, ht, o0, o1, o2, hs, c0, c1, c2, t0, t1, t2, hu, hc⟩ := h.ex
 have := opens_struct3 (enc := enc) (w := w) B ht o0 (by omega) (by omega) (by omega) (fun _ _ _ _ h => h) okW_mono okW_mono (opens_bool (enc := enc) (bulk := bulk) (w := w) t0) (opens_ws (enc := enc) (w := w) B t1 hu hc) (opens_ws (enc := enc) (w := w) B t2 hu hc)
 exact this.imp fun n x h => ⟨Nat.max_le.2 ⟨h.2.1.1, h.2.2.1⟩, h.2.1.2, h.2.2.2⟩
structure ArcT (P : Program) (t : TypeId) : Prop where
 ex : ∃ f0 f1 : Field, P.underlying t = some (.struct #[f0, f1]) ∧ f0.offset = 0 ∧ f1.offset = 3 ∧ P.cellsOf t = 6 ∧ P.cellsOf f0.type = 3 ∧ P.cellsOf f1.type = 3 ∧ RatT P f0.type ∧ RatT P f1.type
theorem opens_arc {t : TypeId} (B : Bk bulk) (h : ArcT P t) : Opens enc bulk P w t aC okArc := by
 obtain ⟨f0, f1, ht, o0, o1, hs, c0, c1, r0, r1⟩ := h.ex
 have := opens_struct2 (enc := enc) (w := w) B ht o0 (by omega) (by omega) okR_mono okR_mono (opens_rat (enc := enc) (w := w) B r0) (opens_rat (enc := enc) (w := w) B r1)
 exact this.imp fun n x h => ⟨⟨h.1.2, h.2.2⟩, Nat.max_le.2 ⟨h.1.1, h.2.1⟩⟩
structure ArcsT (P : Program) (t : TypeId) : Prop where
 ex : ∃ u, P.underlying t = some (.slice u) ∧ P.cellsOf u = 6 ∧ ArcT P u
theorem opens_arcs {t : TypeId} (B : Bk bulk) (h : ArcsT P t) : Opens enc bulk P w t (fun l : List Arc => [as l]) (okLs okArc) := by
 obtain ⟨u, ht, hc, hu⟩ := h.ex
 exact opens_slice (enc := enc) (w := w) (e := aC) B ht (by omega) (fun a => by rw [hc]; rfl) clean_aC okArc_mono (opens_arc B hu)
structure ArcssT (P : Program) (t : TypeId) : Prop where
 ex : ∃ u, P.underlying t = some (.slice u) ∧ P.cellsOf u = 1 ∧ ArcsT P u
theorem opens_arcss {t : TypeId} (B : Bk bulk) (h : ArcssT P t) : Opens enc bulk P w t (fun L : List (List Arc) => [.slice (L.map lC)]) (okLs (okLs okArc)) := by
 obtain ⟨u, ht, hc, hu⟩ := h.ex
 exact opens_slice (enc := enc) (w := w) (e := lC) B ht (by omega) (fun a => by rw [hc]; rfl) (fun a c hc => by rw [lC_eq, List.mem_singleton] at hc; subst hc; exact of_eq_true (clean_asc a)) (okLs_mono okArc_mono) (opens_arcs B hu)
theorem RL.inv1 {m : M} {I : Nat → Prop} {h : Array Obj} {c : C} {vs : List Value} (hr : RL m I h [c] vs) : ∃ v, vs = [v] ∧ RC m I h c v := by
 match vs, hr.1 with
 | [v], _ => exact ⟨v, rfl, hr.2 0 c v rfl rfl⟩
theorem ra_slice {r : Reach} {b0 : Nat} {t u : TypeId} {v : Value} {d : DataW H} {ps : List MemPlace} {e : α → List C} {c : α → C} {ok : Nat → α → Prop} (ht : P.underlying t = some (.slice u)) (hval : Value.okWide P w r b0 t v)
  (hd : DataW.Trod enc P w 0 (fun _ => true) true t v d ps) (ho : Opens enc bulk P w t (fun a => [c a]) ok) : ∃ a, ok (bulk d) a ∧ RA M0 (Old w) w.heap (.one (c a)) v := by
 obtain ⟨a, len, cap, rfl⟩ := Go.WideShapes.okWide_slice ht hval
 obtain ⟨fuel, hf⟩ := hd
 obtain ⟨x, hx, hr⟩ := ho _ _ _ hf
 obtain ⟨v, hv, hc⟩ := RL.inv1 hr
 simp [Value.cells] at hv
 subst hv
 exact ⟨x, hx, .one _ _ hc⟩
theorem ra_struct {r : Reach} {b0 : Nat} {t : TypeId} {fs : Array Field} {v : Value} {d : DataW H} {ps : List MemPlace} {e : α → List C} {ok : Nat → α → Prop} (ht : P.underlying t = some (.struct fs)) (hval : Value.okWide P w r b0 t v)
  (hd : DataW.Trod enc P w 0 (fun _ => true) true t v d ps) (ho : Opens enc bulk P w t e ok) : ∃ a, ok (bulk d) a ∧ RA M0 (Old w) w.heap (.agg (e a)) v := by
 obtain ⟨cs, rfl, _⟩ := Go.WideShapes.okWide_struct ht hval
 obtain ⟨fuel, hf⟩ := hd
 obtain ⟨x, hx, hr⟩ := ho _ _ _ hf
 have e : (Value.agg cs).cells.toList = cs.toList := by simp [Value.cells]
 rw [e] at hr
 refine ⟨x, hx, ?_⟩
 have : cs = ⟨cs.toList⟩ := by simp
 rw [this]
 exact .agg _ _ hr
theorem ra_int {r : Reach} {b0 : Nat} {t : TypeId} {v : Value} {d : DataW H} {ps : List MemPlace} (ht : P.underlying t = some (.int .i64)) (hval : Value.okWide P w r b0 t v)
  (hd : DataW.Trod enc P w 0 (fun _ => true) true t v d ps) : ∃ n : Int, (-9223372036854775808 ≤ n ∧ n ≤ 9223372036854775807) ∧ RA M0 (Old w) w.heap (.one (.lit (.int .i64 n))) v := by
 obtain ⟨n, rfl⟩ := Go.WideShapes.okWide_int ht hval
 obtain ⟨fuel, hf⟩ := hd
 obtain ⟨x, hx, hr⟩ := opens_i64 (enc := enc) (bulk := fun _ => 0) (w := w) ht _ _ _ hf
 obtain ⟨v, hv, hc⟩ := RL.inv1 hr
 simp [Value.cells] at hv
 subst hv
 exact ⟨x, hx, .one _ _ hc⟩
theorem Ret.below {w' : World} {I I' : Nat → Prop} (h : Ret w I w' I') : Go.RowKit.Below w.heap.size w w' := ⟨h.os, h.tape, h.out, h.grow, fun k hk => h.keep k hk⟩
theorem Ret.frozen {w' : World} {I I' : Nat → Prop} (h : Ret w I w' I') (a : Addr) : w'.frozen? a = w.frozen? a := by
 by_cases hb : a.block < w.heap.size
 ·exact h.below.frozen hb
 ·have e : w.heap[a.block]? = none := by simp; omega
  simp only [World.frozen?, e]
  split
  ·rename_i c t lo hi hw
   have := h.fz _ _ _ _ (Nat.not_lt.1 hb) hw
   simp only [Prod.mk.injEq] at this
   obtain ⟨rfl, rfl⟩ := this
   simp
  ·rfl
theorem law_calls {f : FuncId} {G : List AV → (AV → Prop) → Prop} {sc : Bool} {Γ : Nat → Spec} (hΓ : Holds P Γ) (hf : Γ f = .dat sc G) {as : List AV} {vals : List Value}
  (hr : RAs M0 (Old w) w.heap as vals) (hc : ∀ a ∈ as, CleanV a) (hG : G as (fun r => r = .one (.lit (.bool true)))) : Calls P f ⟨vals⟩ w fun e w' => e = .returned (.bool true) ∧ Go.RowKit.Below w.heap.size w w' ∧ ∀ a, w'.frozen? a = w.frozen? a := by
 have hs := hΓ f
 rw [hf] at hs
 refine (hs.2.2 as vals w (Old w) _ (fun b hb => hb) hr hc hG).mono fun e w' ⟨v, r, I', he, hK, hra, hcl, hret⟩ => ?_
 subst hK
 cases hra with
 | one c v hrc =>
  cases hrc with
  | lit v hv => exact ⟨he, hret.below, hret.frozen⟩
theorem RAs.nil {m : M} {I : Nat → Prop} {h : Array Obj} : RAs m I h [] [] := ⟨rfl, fun i a v hc => by simp at hc⟩
theorem RAs.cons {m : M} {I : Nat → Prop} {h : Array Obj} {a : AV} {v : Value} {l : List AV} {vs : List Value} (h1 : RA m I h a v) (h2 : RAs m I h l vs) : RAs m I h (a :: l) (v :: vs) :=
 ⟨by simp [h2.1], fun i a' v' ha hv => by
  cases i with
  | zero => simp at ha hv; subst ha hv; exact h1
  | succ i => exact h2.2 i a' v' (by simpa using ha) (by simpa using hv)⟩
end Go.Abs
end
section
set_option linter.unusedVariables false
namespace Go.Abs
open Go.Num
variable {P : Program}
def Gl : List (Nat × Spec) → Nat → Spec
 | [], _ => .none
 | (f, s) :: L, g => if g = f then s else Gl L g
theorem holds_nil : Holds P (Gl []) := fun f => trivial
theorem holds_cons {L : List (Nat × Spec)} {f : Nat} {s : Spec} (h : Holds P (Gl L)) (hs : Sound P f s) : Holds P (Gl ((f, s) :: L)) := by
 intro g
 unfold Gl
 split
 ·rename_i e; subst e; exact hs
 ·exact h g
theorem ret_refl {w : World} {I : Nat → Prop} (hI : ∀ b, I b → b < w.heap.size) : Ret w I w I :=
  { grow := Nat.le_refl _, keep := fun _ _ => rfl, sub := fun _ h => h, new := fun _ h => .inl h, imb := hI,
    fz := fun k c t f hk hc => absurd ((Array.getElem?_eq_some_iff.1 hc).1) (Nat.not_lt.2 hk), os := rfl, tape := rfl, out := rfl }
theorem sound_u32 {f : FuncId} {G : List AV → (AV → Prop) → Prop} {g : Int → Int} (hE : Enters P f) (hg : Good G)
  (hG : ∀ args K, G args K → ∃ n : Int, args = [.one (.lit (.int .u32 n))] ∧ 0 ≤ n ∧ n ≤ 4294967295 ∧ K (.one (.lit (.int .i64 (g n)))))
  (hc : ∀ (n : Int) (w : World), 0 ≤ n → n ≤ 4294967295 → Calls P f #[.int .u32 n] w fun e w' => e = .returned (.int .i64 (g n)) ∧ w' = w) : Sound P f (.dat true G) := by
 refine ⟨hE, hg, fun args vals w I K hI hr _ hGK => ?_⟩
 obtain ⟨n, rfl, h0, h1, hK⟩ := hG args K hGK
 match vals, hr.1 with
 | [v], _ =>
  have hv := hr.2 0 _ v rfl rfl
  cases hv with
  | one c v hv =>
   cases hv with
   | lit v hv =>
    refine (hc n w h0 h1).mono fun e w' ⟨he, hw⟩ => ?_
    subst hw
    exact ⟨_, _, I, he, hK, .one _ _ (.lit _ rfl), .lit _, ret_refl hI⟩
theorem lz_inv (args : List AV) (K : AV → Prop) (h : lz_G args K) : ∃ n : Int, args = [.one (.lit (.int .u32 n))] ∧ 0 ≤ n ∧ n ≤ 4294967295 ∧ K (.one (.lit (.int .i64 (32 - (Lib.bitLen n.toNat : Int))))) := by
 match args, h with
 | [a], h =>
  obtain ⟨k, n, rfl, rfl, h0, h1, hK⟩ := asInt_inv h
  exact ⟨n, rfl, h0, by omega, hK⟩
theorem len32_inv (args : List AV) (K : AV → Prop) (h : len32_G args K) : ∃ n : Int, args = [.one (.lit (.int .u32 n))] ∧ 0 ≤ n ∧ n ≤ 4294967295 ∧ K (.one (.lit (.int .i64 (Lib.bitLen n.toNat : Int)))) := by
 match args, h with
 | [a], h =>
  obtain ⟨k, n, rfl, rfl, h0, h1, hK⟩ := asInt_inv h
  exact ⟨n, rfl, h0, by omega, hK⟩
end Go.Abs
end
section
set_option linter.unusedVariables false
set_option linter.unusedSimpArgs false
set_option maxRecDepth 100000
namespace Go.Abs
open Go.Num
variable {P : Program} {Γ : Nat → Spec}
def ac_chart_norm_1 (f0 : Nat) : AC := (.seq (.ops false [.u 2 (.box 6 (.t 0)), .u 3 (.box 6 (.t 1)), .m 4 (.i 0)])
 (.fg [2, 3] (.seq (.ops false [.u 5 (.fa 0 (.t 2)), .u 6 (.ld none 3 true (.t 5)), .u 7 (.fa 0 (.t 3)), .u 8 (.ld none 3 true (.t 7)), .u 9 (.call f0 [(.t 6), (.t 8)]), .m 4 (.t 9)])
 .ret)))
def ac_slices_Clone_g : AC := (.seq (.ops false [.m 2 (.c (.one .emp))])
 (.fg [0] (.seq (.seq (.ops false [.m 3 (.t 0), .u 4 (.snil false (.t 3))])
 (.fg [0, 4] (.cond (.t 4) (.seq (.ops false [.m 2 (.c (.one .emp))])
 .ret) .skip)))
 (.fg [0] (.seq (.ops false [.m 5 (.c (.one .emp)), .m 6 (.t 0), .u 7 (.app0 6 (.t 5) (.t 6)), .m 2 (.t 7)])
 .ret)))))
def ac_slices_SortStableFunc_g (f0 : Nat) : AC := (.ops false [.m 4 (.t 0), .m 5 (.t 0), .u 6 (.len (.t 5)), .m 7 (.t 1), .u 8 (.call f0 [(.t 4), (.t 6), (.t 7)])])
def ac_slices_stableCmpFunc_g (f0 f1 : Nat) : AC := (.seq (.ops false [.m 6 (.i 20)])
 (.fg [0, 1, 2, 6] (.seq (.ops false [.m 10 (.t 6), .m 7 (.i 0), .m 8 (.t 10)])
 (.fg [0, 1, 2, 6, 7, 8] (.seq (.block 0 (.loop (.seq (.seq (.ops false [.m 11 (.t 8), .m 12 (.t 1), .u 13 (.bin .leq (.t 11) (.t 12))])
 (.fg [0, 1, 2, 6, 7, 8, 13] (.cond (.t 13) .skip (.exit 0))))
 (.fg [0, 1, 2, 6, 7, 8] (.block 1 (.seq (.ops false [.m 14 (.t 0), .m 15 (.t 7), .m 16 (.t 8), .m 17 (.t 2), .u 18 (.call f0 [(.t 14), (.t 15), (.t 16), (.t 17)])])
 (.fg [0, 1, 2, 6, 8] (.seq (.ops false [.m 19 (.t 8), .m 7 (.t 19)])
 (.fg [0, 1, 2, 6, 7, 8] (.ops false [.m 20 (.t 8), .m 21 (.t 6), .u 22 (.bin .add (.t 20) (.t 21)), .m 8 (.t 22)]))))))))))
 (.fg [0, 1, 2, 6, 7] (.seq (.ops false [.m 23 (.t 0), .m 24 (.t 7), .m 25 (.t 1), .m 26 (.t 2), .u 27 (.call f0 [(.t 23), (.t 24), (.t 25), (.t 26)])])
 (.fg [0, 1, 2, 6] (.block 2 (.loop (.seq (.seq (.ops false [.m 28 (.t 6), .m 29 (.t 1), .u 30 (.bin .lss (.t 28) (.t 29))])
 (.fg [0, 1, 2, 6, 30] (.cond (.t 30) .skip (.exit 2))))
 (.fg [0, 1, 2, 6] (.block 3 (.seq (.ops false [.m 31 (.t 6), .u 32 (.bin .mul (.i 2) (.t 31)), .m 7 (.i 0), .m 8 (.t 32)])
 (.fg [0, 1, 2, 6, 7, 8] (.seq (.block 4 (.loop (.seq (.seq (.ops false [.m 33 (.t 8), .m 34 (.t 1), .u 35 (.bin .leq (.t 33) (.t 34))])
 (.fg [0, 1, 2, 6, 7, 8, 35] (.cond (.t 35) .skip (.exit 4))))
 (.fg [0, 1, 2, 6, 7, 8] (.block 5 (.seq (.ops false [.m 36 (.t 0), .m 37 (.t 7), .m 38 (.t 7), .m 39 (.t 6), .u 40 (.bin .add (.t 38) (.t 39)), .m 41 (.t 8), .m 42 (.t 2), .u 43 (.call f1 [(.t 36), (.t 37), (.t 40), (.t 41), (.t 42)])])
 (.fg [0, 1, 2, 6, 8] (.seq (.ops false [.m 44 (.t 8), .m 7 (.t 44)])
 (.fg [0, 1, 2, 6, 7, 8] (.ops false [.m 45 (.t 8), .m 46 (.t 6), .u 47 (.bin .mul (.i 2) (.t 46)), .u 48 (.bin .add (.t 45) (.t 47)), .m 8 (.t 48)]))))))))))
 (.fg [0, 1, 2, 6, 7] (.seq (.seq (.ops false [.m 49 (.t 7), .m 50 (.t 6), .u 51 (.bin .add (.t 49) (.t 50)), .m 9 (.t 51)])
 (.fg [0, 1, 2, 6, 7, 9] (.seq (.ops false [.m 52 (.t 9), .m 53 (.t 1), .u 54 (.bin .lss (.t 52) (.t 53))])
 (.fg [0, 1, 2, 6, 7, 9, 54] (.cond (.t 54) (.ops false [.m 55 (.t 0), .m 56 (.t 7), .m 57 (.t 9), .m 58 (.t 1), .m 59 (.t 2), .u 60 (.call f1 [(.t 55), (.t 56), (.t 57), (.t 58), (.t 59)])]) .skip)))))
 (.fg [0, 1, 2, 6] (.ops false [.m 61 (.t 6), .u 62 (.bin .mul (.t 61) (.i 2)), .m 6 (.t 62)]))))))))))))))))))))
def ac_slices_insertionSortCmpFunc_g : AC := (.seq (.ops false [.m 10 (.t 1), .u 11 (.bin .add (.t 10) (.i 1)), .m 8 (.t 11)])
 (.fg [0, 1, 2, 3, 8] (.block 0 (.loop (.seq (.seq (.ops false [.m 12 (.t 8), .m 13 (.t 2), .u 14 (.bin .lss (.t 12) (.t 13))])
 (.fg [0, 1, 2, 3, 8, 14] (.cond (.t 14) .skip (.exit 0))))
 (.fg [0, 1, 2, 3, 8] (.seq (.block 1 (.seq (.ops false [.m 17 (.t 8), .m 9 (.t 17)])
 (.fg [0, 1, 2, 3, 8, 9] (.block 2 (.loop (.seq (.seq (.ops true [.m 18 (.t 9), .m 19 (.t 1), .u 20 (.bin .gtr (.t 18) (.t 19)), .m 21 (.t 20), .w 22 21 true (.mv (.t 3)), .w 23 21 true (.mv (.t 0)), .w 24 21 true (.mv (.t 9)), .w 25 21 true (.idx 6 (.t 23) (.t 24)), .w 26 21 true (.ld none 6 true (.t 25)), .w 27 21 true (.mv (.t 0)), .w 28 21 true (.mv (.t 9)), .w 29 21 true (.bin .sub (.t 28) (.i 1)), .w 30 21 true (.idx 6 (.t 27) (.t 29)), .w 31 21 true (.ld none 6 true (.t 30)), .w 32 21 true (.callv (.t 22) [(.t 26), (.t 31)]), .w 33 21 true (.bin .lss (.t 32) (.i 0)), .u 34 (.pick (.t 21) (.t 33) .fa)])
 (.fg [0, 1, 2, 3, 8, 9, 34] (.cond (.t 34) .skip (.exit 2))))
 (.fg [0, 1, 2, 3, 8, 9] (.seq (.block 3 (.ops true [.m 37 (.t 0), .m 38 (.t 9), .m 39 (.t 0), .m 40 (.t 9), .u 41 (.bin .sub (.t 40) (.i 1)), .m 42 (.t 0), .m 43 (.t 9), .u 44 (.bin .sub (.t 43) (.i 1)), .u 45 (.idx 6 (.t 42) (.t 44)), .u 46 (.ld none 6 true (.t 45)), .m 47 (.t 0), .m 48 (.t 9), .u 49 (.idx 6 (.t 47) (.t 48)), .u 50 (.ld none 6 true (.t 49)), .u 51 (.idx 6 (.t 37) (.t 38)), .n (.st none 6 (.t 51) (.t 46)), .u 52 (.idx 6 (.t 39) (.t 41)), .n (.st none 6 (.t 52) (.t 50))]))
 (.fg [0, 1, 2, 3, 8, 9] (.ops false [.m 35 (.t 9), .u 36 (.bin .sub (.t 35) (.i 1)), .m 9 (.t 36)]))))))))))
 (.fg [0, 1, 2, 3, 8] (.ops false [.m 15 (.t 8), .u 16 (.bin .add (.t 15) (.i 1)), .m 8 (.t 16)])))))))))
theorem arccmp_sound (hΓ : Holds P Γ) {f fc : Nat} (hc' : Γ fc = .dat true rcmp_G) (hc : check P f = some (10, (ac_chart_norm_1 fc).strip, [.tmp 4])) : Sound P f (.dat true arccmp_G) := by
 refine sound_dat hc arccmp_good hΓ (fun args K hcl hfi hG => ?_)
 match args, hG with
 | [a, b], hG =>
  obtain ⟨x, rfl, hx, y, rfl, hy, hl, hl', hK⟩ := hG
  refine ⟨by simp, ?_⟩
  simp only [go_sem, ac_chart_norm_1, hc', aC_eq]
  exact ⟨hx.1, hy.1, Nat.le_trans (Nat.le_max_left _ _) hl, Nat.le_trans (Nat.le_max_left _ _) hl', hK⟩
theorem clone_sound (hΓ : Holds P Γ) {f : Nat} (hc : check P f = some (8, ac_slices_Clone_g.strip, [.tmp 2])) : Sound P f (.fresh 6 clone_G) := by
 refine sound_fresh hc clone_good hΓ (fun args K hcl hfi hG => ?_)
 match args, hG with
 | [a], hG =>
  obtain ⟨l, ha, hl, hlen, hK⟩ := hG
  refine ⟨by simp, ?_⟩
  rcases ha with rfl | rfl | ⟨rfl, h0⟩
  ·simp only [go_sem, ac_slices_Clone_g, as]
   exact ⟨fun h => by rw [h] at hK; exact hK, hlen, hK⟩
  ·simp only [go_sem, ac_slices_Clone_g, as]
   exact ⟨fun h => by rw [h] at hK; exact hK, hlen, hK⟩
  ·subst h0
   simp only [go_sem, ac_slices_Clone_g, as]
   exact ⟨hK, by simp, hK⟩
theorem ins_sound (hΓ : Holds P Γ) {f fc : Nat} (hcm : Γ fc = .dat true arccmp_G) (hc : check P f = some (53, ac_slices_insertionSortCmpFunc_g.strip, [])) : Sound P f (.own (ins_G fc)) := by
 refine sound_own hc hΓ (fun d args h K hG => ?_)
 unfold ins_G at hG
 split at hG
 case h_2 => exact hG.elim
 rename_i r ver len a b c
 obtain ⟨pre, seg, post, rfl, rfl, rfl, hlen, hlen2, hroom, hr, hok, hK⟩ := hG
 obtain ⟨T, hT⟩ : ∃ T, T = pre.length + seg.length + post.length := ⟨_, rfl⟩
 refine ⟨[r], [⟨(pre ++ seg ++ post).map aC, 6, true⟩], [.one (.own 1048576 ver 6 0 len), .one (.lit (.int .i64 pre.length)), .one (.lit (.int .i64 (pre.length + seg.length : Nat))), fnV fc], by simp, rfl, ?_, ?_, ?_, fun hfi => ⟨by simp, ?_⟩⟩
 ·intro i r' b h1 h2
  cases i with
  | zero => simp only [List.getElem?_cons_zero, Option.some.injEq] at h1 h2; subst h1 h2; exact ⟨by rw [hr], rfl, of_eq_true (clean_as _)⟩
  | succ i => simp at h1
 ·simp [exA, exC, exB, nameOf, pinA, fnV]
 ·intro a ha
  simp only [List.mem_cons, List.not_mem_nil, or_false] at ha
  rcases ha with rfl | rfl | rfl | rfl
  ·simp [pasA, pasC, pasB, nameOf, pinA]
  ·exact .lit _
  ·exact .lit _
  ·exact .lit _
 simp only [go_sem, ac_slices_insertionSortCmpFunc_g, hr, fnV]
 refine ⟨by omega, ?_⟩
 refine wpA_loop (fun p : Nat × List Arc => ⟨mkV [(0, .one (.own 1048576 ver 6 0 len)), (1, .one (.lit (.int .i64 pre.length))), (2, .one (.lit (.int .i64 (pre.length + seg.length : Nat)))), (3, .one (.lit (.func (.func fc) ⟨[]⟩ ⟨[]⟩))), (8, .one (.lit (.int .i64 (pre.length + p.1 : Nat))))], mkH [(1048576, ⟨ver, some ⟨(pre ++ p.2 ++ post).map aC, 6, true⟩⟩)]⟩)
  (fun p => 1 ≤ p.1 ∧ (p.1 ≤ seg.length ∨ p.1 = 1) ∧ seg.Perm p.2 ∧ SortA (p.2.take p.1)) (fun p => seg.length - p.1) (1, seg) ?_ ?_ ?_
 ·exact weak_lit (by simp [okS, okV, okC, okL, okH, okB, okE, mkV_cons, mkV_nil, mkH_cons, mkH_nil, wsA, ws]) (okH_a rfl)
 ·refine ⟨Nat.le_refl _, .inr rfl, List.Perm.refl _, ?_⟩
  simp only
  rcases seg with _ | ⟨x, l⟩
  ·exact List.Pairwise.nil
  ·simp [SortA]
 ·rintro ⟨i, s⟩ ⟨hi1, hi, hp, hs⟩
  simp only at hi1 hi hp hs
  have hsl := hp.length_eq
  simp only [go_sem, hr]
  refine ⟨fun hlt => ?_, fun hge => ?_⟩
  ·have his : i < s.length := by omega
   refine wpA_loop (fun p : List Arc × Arc × List Arc × List Arc => ⟨mkV [(0, .one (.own 1048576 ver 6 0 len)), (1, .one (.lit (.int .i64 pre.length))), (2, .one (.lit (.int .i64 (pre.length + seg.length : Nat)))), (3, .one (.lit (.func (.func fc) ⟨[]⟩ ⟨[]⟩))), (8, .one (.lit (.int .i64 (pre.length + i : Nat)))), (9, .one (.lit (.int .i64 (pre.length + p.1.length : Nat))))], mkH [(1048576, ⟨ver, some ⟨(pre ++ (p.1 ++ p.2.1 :: (p.2.2.1 ++ p.2.2.2)) ++ post).map aC, 6, true⟩⟩)]⟩)
    (fun p => p.1.length + p.2.2.1.length = i ∧ seg.Perm (p.1 ++ p.2.1 :: (p.2.2.1 ++ p.2.2.2)) ∧ SortA (p.1 ++ p.2.2.1) ∧ ∀ y ∈ p.2.2.1, rv p.2.1.1 < rv y.1) (fun p => p.1.length) (s.take i, s.getD i a0, [], s.drop (i + 1)) ?_ ?_ ?_
   ·have e : s.take i ++ s.getD i a0 :: ([] ++ s.drop (i + 1)) = s := by
     rw [List.getD_eq_getElem?_getD, List.getElem?_eq_getElem his, Option.getD_some, List.nil_append, List.getElem_cons_drop, List.take_append_drop]
    exact weak_lit (by simp [okS, okV, okC, okL, okH, okB, okE, mkV_cons, mkV_nil, mkH_cons, mkH_nil, wsA, ws]; omega) (okH_a (by simp only [e]))
   ·have e : s.take i ++ s.getD i a0 :: ([] ++ s.drop (i + 1)) = s := by
     rw [List.getD_eq_getElem?_getD, List.getElem?_eq_getElem his, Option.getD_some, List.nil_append, List.getElem_cons_drop, List.take_append_drop]
    exact ⟨by simp; omega, by simp only [e]; exact hp, by simpa using hs, by simp⟩
   ·rintro ⟨u, x, v, w⟩ ⟨hiu, hpu, hsu, hxv⟩
    simp only at hiu hpu hsu hxv
    have hul := hpu.length_eq
    simp only [List.length_append, List.length_cons] at hul
    have hok2 := okAs_perm hpu hok
    rcases List.eq_nil_or_concat u with rfl | ⟨u', y, rfl⟩
    ·simp only [go_sem, hr, hcm, Nat.add_zero, Nat.lt_irrefl]
     refine ⟨by omega, (i + 1, x :: (v ++ w)), weak_lit (by simp [okS, okV, okC, okL, okH, okB, okE, mkV_cons, mkV_nil, mkH_cons, mkH_nil, wsA, ws]; omega) (okH_a rfl), ⟨by simp only; omega, .inl (by simp only; omega), hpu, ?_⟩, by simp only; omega⟩
     simp only [List.length_nil, Nat.zero_add] at hiu
     simp only [List.take_succ_cons]
     rw [← hiu, List.take_left]
     exact sort_cons hsu hxv
    ·rw [List.concat_eq_append] at *
     obtain ⟨k, hk⟩ : ∃ k, k = pre.length + u'.length := ⟨_, rfl⟩
     have hL : (pre ++ (u' ++ [y] ++ x :: (v ++ w)) ++ post).length = T := by
      simp only [List.length_append, List.length_cons] at *; omega
     have gx := gmid pre (u' ++ [y]) (v ++ w) post x a0
     have gy := gmid1 pre u' (v ++ w) post x y a0
     have sw := smid pre u' (v ++ w) post x y
     have e0 : pre.length + (u' ++ [y]).length = k + 1 := by simp; omega
     have ek : ((k + 1 : Nat) : Int) - 1 = (k : Int) := by omega
     rw [e0] at gx
     rw [← hk] at gy sw
     have hkl : k + 1 < len := by
      simp only [List.length_append, List.length_cons] at hL hul
      simp only [List.length_append] at e0
      omega
     have hkT : k + 1 < T := by omega
     have ox := hok2 x (by simp)
     have oy := hok2 y (by simp)
     have hpk : pre.length < k + 1 := by omega
     simp only [go_sem, hr, hcm, e0, ek, hL, gx, gy, sw, List.length_set, hkl, hpk, hkT, Nat.lt_of_succ_lt hkl, Nat.lt_of_succ_lt hkT, ox.1, oy.1, ox.2, oy.2, ordQ_lt]
     refine ⟨by omega, fun hxy => ⟨by omega, by omega, by omega, (u', x, y :: v, w), weak_lit (by simp [okS, okV, okC, okL, okH, okB, okE, mkV_cons, mkV_nil, mkH_cons, mkH_nil, wsA, ws]; omega) (okH_a (by simp)), ⟨by simp only [List.length_cons]; simp at hiu; omega, ?_, by simpa using hsu, ?_⟩, by simp⟩, fun hxy => ⟨by omega, (i + 1, u' ++ [y] ++ x :: (v ++ w)), weak_lit (by simp [okS, okV, okC, okL, okH, okB, okE, mkV_cons, mkV_nil, mkH_cons, mkH_nil, wsA, ws]; omega) (okH_a rfl), ⟨by simp only; omega, .inl (by simp only; omega), hpu, ?_⟩, by simp only; omega⟩⟩
     ·simp only
      refine hpu.trans ?_
      have e1 : u' ++ [y] ++ x :: (v ++ w) = u' ++ (y :: x :: (v ++ w)) := by simp
      have e2 : u' ++ x :: (y :: v ++ w) = u' ++ (x :: y :: (v ++ w)) := by simp
      rw [e1, e2]
      exact List.Perm.append_left _ (List.Perm.swap _ _ _)
     ·intro z hz
      rcases List.mem_cons.1 hz with rfl | hz
      ·exact hxy
      ·exact hxv z hz
     ·simp only
      have e : (u' ++ [y] ++ x :: (v ++ w)).take (i + 1) = u' ++ [y] ++ x :: v := by
       have : u' ++ [y] ++ x :: (v ++ w) = (u' ++ [y] ++ x :: v) ++ w := by simp
       rw [this, ← hiu]
       have h2 : (u' ++ [y]).length + v.length + 1 = (u' ++ [y] ++ x :: v).length := by simp; omega
       rw [h2, List.take_left]
      rw [e]
      exact sort_mid hsu (Rat.not_lt.1 hxy) hxv
  ·have e : s.take i = s := List.take_of_length_le (by omega)
   rw [e] at hs
   exact hK s hp hs
theorem stab20_sound (hΓ : Holds P Γ) {f fi fm fc : Nat} (hi : Γ fi = .own (ins_G fc)) (hc : check P f = some (63, (ac_slices_stableCmpFunc_g fi fm).strip, [])) : Sound P f (.own (stab_G fc 20)) := by
 refine sound_own hc hΓ (fun d args h K hG => ?_)
 unfold stab_G at hG
 split at hG
 case h_2 => exact hG.elim
 rename_i r ver len n c
 obtain ⟨rfl, l, post, rfl, rfl, hlen, hr, hok, hK⟩ := hG
 refine ⟨[r], [⟨(l ++ post).map aC, 6, true⟩], [.one (.own 1048576 ver 6 0 l.length), .one (.lit (.int .i64 l.length)), fnV fc], by simp, rfl, ?_, ?_, ?_, fun hfi => ⟨by simp, ?_⟩⟩
 ·intro i r' b h1 h2
  cases i with
  | zero => simp only [List.getElem?_cons_zero, Option.some.injEq] at h1 h2; subst h1 h2; exact ⟨by rw [hr], rfl, of_eq_true (clean_as _)⟩
  | succ i => simp at h1
 ·simp [exA, exC, exB, nameOf, pinA, fnV]
 ·intro a ha
  simp only [List.mem_cons, List.not_mem_nil, or_false] at ha
  rcases ha with rfl | rfl | rfl
  ·simp [pasA, pasC, pasB, nameOf, pinA]
  ·exact .lit _
  ·exact .lit _
 simp only [go_sem, ac_slices_stableCmpFunc_g, hr, fnV, hi]
 refine wpA_loop (fun p : Nat × List Arc => ⟨mkV [(0, .one (.own 1048576 ver 6 0 l.length)), (1, .one (.lit (.int .i64 l.length))), (2, .one (.lit (.func (.func fc) ⟨[]⟩ ⟨[]⟩))), (6, .one (.lit (.int .i64 20))), (7, .one (.lit (.int .i64 (20 * p.1 : Nat)))), (8, .one (.lit (.int .i64 (20 * p.1 + 20 : Nat))))], mkH [(1048576, ⟨ver, some ⟨(p.2 ++ post).map aC, 6, true⟩⟩)]⟩)
  (fun p => (p.1 = 0 ∨ (p.1 = 1 ∧ l.length = 20 ∧ SortA p.2)) ∧ l.Perm p.2) (fun p => 2 - p.1) (0, l) ?_ ?_ ?_
 ·exact weak_lit (by simp [okS, okV, okC, okL, okH, okB, okE, mkV_cons, mkV_nil, mkH_cons, mkH_nil, wsA, ws]) (okH_a rfl)
 ·exact ⟨.inl rfl, List.Perm.refl _⟩
 ·rintro ⟨k, s⟩ ⟨hk, hp⟩
  simp only at hk hp
  have hsl := hp.length_eq
  have hok2 := okAs_perm hp hok
  simp only [go_sem, hr, hi]
  refine ⟨fun hle => ?_, fun hgt => ?_⟩
  ·obtain rfl : k = 0 := by omega
   simp only [ins_G]
   refine ⟨[], s, post, rfl, by simp, by simp; omega, by simp; omega, by simp; omega, by omega, by simp [mkH_cons], hok2, fun s' hp' hs' => ?_⟩
   simp only [go_sem, hr, hi]
   refine ⟨by omega, (1, s'), weak_lit (by simp [okS, okV, okC, okL, okH, okB, okE, mkV_cons, mkV_nil, mkH_cons, mkH_nil, wsA, ws]) (okH_a rfl), ⟨.inr ⟨rfl, by omega, hs'⟩, hp.trans hp'⟩, by simp⟩
  ·simp only [ins_G]
   rcases hk with rfl | ⟨rfl, hl20, hs⟩
   ·refine ⟨[], s, post, rfl, by simp, by simp; omega, by simp; omega, by simp; omega, by omega, by simp [mkH_cons], hok2, fun s' hp' hs' => ?_⟩
    simp only [go_sem, hr, hi]
    refine wpA_loop (fun p : Unit => ⟨mkV [(0, .one (.own 1048576 ver 6 0 l.length)), (1, .one (.lit (.int .i64 l.length))), (2, .one (.lit (.func (.func fc) ⟨[]⟩ ⟨[]⟩))), (6, .one (.lit (.int .i64 20)))], mkH [(1048576, ⟨ver, some ⟨(s' ++ post).map aC, 6, true⟩⟩)]⟩)
     (fun _ => True) (fun _ => 0) () ?_ ?_ ?_
    ·exact weak_lit (by simp [okS, okV, okC, okL, okH, okB, okE, mkV_cons, mkV_nil, mkH_cons, mkH_nil, wsA, ws]) (okH_a (by simp))
    ·trivial
    ·rintro _ _
     simp only [go_sem, hr, hi]
     exact ⟨fun h => by omega, fun _ => hK _ (hp.trans hp') hs'⟩
   ·refine ⟨s, [], post, rfl, by simp; omega, by simp; omega, by simp; omega, by simp; omega, by omega, by simp [mkH_cons], by simp [okAs], fun s'' hp'' hs'' => ?_⟩
    obtain rfl : s'' = [] := hp''.symm.eq_nil
    have hs' := hs
    have hp' := List.Perm.refl s
    obtain ⟨s', rfl⟩ : ∃ s', s' = s := ⟨s, rfl⟩
    simp only [go_sem, hr, hi]
    refine wpA_loop (fun p : Unit => ⟨mkV [(0, .one (.own 1048576 ver 6 0 l.length)), (1, .one (.lit (.int .i64 l.length))), (2, .one (.lit (.func (.func fc) ⟨[]⟩ ⟨[]⟩))), (6, .one (.lit (.int .i64 20)))], mkH [(1048576, ⟨ver, some ⟨(s' ++ post).map aC, 6, true⟩⟩)]⟩)
     (fun _ => True) (fun _ => 0) () ?_ ?_ ?_
    ·exact weak_lit (by simp [okS, okV, okC, okL, okH, okB, okE, mkV_cons, mkV_nil, mkH_cons, mkH_nil, wsA, ws]) (okH_a (by simp))
    ·trivial
    ·rintro _ _
     simp only [go_sem, hr, hi]
     exact ⟨fun h => by omega, fun _ => hK _ (hp.trans hp') hs'⟩
theorem sort_sound (hΓ : Holds P Γ) {f fs fc m : Nat} (hs : Γ fs = .own (stab_G fc m)) (hc : check P f = some (9, (ac_slices_SortStableFunc_g fs).strip, [])) : Sound P f (.own (sort_G fc m)) := by
 refine sound_own hc hΓ (fun d args h K hG => ?_)
 unfold sort_G at hG
 split at hG
 case h_2 => exact hG.elim
 rename_i r ver len c
 obtain ⟨l, post, rfl, rfl, hlen, hr, hok, hK⟩ := hG
 refine ⟨[r], [⟨(l ++ post).map aC, 6, true⟩], [.one (.own 1048576 ver 6 0 l.length), fnV fc], by simp, rfl, ?_, ?_, ?_, fun hfi => ⟨by simp, ?_⟩⟩
 ·intro i r' b h1 h2
  cases i with
  | zero => simp only [List.getElem?_cons_zero, Option.some.injEq] at h1 h2; subst h1 h2; exact ⟨by rw [hr], rfl, of_eq_true (clean_as _)⟩
  | succ i => simp at h1
 ·simp [exA, exC, exB, nameOf, pinA, fnV]
 ·intro a ha
  simp only [List.mem_cons, List.not_mem_nil, or_false] at ha
  rcases ha with rfl | rfl
  ·simp [pasA, pasC, pasB, nameOf, pinA]
  ·exact .lit _
 simp only [go_sem, ac_slices_SortStableFunc_g, hr, fnV, hs]
 refine fun _ => ?_
 simp only [stab_G, sort_G]
 refine ⟨by simp, l, post, rfl, rfl, hlen, by simp [mkH_cons], hok, fun l' h1 h2 => ?_⟩
 simp only [go_sem, hr]
 exact hK l' h1 h2
end Go.Abs
end
section
set_option linter.unusedVariables false
set_option linter.unusedSimpArgs false
set_option maxRecDepth 100000
namespace Go.Abs
open Go.Num
variable {P : Program} {Γ : Nat → Spec}
def ac_fraction_Valid (f0 f1 f2 f3 : Nat) : AC := (.seq (.ops false [.u 1 (.box 3 (.t 0)), .m 2 .fa])
 (.fg [1] (.seq (.seq (.ops false [.u 5 (.fa 1 (.t 1)), .u 6 (.ld none 1 false (.t 5)), .u 7 (.len (.t 6)), .u 8 (.bin .eql (.t 7) (.i 0)), .m 9 (.t 8), .w 10 9 true (.fa 2 (.t 1)), .w 11 9 true (.ld none 1 false (.t 10)), .w 12 9 true (.len (.t 11)), .w 13 9 true (.bin .eql (.t 12) (.i 0)), .u 14 (.pick (.t 9) (.t 13) .fa)])
 (.fg [1, 14] (.cond (.t 14) (.seq (.ops false [.u 15 (.fa 0 (.t 1)), .u 16 (.ld none 1 false (.t 15)), .u 17 (.un .not (.t 16)), .m 2 (.t 17)])
 .ret) .skip)))
 (.fg [1] (.seq (.ops true [.u 18 (.fa 1 (.t 1)), .u 19 (.ld (some 1) 1 false (.t 18)), .u 20 (.build [.z [(.lit (.bool false))], .x 1 (.t 19)]), .u 21 (.fa 2 (.t 1)), .u 22 (.ld (some 1) 1 false (.t 21)), .u 23 (.build [.z [(.lit (.bool false))], .x 1 (.t 22)]), .u 3 (.alloc [(.lit (.bool false)), .emp]), .u 4 (.alloc [(.lit (.bool false)), .emp]), .n (.st (some 3) 2 (.t 3) (.t 20)), .n (.st (some 4) 2 (.t 4) (.t 23))])
 (.fg [1, 3, 4] (.seq (.seq (.ops false [.u 24 (.fa 1 (.t 1)), .u 25 (.ld none 1 false (.t 24)), .u 26 (.len (.t 25)), .u 27 (.bin .eql (.t 26) (.i 0)), .m 28 (.t 27), .w 29 28 false (.fa 2 (.t 1)), .w 30 28 false (.ld none 1 false (.t 29)), .w 31 28 false (.len (.t 30)), .w 32 28 false (.bin .eql (.t 31) (.i 0)), .u 33 (.pick (.t 28) .tr (.t 32)), .m 34 (.t 33), .w 35 34 false (.ld none 2 true (.t 3)), .w 36 34 false (.call f0 [(.t 35)]), .w 37 34 false (.un .not (.t 36)), .u 38 (.pick (.t 34) .tr (.t 37)), .m 39 (.t 38), .w 40 39 false (.ld none 2 true (.t 4)), .w 41 39 false (.call f0 [(.t 40)]), .w 42 39 false (.un .not (.t 41)), .u 43 (.pick (.t 39) .tr (.t 42))])
 (.fg [3, 4, 43] (.cond (.t 43) (.seq (.ops false [.m 2 .fa])
 .ret) .skip)))
 (.fg [3, 4] (.seq (.ops false [.u 44 (.ld none 2 true (.t 3)), .u 45 (.ld none 2 true (.t 4)), .u 46 (.call f1 [(.t 44), (.t 45)]), .u 47 (.call f2 []), .u 48 (.call f3 [(.t 46), (.t 47)]), .u 49 (.bin .eql (.t 48) (.i 0)), .m 2 (.t 49)])
 .ret)))))))))
def ac_fraction_Parts (f0 f1 : Nat) : AC := (.seq (.ops false [.u 1 (.box 3 (.t 0)), .u 2 (.alloc [(.lit (.bool false)), .emp]), .u 3 (.alloc [(.lit (.bool false)), .emp])])
 (.fg [1, 2, 3] (.seq (.seq (.ops false [.u 4 (.ld none 3 true (.t 1)), .u 5 (.call f0 [(.t 4)]), .u 6 (.un .not (.t 5)), .m 7 (.t 6), .w 8 7 false (.fa 1 (.t 1)), .w 9 7 false (.ld none 1 false (.t 8)), .w 10 7 false (.len (.t 9)), .w 11 7 false (.bin .eql (.t 10) (.i 0)), .u 12 (.pick (.t 7) .tr (.t 11))])
 (.fg [1, 2, 3, 12] (.cond (.t 12) (.seq (.ops false [.u 13 (.build [.z [(.lit (.bool false)), .emp]]), .u 14 (.call f1 []), .n (.st none 2 (.t 2) (.t 13)), .n (.st none 2 (.t 3) (.t 14))])
 .ret) .skip)))
 (.fg [1, 2, 3] (.seq (.ops true [.u 15 (.fa 0 (.t 1)), .u 16 (.ld none 1 false (.t 15)), .m 17 (.c (.one .emp)), .u 18 (.fa 1 (.t 1)), .u 19 (.ld none 1 false (.t 18)), .u 20 (.app0 1 (.t 17) (.t 19)), .u 21 (.build [.x 1 (.t 16), .x 1 (.t 20)]), .n (.st none 2 (.t 2) (.t 21))])
 (.fg [1, 2, 3] (.seq (.ops true [.u 22 (.ld none 2 true (.t 2)), .m 23 (.c (.one .emp)), .u 24 (.fa 2 (.t 1)), .u 25 (.ld none 1 false (.t 24)), .u 26 (.app0 1 (.t 23) (.t 25)), .u 27 (.build [.z [(.lit (.bool false))], .x 1 (.t 26)]), .n (.st none 2 (.t 2) (.t 22)), .n (.st none 2 (.t 3) (.t 27))])
 .ret)))))))
def ac_fraction_form (f0 f1 f2 f3 : Nat) : AC := (.seq (.ops false [.u 2 (.box 2 (.t 0)), .u 3 (.box 2 (.t 1)), .u 4 (.alloc [(.lit (.bool false)), .emp, .emp])])
 (.fg [2, 3, 4] (.seq (.seq (.ops false [.u 7 (.ld none 2 true (.t 2)), .u 8 (.call f0 [(.t 7)]), .u 9 (.bin .eql (.t 8) (.i 0))])
 (.fg [2, 3, 4, 9] (.cond (.t 9) (.seq (.ops false [.u 10 (.build [.z [(.lit (.bool false)), .emp, .emp]]), .n (.st none 3 (.t 4) (.t 10))])
 .ret) .skip)))
 (.fg [2, 3, 4] (.seq (.seq (.ops false [.u 11 (.ld none 2 true (.t 3)), .u 12 (.call f0 [(.t 11)]), .u 13 (.bin .lss (.t 12) (.i 0))])
 (.fg [2, 3, 4, 13] (.cond (.t 13) (.ops true [.u 14 (.ld none 2 true (.t 2)), .u 15 (.call f1 [(.t 14)]), .u 16 (.ld none 2 true (.t 3)), .u 17 (.call f1 [(.t 16)]), .n (.st none 2 (.t 2) (.t 15)), .n (.st none 2 (.t 3) (.t 17))]) .skip)))
 (.fg [2, 3, 4] (.seq (.ops false [.u 18 (.ld none 2 true (.t 2)), .u 19 (.ld none 2 true (.t 3)), .u 20 (.call f2 [(.t 18), (.t 19)]), .u 5 (.alloc [(.lit (.bool false)), .emp]), .n (.st none 2 (.t 5) (.t 20))])
 (.fg [2, 3, 4, 5] (.seq (.ops false [.u 21 (.ld none 2 true (.t 2)), .u 22 (.call f0 [(.t 21)]), .u 23 (.bin .lss (.t 22) (.i 0)), .m 6 (.t 23)])
 (.fg [2, 3, 4, 5, 6] (.seq (.seq (.ops false [.m 24 (.t 6)])
 (.fg [2, 3, 4, 5, 6, 24] (.cond (.t 24) (.ops false [.u 25 (.ld none 2 true (.t 2)), .u 26 (.call f1 [(.t 25)]), .n (.st none 2 (.t 2) (.t 26))]) .skip)))
 (.fg [2, 3, 4, 5, 6] (.seq (.ops false [.u 28 (.ld none 2 true (.t 2)), .u 29 (.ld none 2 true (.t 5)), .u 30 (.call f3 [(.t 28), (.t 29)]), .m 27 (.t 30), .u 31 (.ext 0 (.t 27)), .u 32 (.ext 1 (.t 27)), .u 33 (.ext 2 (.t 27)), .n (.st none 2 (.t 2) (.t 31))])
 (.fg [2, 3, 4, 5, 6] (.seq (.ops false [.u 35 (.ld none 2 true (.t 3)), .u 36 (.ld none 2 true (.t 5)), .u 37 (.call f3 [(.t 35), (.t 36)]), .m 34 (.t 37), .u 38 (.ext 0 (.t 34)), .u 39 (.ext 1 (.t 34)), .u 40 (.ext 2 (.t 34)), .n (.st none 2 (.t 3) (.t 38))])
 (.fg [2, 3, 4, 6] (.seq (.ops false [.m 41 (.t 6), .u 42 (.fa 1 (.t 2)), .u 43 (.ld none 1 false (.t 42)), .u 44 (.fa 1 (.t 3)), .u 45 (.ld none 1 false (.t 44)), .u 46 (.build [.x 1 (.t 41), .x 1 (.t 43), .x 1 (.t 45)]), .n (.st none 3 (.t 4) (.t 46))])
 .ret)))))))))))))))))
def ac_fraction_one (f0 : Nat) : AC := (.seq (.ops false [.u 0 (.alloc [(.lit (.bool false)), .emp])])
 (.fg [0] (.seq (.ops false [.u 1 (.call f0 [(.i 1)]), .n (.st none 2 (.t 0) (.t 1))])
 .ret)))
def ac_fraction_Of (f0 f1 f2 : Nat) : AC := (.seq (.ops false [.u 2 (.alloc [(.lit (.bool false)), .emp, .emp])])
 (.fg [0, 2] (.seq (.ops false [.m 3 (.t 0), .u 4 (.call f0 [(.t 3)]), .u 5 (.call f1 []), .u 6 (.call f2 [(.t 4), (.t 5)]), .n (.st none 3 (.t 2) (.t 6))])
 .ret)))
def ac_fraction_Neg (f0 f1 f2 : Nat) : AC := (.seq (.ops false [.u 1 (.box 3 (.t 0)), .u 2 (.alloc [(.lit (.bool false)), .emp, .emp])])
 (.fg [1, 2] (.seq (.ops false [.u 6 (.ld none 3 true (.t 1)), .u 7 (.call f0 [(.t 6)]), .m 5 (.t 7), .u 8 (.ext 0 (.t 5)), .u 9 (.ext 1 (.t 5)), .u 3 (.alloc [(.lit (.bool false)), .emp]), .u 4 (.alloc [(.lit (.bool false)), .emp]), .n (.st none 2 (.t 3) (.t 8)), .n (.st none 2 (.t 4) (.t 9))])
 (.fg [2, 3, 4] (.seq (.ops true [.u 10 (.ld none 2 true (.t 3)), .u 11 (.call f1 [(.t 10)]), .u 12 (.ld none 2 true (.t 4)), .u 13 (.call f2 [(.t 11), (.t 12)]), .n (.st none 3 (.t 2) (.t 13))])
 .ret)))))
def ac_fraction_Sign (f0 f1 : Nat) : AC := (.seq (.ops false [.u 1 (.box 3 (.t 0)), .m 2 (.i 0)])
 (.fg [1] (.seq (.ops false [.u 6 (.ld none 3 true (.t 1)), .u 7 (.call f0 [(.t 6)]), .m 5 (.t 7), .u 8 (.ext 0 (.t 5)), .u 9 (.ext 1 (.t 5)), .u 3 (.alloc [(.lit (.bool false)), .emp]), .u 4 (.alloc [(.lit (.bool false)), .emp]), .n (.st none 2 (.t 3) (.t 8)), .n (.st none 2 (.t 4) (.t 9))])
 (.fg [3] (.seq (.ops false [.u 10 (.ld none 2 true (.t 3)), .u 11 (.call f1 [(.t 10)]), .m 2 (.t 11)])
 .ret)))))
def ac_fraction_Cmp (f0 f1 f2 : Nat) : AC := (.seq (.ops false [.u 2 (.box 3 (.t 0)), .u 3 (.box 3 (.t 1)), .m 4 (.i 0)])
 (.fg [2, 3] (.seq (.ops false [.u 10 (.ld none 3 true (.t 2)), .u 11 (.call f0 [(.t 10)]), .m 9 (.t 11), .u 12 (.ext 0 (.t 9)), .u 13 (.ext 1 (.t 9)), .u 5 (.alloc [(.lit (.bool false)), .emp]), .u 6 (.alloc [(.lit (.bool false)), .emp]), .n (.st none 2 (.t 5) (.t 12)), .n (.st none 2 (.t 6) (.t 13))])
 (.fg [3, 5, 6] (.seq (.ops false [.u 15 (.ld none 3 true (.t 3)), .u 16 (.call f0 [(.t 15)]), .m 14 (.t 16), .u 17 (.ext 0 (.t 14)), .u 18 (.ext 1 (.t 14)), .u 7 (.alloc [(.lit (.bool false)), .emp]), .u 8 (.alloc [(.lit (.bool false)), .emp]), .n (.st none 2 (.t 7) (.t 17)), .n (.st none 2 (.t 8) (.t 18))])
 (.fg [5, 6, 7, 8] (.seq (.ops true [.u 19 (.ld none 2 true (.t 5)), .u 20 (.ld none 2 true (.t 8)), .u 21 (.call f1 [(.t 19), (.t 20)]), .u 22 (.ld none 2 true (.t 7)), .u 23 (.ld none 2 true (.t 6)), .u 24 (.call f1 [(.t 22), (.t 23)]), .u 25 (.call f2 [(.t 21), (.t 24)]), .m 4 (.t 25)])
 .ret)))))))
def ac_fraction_Add (f0 f1 f2 f3 : Nat) : AC := (.seq (.ops false [.u 2 (.box 3 (.t 0)), .u 3 (.box 3 (.t 1)), .u 4 (.alloc [(.lit (.bool false)), .emp, .emp])])
 (.fg [2, 3, 4] (.seq (.ops false [.u 10 (.ld none 3 true (.t 2)), .u 11 (.call f0 [(.t 10)]), .m 9 (.t 11), .u 12 (.ext 0 (.t 9)), .u 13 (.ext 1 (.t 9)), .u 5 (.alloc [(.lit (.bool false)), .emp]), .u 6 (.alloc [(.lit (.bool false)), .emp]), .n (.st none 2 (.t 5) (.t 12)), .n (.st none 2 (.t 6) (.t 13))])
 (.fg [3, 4, 5, 6] (.seq (.ops false [.u 15 (.ld none 3 true (.t 3)), .u 16 (.call f0 [(.t 15)]), .m 14 (.t 16), .u 17 (.ext 0 (.t 14)), .u 18 (.ext 1 (.t 14)), .u 7 (.alloc [(.lit (.bool false)), .emp]), .u 8 (.alloc [(.lit (.bool false)), .emp]), .n (.st none 2 (.t 7) (.t 17)), .n (.st none 2 (.t 8) (.t 18))])
 (.fg [4, 5, 6, 7, 8] (.seq (.ops true [.u 19 (.ld none 2 true (.t 5)), .u 20 (.ld none 2 true (.t 8)), .u 21 (.call f1 [(.t 19), (.t 20)]), .u 22 (.ld none 2 true (.t 7)), .u 23 (.ld none 2 true (.t 6)), .u 24 (.call f1 [(.t 22), (.t 23)]), .u 25 (.call f2 [(.t 21), (.t 24)]), .u 26 (.ld none 2 true (.t 6)), .u 27 (.ld none 2 true (.t 8)), .u 28 (.call f1 [(.t 26), (.t 27)]), .u 29 (.call f3 [(.t 25), (.t 28)]), .n (.st none 3 (.t 4) (.t 29))])
 .ret)))))))
def ac_fraction_Sub (f0 f1 : Nat) : AC := (.seq (.ops false [.u 2 (.box 3 (.t 0)), .u 3 (.box 3 (.t 1)), .u 4 (.alloc [(.lit (.bool false)), .emp, .emp])])
 (.fg [2, 3, 4] (.seq (.ops true [.u 5 (.ld none 3 true (.t 2)), .u 6 (.ld none 3 true (.t 3)), .u 7 (.call f0 [(.t 6)]), .u 8 (.call f1 [(.t 5), (.t 7)]), .n (.st none 3 (.t 4) (.t 8))])
 .ret)))
def ac_fraction_Max (f0 f1 f2 : Nat) : AC := (.seq (.ops false [.u 2 (.box 3 (.t 0)), .u 3 (.box 3 (.t 1)), .u 4 (.alloc [(.lit (.bool false)), .emp, .emp])])
 (.fg [2, 3, 4] (.seq (.seq (.ops false [.u 5 (.ld none 3 true (.t 2)), .u 6 (.ld none 3 true (.t 3)), .u 7 (.call f0 [(.t 5), (.t 6)]), .u 8 (.bin .geq (.t 7) (.i 0))])
 (.fg [2, 3, 4, 8] (.cond (.t 8) (.seq (.ops false [.u 9 (.ld none 3 true (.t 2)), .u 10 (.call f1 [(.t 9)]), .u 11 (.ext 0 (.t 10)), .u 12 (.ext 1 (.t 10)), .u 13 (.call f2 [(.t 11), (.t 12)]), .n (.st none 3 (.t 4) (.t 13))])
 .ret) .skip)))
 (.fg [3, 4] (.seq (.ops false [.u 14 (.ld none 3 true (.t 3)), .u 15 (.call f1 [(.t 14)]), .u 16 (.ext 0 (.t 15)), .u 17 (.ext 1 (.t 15)), .u 18 (.call f2 [(.t 16), (.t 17)]), .n (.st none 3 (.t 4) (.t 18))])
 .ret)))))
def ac_fraction_Min (f0 f1 f2 : Nat) : AC := (.seq (.ops false [.u 2 (.box 3 (.t 0)), .u 3 (.box 3 (.t 1)), .u 4 (.alloc [(.lit (.bool false)), .emp, .emp])])
 (.fg [2, 3, 4] (.seq (.seq (.ops false [.u 5 (.ld none 3 true (.t 2)), .u 6 (.ld none 3 true (.t 3)), .u 7 (.call f0 [(.t 5), (.t 6)]), .u 8 (.bin .leq (.t 7) (.i 0))])
 (.fg [2, 3, 4, 8] (.cond (.t 8) (.seq (.ops false [.u 9 (.ld none 3 true (.t 2)), .u 10 (.call f1 [(.t 9)]), .u 11 (.ext 0 (.t 10)), .u 12 (.ext 1 (.t 10)), .u 13 (.call f2 [(.t 11), (.t 12)]), .n (.st none 3 (.t 4) (.t 13))])
 .ret) .skip)))
 (.fg [3, 4] (.seq (.ops false [.u 14 (.ld none 3 true (.t 3)), .u 15 (.call f1 [(.t 14)]), .u 16 (.ext 0 (.t 15)), .u 17 (.ext 1 (.t 15)), .u 18 (.call f2 [(.t 16), (.t 17)]), .n (.st none 3 (.t 4) (.t 18))])
 .ret)))))
def ac_fraction_Floor (f0 f1 : Nat) : AC := (.seq (.ops false [.u 1 (.box 3 (.t 0)), .u 2 (.alloc [(.lit (.bool false)), .emp])])
 (.fg [1, 2] (.seq (.ops false [.u 9 (.ld none 3 true (.t 1)), .u 10 (.call f0 [(.t 9)]), .m 8 (.t 10), .u 11 (.ext 0 (.t 8)), .u 12 (.ext 1 (.t 8)), .u 3 (.alloc [(.lit (.bool false)), .emp]), .u 4 (.alloc [(.lit (.bool false)), .emp]), .n (.st none 2 (.t 3) (.t 11)), .n (.st none 2 (.t 4) (.t 12))])
 (.fg [2, 3, 4] (.seq (.ops false [.u 14 (.ld none 2 true (.t 3)), .u 15 (.ld none 2 true (.t 4)), .u 16 (.call f1 [(.t 14), (.t 15)]), .m 13 (.t 16), .u 17 (.ext 0 (.t 13)), .u 18 (.ext 1 (.t 13)), .u 19 (.ext 2 (.t 13)), .u 5 (.alloc [(.lit (.bool false)), .emp]), .u 6 (.alloc [(.lit (.bool false)), .emp]), .n (.st none 2 (.t 5) (.t 17)), .n (.st none 2 (.t 6) (.t 18)), .m 7 (.t 19)])
 (.fg [2, 5] (.seq (.ops false [.u 20 (.ld none 2 true (.t 5)), .n (.st none 2 (.t 2) (.t 20))])
 .ret)))))))
def ac_fraction_From (f0 f1 tE : Nat) : AC := (.seq (.ops false [.u 2 (.box 2 (.t 0)), .u 3 (.box 2 (.t 1)), .u 4 (.alloc [(.lit (.bool false)), .emp, .emp]), .m 5 (.c (.one (.lit .nilIface)))])
 (.fg [2, 3, 4] (.seq (.seq (.ops false [.u 6 (.ld none 2 true (.t 3)), .u 7 (.call f0 [(.t 6)]), .u 8 (.bin .eql (.t 7) (.i 0))])
 (.fg [2, 3, 4, 8] (.cond (.t 8) (.seq (.ops false [.u 9 (.build [.z [(.lit (.bool false)), .emp, .emp]]), .u 10 (.iface tE (.i 8)), .n (.st none 3 (.t 4) (.t 9)), .m 5 (.t 10)])
 .ret) .skip)))
 (.fg [2, 3, 4] (.seq (.ops false [.u 11 (.ld none 2 true (.t 2)), .u 12 (.ld none 2 true (.t 3)), .u 13 (.call f1 [(.t 11), (.t 12)]), .n (.st none 3 (.t 4) (.t 13)), .m 5 (.c (.one (.lit .nilIface)))])
 .ret)))))
theorem sign_lt {n : Int} : n.sign < 0 ↔ n < 0 := by
 rcases Int.lt_trichotomy n 0 with h | h | h
 ·rw [Int.sign_eq_neg_one_of_neg h]; omega
 ·subst h; simp
 ·rw [Int.sign_eq_one_of_pos h]; omega
theorem form_cells {n d N D : Int} {g : Nat} {m : Bool} (hd : d ≠ 0) (hn : n ≠ 0) (hN : 0 ≤ N) (hD : 0 ≤ D) (e1 : N.natAbs = n.natAbs) (e2 : D.natAbs = d.natAbs) (eg : g = Int.gcd n d) (em : m = decide (d.sign * n < 0)) :
  AV.agg [.lit (.bool m), zm (zcan (N / (g : Int))), zm (zcan (D / (g : Int)))] = .agg [cb (rcan (Rat.divInt n d)), cn (rcan (Rat.divInt n d)), cd (rcan (Rat.divInt n d))] := by
 obtain ⟨N', rfl⟩ := Int.eq_ofNat_of_zero_le hN
 obtain ⟨D', rfl⟩ := Int.eq_ofNat_of_zero_le hD
 simp only [Int.natAbs_natCast] at e1 e2
 subst e1 e2 eg em
 rw [cb_eq, cn_eq, cd_eq, rcan_divInt hd hn, zm_eq, zm_eq]
 simp only [zcan]
 rw [← Int.natCast_ediv, ← Int.natCast_ediv]
 simp only [Int.natAbs_natCast]
theorem zs_gcd {v w : Int} {s : Nat} (h : w ≠ 0) (hw : zs w ≤ s) : zs ((Int.gcd v w : Nat) : Int) ≤ s := by
 refine Nat.le_trans (zs_mono ?_) hw
 simp only [Int.natAbs_natCast]
 exact Nat.le_of_dvd (by omega) (Int.gcd_dvd_natAbs_right _ _)
theorem ordI_zero {a b : Int} : ordI a b = 0 ↔ a = b := by unfold ordI; split <;> (try split) <;> omega
theorem vldW_f {l : List Nat} (h : l ≠ []) : vldW (false, l) = decide (NZ l) := by unfold vldW; rw [if_neg h]
theorem zv_f {l : List Nat} (h : NZ l) : zv (false, l) = (val l : Int) := by
 unfold zv
 by_cases e : l = []
 ·subst e; simp [vldW]
 ·rw [vldW_f e]; simp [h]
theorem rone_sound (hΓ : Holds P Γ) {f fo : Nat} (ho : Γ fo = .dat false zof_G) (hc : check P f = some (2, (ac_fraction_one fo).strip, [.cell 0 2 true])) : Sound P f (.dat false rone_G) := by
 refine sound_dat hc rone_good hΓ (fun args K hcl hfi hG => ?_)
 match args, hG with
 | [], hG =>
  have hK := hG
  simp only [rone_G] at hK
  refine ⟨by simp, ?_⟩
  simp only [go_sem, ac_fraction_one, ho]
  refine ⟨by omega, by omega, hK⟩
theorem rvalid_sound (hΓ : Holds P Γ) {f fv fg fo fc : Nat} (hv : Γ fv = .dat true zvalid_G) (hg : Γ fg = .dat false zgcd_G) (ho : Γ fo = .dat false rone_G) (hc' : Γ fc = .dat true zcmp_G) (hc : check P f = some (50, (ac_fraction_Valid fv fg fo fc).strip, [.tmp 2])) : Sound P f (.dat true rvalid_G) := by
 refine sound_dat hc rvalid_good hΓ (fun args K hcl hfi hG => ?_)
 match args, hG with
 | [a], hG =>
  obtain ⟨x, rfl, hx, hl, hK⟩ := hG
  refine ⟨by simp, ?_⟩
  simp only [go_sem, ac_fraction_Valid, hv, hg, ho, hc', cb_eq, cn_eq, cd_eq]
  have hl1 : x.2.1.length ≤ 4294967296 := Nat.le_trans (Nat.le_max_left _ _) hl
  have hl2 : x.2.2.length ≤ 4294967296 := Nat.le_trans (Nat.le_max_right _ _) hl
  have key : x.2.1 ≠ [] → x.2.2 ≠ [] → WL x.2.1 ∧ (vldW (false, x.2.1) = true → WL x.2.2 ∧ (vldW (false, x.2.2) = true → WL x.2.1 ∧ WL x.2.2 ∧ zs (zv (false, x.2.1)) ≤ 17179869184 ∧ zs (zv (false, x.2.2)) ≤ 17179869184 ∧
    K (AV.one (C.lit (Value.bool (decide (ordI (((zv (false, x.2.1)).gcd (zv (false, x.2.2)) : Nat) : Int) 1 = 0)))))) ∧ (vldW (false, x.2.2) = false → K (AV.one (C.lit (Value.bool false))))) ∧ (vldW (false, x.2.1) = false → K (AV.one (C.lit (Value.bool false)))) := by
   intro hn hd
   unfold vldR at hK
   rw [if_neg (fun e => hn e.1)] at hK
   rw [vldW_f hn, vldW_f hd]
   refine ⟨hx.1, fun h1 => ⟨hx.2, fun h2 => ⟨hx.1, hx.2, ?_, ?_, ?_⟩, fun h2 => ?_⟩, fun h1 => ?_⟩
   ·rw [zv_f (of_decide_eq_true h1), zs_nat, digs_val hx.1 (of_decide_eq_true h1)]; omega
   ·rw [zv_f (of_decide_eq_true h2), zs_nat, digs_val hx.2 (of_decide_eq_true h2)]; omega
   ·rw [zv_f (of_decide_eq_true h1), zv_f (of_decide_eq_true h2)]
    have e : decide (ordI (((((val x.2.1 : Nat) : Int)).gcd ((val x.2.2 : Nat) : Int) : Nat) : Int) 1 = 0) = decide (x.2.1 ≠ [] ∧ x.2.2 ≠ [] ∧ NZ x.2.1 ∧ NZ x.2.2 ∧ Nat.gcd (val x.2.1) (val x.2.2) = 1) := by
     rw [decide_eq_decide, ordI_zero, Int.gcd_natCast_natCast]
     have h1' := of_decide_eq_true h1
     have h2' := of_decide_eq_true h2
     constructor
     ·intro h; exact ⟨hn, hd, h1', h2', by omega⟩
     ·rintro ⟨_, _, _, _, h⟩; omega
    rw [e]; exact hK
   ·rw [decide_eq_false (fun h => of_decide_eq_false h2 h.2.2.2.1)] at hK; exact hK
   ·rw [decide_eq_false (fun h => of_decide_eq_false h1 h.2.2.1)] at hK; exact hK
  have e0 : ∀ {l : List Nat}, ¬ l.length = 0 → l ≠ [] := fun h e => h (by rw [e]; rfl)
  have key0 : ¬ (x.2.1 = [] ∧ x.2.2 = []) → (x.2.1 = [] ∨ x.2.2 = []) → K (AV.one (C.lit (Value.bool false))) := by
   intro h1 h2
   unfold vldR at hK
   rw [if_neg h1, decide_eq_false (fun h => h2.elim h.1 h.2.1)] at hK
   exact hK
  refine fun _ => ⟨fun hn _ => ⟨fun hd => ?_, fun hd _ => ⟨fun h => ?_, fun h => absurd hn h⟩⟩, fun hn _ => ⟨fun h => absurd h hn, fun _ _ => ⟨fun hd => ?_, fun hd => key (e0 hn) (e0 hd)⟩⟩⟩
  ·unfold vldR at hK
   rw [if_pos ⟨List.eq_nil_of_length_eq_zero hn, List.eq_nil_of_length_eq_zero hd⟩] at hK; exact hK
  ·exact key0 (fun h => e0 hd h.2) (.inl (List.eq_nil_of_length_eq_zero hn))
  ·exact key0 (fun h => e0 hn h.1) (.inr (List.eq_nil_of_length_eq_zero hd))
theorem rparts_sound (hΓ : Holds P Γ) {f fv fo : Nat} (hv : Γ fv = .dat true rvalid_G) (ho : Γ fo = .dat false rone_G) (hc : check P f = some (28, (ac_fraction_Parts fv fo).strip, [.cell 2 2 true, .cell 3 2 true])) : Sound P f (.dat false rparts_G) := by
 refine sound_dat hc rparts_good hΓ (fun args K hcl hfi hG => ?_)
 match args, hG with
 | [a], hG =>
  obtain ⟨x, rfl, hx, hl, hK⟩ := hG
  refine ⟨by simp, ?_⟩
  simp only [go_sem, ac_fraction_Parts, hv, ho, cb_eq, cn_eq, cd_eq]
  have hl1 : x.2.1.length ≤ 4294967296 := Nat.le_trans (Nat.le_max_left _ _) hl
  have hl2 : x.2.2.length ≤ 4294967296 := Nat.le_trans (Nat.le_max_right _ _) hl
  have e0 : (zcan 0) = (false, []) := by simp [zcan, digs_zero]
  have h0 : rv x = 0 → K (AV.tup [AV.agg [C.lit (Value.bool false), C.slice []], AV.agg [zb (zcan 1), zm (zcan 1)]]) := by
   intro h
   rw [h] at hK
   have e1 : ((0 : Rat).num) = 0 := rfl
   have e2 : ((0 : Rat).den : Int) = 1 := rfl
   rw [e1, e2, e0] at hK; exact hK
  refine ⟨hx, hl, fun hv _ => ⟨fun hn => h0 ?_, fun hn => ⟨by omega, by omega, ?_⟩⟩, fun hv => h0 (rv_nvld hv)⟩
  ·unfold rv; rw [if_pos hv, List.eq_nil_of_length_eq_zero hn]; simp [val, sg]
  ·obtain ⟨p1, p2, p3, p4, p5, p6⟩ := rv_parts hx hv (fun e => hn (by rw [e]; rfl))
   have hn0 := val_pos_of_NZ p4 (fun e => hn (by rw [e]; rfl))
   rw [p1, p2] at hK
   have e1 : zcan (sg x.1 (val x.2.1)) = (x.1, x.2.1) := by
    rw [← can_sg, digs_val hx.1 p4]
    have : decide (0 < x.2.1.length) = true := by simp only [decide_eq_true_eq]; omega
    rw [this, Bool.and_true]
   have e2 : zcan ((val x.2.2 : Nat) : Int) = (false, x.2.2) := by
    have := can_sg false (val x.2.2)
    rw [digs_val hx.2 p5, Bool.false_and] at this
    exact this.symm
   rw [e1, e2] at hK; exact hK
theorem rform_sound (hΓ : Holds P Γ) {f fs fn fg fd : Nat} (hs : Γ fs = .dat true zsign_G) (hn : Γ fn = .dat false zneg_G) (hg : Γ fg = .dat false zgcd_G) (hd : Γ fd = .dat false zdiv_G) (hc : check P f = some (47, (ac_fraction_form fs fn fg fd).strip, [.cell 4 3 true])) : Sound P f (.dat false rform_G) := by
 refine sound_dat hc rform_good hΓ (fun args K hcl hfi hG => ?_)
 match args, hG with
 | [a, b], hG =>
  obtain ⟨v, rfl, hv, w, rfl, hw, hz, hz', h0, hK⟩ := hG
  refine ⟨by simp, ?_⟩
  simp only [go_sem, ac_fraction_form, hs, hn, hg, hd, hv, hw]
  generalize zv v = n at *
  generalize zv w = d at *
  have hd0 := h0
  refine ⟨fun h => ?_, fun h => ?_⟩
  ·rw [Int.sign_eq_zero_iff_zero.1 h, Rat.zero_divInt, rcan_zero] at hK; exact hK
  have hn0 : n ≠ 0 := fun e => h (by rw [e]; rfl)
  have hg0 : ((Int.gcd n d : Nat) : Int) ≠ 0 := by
   have := Int.gcd_pos_of_ne_zero_left d hn0; omega
  have hgz : zs ((Int.gcd n d : Nat) : Int) ≤ 17179869184 := zs_gcd hd0 hz'
  simp only [Int.gcd_neg, Int.neg_gcd, zs_neg, sign_lt]
  refine ⟨fun hdn => ⟨by omega, by omega, hz, hz', fun hnn => ⟨by omega, hz, hgz, hg0, hz', hgz, hg0, ?_⟩, fun hnn => ⟨hz, hgz, hg0, hz', hgz, hg0, ?_⟩⟩, fun hdn => ⟨hz, hz', fun hnn => ⟨by omega, hz, hgz, hg0, hz', hgz, hg0, ?_⟩, fun hnn => ⟨hz, hgz, hg0, hz', hgz, hg0, ?_⟩⟩⟩
  ·rw [form_cells hd0 hn0 (by omega) (by omega) (by omega) (by omega) rfl (by rw [decide_eq_decide, Int.sign_eq_neg_one_of_neg hdn]; omega)]; exact hK
  ·rw [form_cells hd0 hn0 (by omega) (by omega) (by omega) (by omega) rfl (by rw [decide_eq_decide, Int.sign_eq_neg_one_of_neg hdn]; omega)]; exact hK
  ·rw [form_cells hd0 hn0 (by omega) (by omega) (by omega) (by omega) rfl (by rw [decide_eq_decide, Int.sign_eq_one_of_pos (by omega)]; omega)]; exact hK
  ·rw [form_cells hd0 hn0 (by omega) (by omega) (by omega) (by omega) rfl (by rw [decide_eq_decide, Int.sign_eq_one_of_pos (by omega)]; omega)]; exact hK
theorem rof_sound (hΓ : Holds P Γ) {f fo fn ff : Nat} (ho : Γ fo = .dat false zof_G) (hn : Γ fn = .dat false rone_G) (hf : Γ ff = .dat false rform_G) (hc : check P f = some (7, (ac_fraction_Of fo fn ff).strip, [.cell 2 3 true])) : Sound P f (.dat false rof_G) := by
 refine sound_dat hc rof_good hΓ (fun args K hcl hfi hG => ?_)
 match args, hG with
 | [a], hG =>
  obtain ⟨k, n, rfl, rfl, hn1, hn2, hK⟩ := asInt_inv hG
  refine ⟨by simp, ?_⟩
  simp only [go_sem, ac_fraction_Of, ho, hn, hf]
  have e : Rat.divInt n 1 = (n : Rat) := Rat.num_divInt_den (n : Rat)
  rw [e]
  have h1 : zs 1 ≤ 2 := zs_of (by decide)
  have h2 : zs n ≤ 2 := zs_of (by omega)
  exact ⟨hn1, hn2, by omega, by omega, by decide, hK⟩
theorem rneg_sound (hΓ : Holds P Γ) {f fp fn ff : Nat} (hp : Γ fp = .dat false rparts_G) (hn : Γ fn = .dat false zneg_G) (hf : Γ ff = .dat false rform_G) (hc : check P f = some (14, (ac_fraction_Neg fp fn ff).strip, [.cell 2 3 true])) : Sound P f (.dat false rneg_G) := by
 refine sound_dat hc rneg_good hΓ (fun args K hcl hfi hG => ?_)
 match args, hG with
 | [a], hG =>
  obtain ⟨x, rfl, hx, hl, hK⟩ := hG
  refine ⟨by simp, ?_⟩
  simp only [go_sem, ac_fraction_Neg, hp, hn, hf, hx]
  have n1 := num_le hx
  have d1 := den_le hx
  rw [neg_parts, zs_neg]
  exact ⟨hl, by omega, by omega, by omega, den_ne _, hK⟩
theorem rsign_sound (hΓ : Holds P Γ) {f fp fs : Nat} (hp : Γ fp = .dat false rparts_G) (hs : Γ fs = .dat true zsign_G) (hc : check P f = some (12, (ac_fraction_Sign fp fs).strip, [.tmp 2])) : Sound P f (.dat true rsign_G) := by
 refine sound_dat hc rsign_good hΓ (fun args K hcl hfi hG => ?_)
 match args, hG with
 | [a], hG =>
  obtain ⟨x, rfl, hx, hl, hK⟩ := hG
  refine ⟨by simp, ?_⟩
  simp only [go_sem, ac_fraction_Sign, hp, hs, hx]
  rw [← ordQ_zero]
  exact ⟨hl, hK⟩
theorem rcmp_sound (hΓ : Holds P Γ) {f fp fm fc : Nat} (hp : Γ fp = .dat false rparts_G) (hm : Γ fm = .dat false zmul_G) (hc' : Γ fc = .dat true zcmp_G) (hc : check P f = some (26, (ac_fraction_Cmp fp fm fc).strip, [.tmp 4])) : Sound P f (.dat true rcmp_G) := by
 refine sound_dat hc rcmp_good hΓ (fun args K hcl hfi hG => ?_)
 match args, hG with
 | [a, b], hG =>
  obtain ⟨x, rfl, hx, y, rfl, hy, hl, hl', hK⟩ := hG
  refine ⟨by simp, ?_⟩
  simp only [go_sem, ac_fraction_Cmp, hp, hm, hc', hx, hy]
  have n1 := num_le hx
  have d1 := den_le hx
  have n2 := num_le hy
  have d2 := den_le hy
  rw [← ordQ_eq]
  exact ⟨hl, hl', by omega, by omega, by omega, by omega, hK⟩
theorem radd_sound (hΓ : Holds P Γ) {f fp fm fa ff : Nat} (hp : Γ fp = .dat false rparts_G) (hm : Γ fm = .dat false zmul_G) (ha : Γ fa = .dat false zadd_G) (hf : Γ ff = .dat false rform_G) (hc : check P f = some (30, (ac_fraction_Add fp fm fa ff).strip, [.cell 4 3 true])) : Sound P f (.dat false radd_G) := by
 refine sound_dat hc radd_good hΓ (fun args K hcl hfi hG => ?_)
 match args, hG with
 | [a, b], hG =>
  obtain ⟨x, rfl, hx, y, rfl, hy, hl, hl', hK⟩ := hG
  refine ⟨by simp, ?_⟩
  simp only [go_sem, ac_fraction_Add, hp, hm, ha, hf, hx, hy]
  have n1 := num_le hx
  have d1 := den_le hx
  have n2 := num_le hy
  have d2 := den_le hy
  rw [Int.natCast_mul, add_parts]
  have m1 := zs_mul (rv x).num (rv y).den
  have m2 := zs_mul (rv y).num (rv x).den
  have m3 := zs_mul ((rv x).den : Int) (rv y).den
  have a1 := zs_add ((rv x).num * (rv y).den) ((rv y).num * (rv x).den)
  exact ⟨hl, hl', by omega, by omega, by omega, by omega, by omega, by omega, by omega, by omega, by omega, by omega, Int.mul_ne_zero (den_ne _) (den_ne _), hK⟩
theorem rsub_sound (hΓ : Holds P Γ) {f fn fa : Nat} (hn : Γ fn = .dat false rneg_G) (ha : Γ fa = .dat false radd_G) (hc : check P f = some (9, (ac_fraction_Sub fn fa).strip, [.cell 4 3 true])) : Sound P f (.dat false rsub_G) := by
 refine sound_dat hc rsub_good hΓ (fun args K hcl hfi hG => ?_)
 match args, hG with
 | [a, b], hG =>
  obtain ⟨x, rfl, hx, y, rfl, hy, hl, hl', hK⟩ := hG
  refine ⟨by simp, ?_⟩
  simp only [go_sem, ac_fraction_Sub, hn, ha, hx, hy]
  rw [← Rat.sub_eq_add_neg, rz_neg]
  exact ⟨hl', hl, Nat.le_trans (rz_rv hy) hl', hK⟩
theorem rmax_sound (hΓ : Holds P Γ) {f fc fp ff : Nat} (hc' : Γ fc = .dat true rcmp_G) (hp : Γ fp = .dat false rparts_G) (hf : Γ ff = .dat false rform_G) (hc : check P f = some (19, (ac_fraction_Max fc fp ff).strip, [.cell 4 3 true])) : Sound P f (.dat false rmax_G) := by
 refine sound_dat hc rmax_good hΓ (fun args K hcl hfi hG => ?_)
 match args, hG with
 | [a, b], hG =>
  obtain ⟨x, rfl, hx, y, rfl, hy, hl, hl', hK⟩ := hG
  refine ⟨by simp, ?_⟩
  simp only [go_sem, ac_fraction_Max, hc', hp, hf, hx, hy]
  have n1 := num_le hx
  have d1 := den_le hx
  have n2 := num_le hy
  have d2 := den_le hy
  rw [Rat.num_divInt_den, Rat.num_divInt_den, ordQ_ge]
  refine ⟨hl, hl', fun h => ⟨hl, by omega, by omega, den_ne _, ?_⟩, fun h => ⟨hl', by omega, by omega, den_ne _, ?_⟩⟩
  ·rw [if_pos h] at hK; exact hK
  ·rw [if_neg h] at hK; exact hK
theorem rmin_sound (hΓ : Holds P Γ) {f fc fp ff : Nat} (hc' : Γ fc = .dat true rcmp_G) (hp : Γ fp = .dat false rparts_G) (hf : Γ ff = .dat false rform_G) (hc : check P f = some (19, (ac_fraction_Min fc fp ff).strip, [.cell 4 3 true])) : Sound P f (.dat false rmin_G) := by
 refine sound_dat hc rmin_good hΓ (fun args K hcl hfi hG => ?_)
 match args, hG with
 | [a, b], hG =>
  obtain ⟨x, rfl, hx, y, rfl, hy, hl, hl', hK⟩ := hG
  refine ⟨by simp, ?_⟩
  simp only [go_sem, ac_fraction_Min, hc', hp, hf, hx, hy]
  have n1 := num_le hx
  have d1 := den_le hx
  have n2 := num_le hy
  have d2 := den_le hy
  rw [Rat.num_divInt_den, Rat.num_divInt_den, ordQ_le]
  refine ⟨hl, hl', fun h => ⟨hl, by omega, by omega, den_ne _, ?_⟩, fun h => ⟨hl', by omega, by omega, den_ne _, ?_⟩⟩
  ·rw [if_pos h] at hK; exact hK
  ·rw [if_neg h] at hK; exact hK
theorem rfloor_sound (hΓ : Holds P Γ) {f fp fd : Nat} (hp : Γ fp = .dat false rparts_G) (hd : Γ fd = .dat false zdiv_G) (hc : check P f = some (21, (ac_fraction_Floor fp fd).strip, [.cell 2 2 true])) : Sound P f (.dat false rfloor_G) := by
 refine sound_dat hc rfloor_good hΓ (fun args K hcl hfi hG => ?_)
 match args, hG with
 | [a], hG =>
  obtain ⟨x, rfl, hx, hl, hK⟩ := hG
  refine ⟨by simp, ?_⟩
  simp only [go_sem, ac_fraction_Floor, hp, hd, hx]
  have n1 := num_le hx
  have d1 := den_le hx
  rw [floor_parts]
  exact ⟨hl, by omega, by omega, den_ne _, hK⟩
theorem rfrom_sound (hΓ : Holds P Γ) {f fs ff tE : Nat} (hs : Γ fs = .dat true zsign_G) (hf : Γ ff = .dat false rform_G) (hc : check P f = some (14, (ac_fraction_From fs ff tE).strip, [.cell 4 3 true, .tmp 5])) : Sound P f (.dat false rfrom_G) := by
 refine sound_dat hc rfrom_good hΓ (fun args K hcl hfi hG => ?_)
 match args, hG with
 | [a, b], hG =>
  obtain ⟨v, rfl, hv, w, rfl, hw, hz, hz', h0, hK⟩ := hG
  refine ⟨by simp, ?_⟩
  simp only [go_sem, ac_fraction_From, hs, hf, hv, hw]
  exact ⟨fun e => absurd (Int.sign_eq_zero_iff_zero.1 e) h0, fun _ => ⟨hz, hz', h0, hK⟩⟩
end Go.Abs
end
section
set_option linter.unusedVariables false
set_option linter.unusedSimpArgs false
set_option maxRecDepth 100000
namespace Go.Abs
open Go.Num
variable {P : Program} {Γ : Nat → Spec}
def ac_chart_own (f0 : Nat) : AC := (.seq (.ops false [.u 2 (.box 3 (.t 0)), .u 3 (.box 3 (.t 1)), .u 4 (.alloc [(.lit (.bool false)), .emp, .emp, (.lit (.bool false)), .emp, .emp])])
 (.fg [2, 3, 4] (.seq (.ops true [.u 5 (.ld none 3 true (.t 2)), .u 6 (.build [.z [(.lit (.bool false)), .emp, .emp]]), .u 7 (.call f0 [(.t 5), (.t 6)]), .u 8 (.ld none 3 true (.t 3)), .u 9 (.build [.z [(.lit (.bool false)), .emp, .emp]]), .u 10 (.call f0 [(.t 8), (.t 9)]), .u 11 (.build [.x 3 (.t 7), .x 3 (.t 10)]), .n (.st none 6 (.t 4) (.t 11))])
 .ret)))
def ac_chart_one (f0 : Nat) : AC := (.seq (.ops false [.u 0 (.alloc [(.lit (.bool false)), .emp, .emp])])
 (.fg [0] (.seq (.ops false [.u 1 (.call f0 [(.i 1)]), .n (.st none 3 (.t 0) (.t 1))])
 .ret)))
def ac_chart_check (f0 f1 f2 f3 tE : Nat) : AC := (.seq (.ops false [.m 2 (.c (.one (.lit .nilIface)))])
 (.fg [0] (.seq (.seq (.ops false [.m 7 (.t 0), .u 8 (.len (.t 7)), .m 9 (.i 0)])
 (.fg [7, 8, 9] (.block 0 (.loop (.seq (.ops false [.u 10 (.bin .lss (.t 9) (.t 8))])
 (.fg [7, 8, 9, 10] (.seq (.cond (.t 10) .skip (.exit 0))
 (.fg [7, 8, 9] (.seq (.block 1 (.seq (.ops false [.u 11 (.idx 1 (.t 7) (.t 9)), .u 12 (.ld none 1 false (.t 11)), .m 4 (.t 12)])
 (.fg [4, 7, 8, 9] (.seq (.seq (.ops false [.m 13 (.t 4), .u 14 (.len (.t 13)), .u 15 (.bin .gtr (.t 14) (.i 64))])
 (.fg [4, 7, 8, 9, 15] (.cond (.t 15) (.seq (.ops false [.u 16 (.iface tE (.i 4)), .m 2 (.t 16)])
 .ret) .skip)))
 (.fg [4, 7, 8, 9] (.seq (.ops false [.m 17 (.t 4), .u 18 (.len (.t 17)), .m 19 (.i 0)])
 (.fg [7, 8, 9, 17, 18, 19] (.block 2 (.loop (.seq (.ops false [.u 20 (.bin .lss (.t 19) (.t 18))])
 (.fg [7, 8, 9, 17, 18, 19, 20] (.seq (.cond (.t 20) .skip (.exit 2))
 (.fg [7, 8, 9, 17, 18, 19] (.seq (.block 3 (.seq (.ops false [.u 21 (.idx 6 (.t 17) (.t 19)), .u 22 (.ld none 6 true (.t 21)), .u 6 (.alloc [(.lit (.bool false)), .emp, .emp, (.lit (.bool false)), .emp, .emp]), .n (.st none 6 (.t 6) (.t 22))])
 (.fg [6, 7, 8, 9, 17, 18, 19] (.seq (.ops true [.u 23 (.fa 0 (.t 6)), .u 24 (.ld none 3 true (.t 23)), .u 25 (.call f0 [(.t 24)]), .u 26 (.un .not (.t 25)), .m 27 (.t 26), .w 28 27 false (.fa 3 (.t 6)), .w 29 27 false (.ld none 3 true (.t 28)), .w 30 27 false (.call f0 [(.t 29)]), .w 31 27 false (.un .not (.t 30)), .u 32 (.pick (.t 27) .tr (.t 31)), .m 33 (.t 32), .w 34 33 false (.fa 0 (.t 6)), .w 35 33 false (.ld none 3 true (.t 34)), .w 36 33 false (.call f1 [(.t 35)]), .w 37 33 false (.bin .lss (.t 36) (.i 0)), .u 38 (.pick (.t 33) .tr (.t 37)), .m 39 (.t 38), .w 40 39 false (.fa 3 (.t 6)), .w 41 39 false (.ld none 3 true (.t 40)), .w 42 39 false (.call f2 []), .w 43 39 false (.call f3 [(.t 41), (.t 42)]), .w 44 39 false (.bin .gtr (.t 43) (.i 0)), .u 45 (.pick (.t 39) .tr (.t 44)), .m 46 (.t 45), .w 47 46 false (.fa 0 (.t 6)), .w 48 46 false (.ld none 3 true (.t 47)), .w 49 46 false (.fa 3 (.t 6)), .w 50 46 false (.ld none 3 true (.t 49)), .w 51 46 false (.call f3 [(.t 48), (.t 50)]), .w 52 46 false (.bin .geq (.t 51) (.i 0)), .u 53 (.pick (.t 46) .tr (.t 52))])
 (.fg [7, 8, 9, 17, 18, 19, 53] (.cond (.t 53) (.seq (.ops false [.u 54 (.iface tE (.i 3)), .m 2 (.t 54)])
 .ret) .skip))))))
 (.fg [7, 8, 9, 17, 18, 19] (.ops false [.u 55 (.bin .add (.t 19) (.i 1)), .m 19 (.t 55)]))))))))))))))))
 (.fg [7, 8, 9] (.ops false [.u 56 (.bin .add (.t 9) (.i 1)), .m 9 (.t 56)])))))))))))
 (.fg [] (.seq (.ops false [.m 2 (.c (.one (.lit .nilIface)))])
 .ret)))))
def ac_chart_norm (f0 f1 f2 f3 f4 f5 : Nat) : AC := (.seq (.ops false [.m 2 (.c (.one .emp))])
 (.fg [0] (.seq (.ops false [.m 7 (.t 0), .u 8 (.callf f0 [(.t 7)]), .m 0 (.t 8)])
 (.fg [0] (.seq (.ops false [.m 9 (.t 0), .u 10 (.call f1 [(.t 9), (.c (.one (.lit (.func (.func f5) #[] #[]))))])])
 (.fg [0] (.seq (.ops false [.m 3 (.c (.one .emp))])
 (.fg [0, 3] (.seq (.seq (.ops false [.m 11 (.t 0), .u 12 (.len (.t 11)), .m 13 (.i 0)])
 (.fg [3, 11, 12, 13] (.block 0 (.loop (.seq (.ops false [.u 14 (.bin .lss (.t 13) (.t 12))])
 (.fg [3, 11, 12, 13, 14] (.seq (.cond (.t 14) .skip (.exit 0))
 (.fg [3, 11, 12, 13] (.seq (.block 1 (.seq (.ops false [.u 15 (.idx 6 (.t 11) (.t 13)), .u 16 (.ld none 6 true (.t 15)), .u 5 (.alloc [(.lit (.bool false)), .emp, .emp, (.lit (.bool false)), .emp, .emp]), .n (.st none 6 (.t 5) (.t 16))])
 (.fg [3, 5, 11, 12, 13] (.seq (.seq (.ops false [.m 17 (.t 3), .u 18 (.len (.t 17)), .m 6 (.t 18)])
 (.fg [3, 5, 6, 11, 12, 13] (.seq (.ops true [.m 19 (.t 6), .u 20 (.bin .gtr (.t 19) (.i 0)), .m 21 (.t 20), .w 22 21 true (.fa 0 (.t 5)), .w 23 21 true (.ld none 3 true (.t 22)), .w 24 21 true (.mv (.t 3)), .w 25 21 true (.mv (.t 6)), .w 26 21 true (.bin .sub (.t 25) (.i 1)), .w 27 21 true (.idx 6 (.t 24) (.t 26)), .w 28 21 true (.fa 3 (.t 27)), .w 29 21 true (.ld none 3 true (.t 28)), .w 30 21 true (.call f2 [(.t 23), (.t 29)]), .w 31 21 true (.bin .leq (.t 30) (.i 0)), .u 32 (.pick (.t 21) (.t 31) .fa)])
 (.fg [3, 5, 6, 11, 12, 13, 32] (.cond (.t 32) (.seq (.ops true [.m 33 (.t 3), .m 34 (.t 6), .u 35 (.bin .sub (.t 34) (.i 1)), .m 36 (.t 3), .m 37 (.t 6), .u 38 (.bin .sub (.t 37) (.i 1)), .u 39 (.idx 6 (.t 36) (.t 38)), .u 40 (.fa 3 (.t 39)), .u 41 (.ld none 3 true (.t 40)), .u 42 (.fa 3 (.t 5)), .u 43 (.ld none 3 true (.t 42)), .u 44 (.call f3 [(.t 41), (.t 43)]), .u 45 (.idx 6 (.t 33) (.t 35)), .u 46 (.fa 3 (.t 45)), .n (.st none 3 (.t 46) (.t 44))])
 (.exit 1)) .skip)))))
 (.fg [3, 5, 11, 12, 13] (.ops false [.m 47 (.t 3), .u 48 (.fa 0 (.t 5)), .u 49 (.ld none 3 true (.t 48)), .u 50 (.fa 3 (.t 5)), .u 51 (.ld none 3 true (.t 50)), .u 52 (.call f4 [(.t 49), (.t 51)]), .u 53 (.row 6 [[.x 6 (.t 52)]]), .u 54 (.app 6 (.t 47) (.t 53)), .m 3 (.t 54)]))))))
 (.fg [3, 11, 12, 13] (.ops false [.u 55 (.bin .add (.t 13) (.i 1)), .m 13 (.t 55)])))))))))))
 (.fg [3] (.seq (.ops false [.m 56 (.t 3), .m 2 (.t 56)])
 .ret)))))))))))
def ac_chart_Norm (f0 f1 : Nat) : AC := (.seq (.ops false [.m 2 (.c (.one .emp)), .m 3 (.c (.one (.lit .nilIface)))])
 (.fg [0] (.seq (.seq (.ops false [.m 5 (.t 0), .u 6 (.row 1 [[.x 1 (.t 5)]]), .u 7 (.call f0 [(.t 6)]), .m 4 (.t 7)])
 (.fg [0, 4] (.seq (.ops false [.m 8 (.t 4), .u 9 (.binn .neq (.t 8) (.c (.one (.lit .nilIface))))])
 (.fg [0, 4, 9] (.cond (.t 9) (.seq (.ops false [.m 10 (.t 4), .m 2 (.c (.one .emp)), .m 3 (.t 10)])
 .ret) .skip)))))
 (.fg [0] (.seq (.ops false [.m 11 (.t 0), .u 12 (.call f1 [(.t 11)]), .m 2 (.t 12), .m 3 (.c (.one (.lit .nilIface)))])
 .ret)))))
def ac_chart_wrapped (f0 f1 f2 : Nat) : AC := (.seq (.ops false [.u 1 (.box 3 (.t 0)), .u 2 (.alloc [(.lit (.bool false)), .emp, .emp]), .m 3 (.c (.one (.lit .nilIface)))])
 (.fg [1, 2] (.seq (.ops false [.u 7 (.ld none 3 true (.t 1)), .u 8 (.call f0 [(.t 7)]), .u 9 (.row 1 [[.x 1 (.c (.one (.lit (.int .u32 1))))]]), .u 10 (.build [.z [(.lit (.bool false))], .x 1 (.t 9)]), .u 11 (.call f1 [(.t 8), (.t 10)]), .m 6 (.t 11), .u 12 (.ext 0 (.t 6)), .u 13 (.ext 1 (.t 6)), .u 4 (.alloc [(.lit (.bool false)), .emp, .emp]), .n (.st none 3 (.t 4) (.t 12)), .m 5 (.t 13)])
 (.fg [1, 2, 4, 5] (.seq (.seq (.ops false [.m 14 (.t 5), .u 15 (.binn .neq (.t 14) (.c (.one (.lit .nilIface))))])
 (.fg [1, 2, 4, 5, 15] (.cond (.t 15) (.seq (.ops false [.u 16 (.build [.z [(.lit (.bool false)), .emp, .emp]]), .m 17 (.t 5), .n (.st none 3 (.t 2) (.t 16)), .m 3 (.t 17)])
 .ret) .skip)))
 (.fg [1, 2, 4] (.seq (.ops false [.u 18 (.ld none 3 true (.t 1)), .u 19 (.ld none 3 true (.t 4)), .u 20 (.call f2 [(.t 18), (.t 19)]), .n (.st none 3 (.t 2) (.t 20)), .m 3 (.c (.one (.lit .nilIface)))])
 .ret)))))))
theorem cone_sound (hΓ : Holds P Γ) {f fo : Nat} (ho : Γ fo = .dat false rof_G) (hc : check P f = some (2, (ac_chart_one fo).strip, [.cell 0 3 true])) : Sound P f (.dat false cone_G) := by
 refine sound_dat hc cone_good hΓ (fun args K hcl hfi hG => ?_)
 match args, hG with
 | [], hG =>
  have hK := hG
  simp only [cone_G] at hK
  refine ⟨by simp, ?_⟩
  simp only [go_sem, ac_chart_one, ho]
  exact ⟨by omega, by omega, hK⟩
theorem cown_sound (hΓ : Holds P Γ) {f fa : Nat} (ha : Γ fa = .dat false radd_G) (hc : check P f = some (12, (ac_chart_own fa).strip, [.cell 4 6 true])) : Sound P f (.dat false cown_G) := by
 refine sound_dat hc cown_good hΓ (fun args K hcl hfi hG => ?_)
 match args, hG with
 | [a, b], hG =>
  obtain ⟨x, rfl, hx, y, rfl, hy, hl, hl', hK⟩ := hG
  refine ⟨by simp, ?_⟩
  simp only [go_sem, ac_chart_own, ha, hx, hy, Rat.add_zero]
  rw [rz_zero]
  exact ⟨hl, by omega, hl', by omega, hK⟩
theorem cwrap_sound (hΓ : Holds P Γ) {f ff fr fs : Nat} (hf : Γ ff = .dat false rfloor_G) (hr : Γ fr = .dat false rfrom_G) (hs : Γ fs = .dat false rsub_G) (hc : check P f = some (21, (ac_chart_wrapped ff fr fs).strip, [.cell 2 3 true, .tmp 3])) : Sound P f (.dat false cwrap_G) := by
 refine sound_dat hc cwrap_good hΓ (fun args K hcl hfi hG => ?_)
 match args, hG with
 | [a], hG =>
  obtain ⟨x, rfl, hx, hl, hK⟩ := hG
  refine ⟨by simp, ?_⟩
  simp only [go_sem, ac_chart_wrapped, hf, hr, hs, hx]
  have n1 := num_le hx
  have e1 : zv (false, [1]) = 1 := by rw [zv_f (by decide)]; rfl
  have e2 : Rat.divInt (rv x).floor 1 = ((rv x).floor : Rat) := Rat.num_divInt_den ((rv x).floor : Rat)
  have hfl : zs (rv x).floor ≤ rl x := by
   rw [Rat.floor_def]
   exact Nat.le_trans (zs_mono (Int.natAbs_ediv_le_natAbs _ _)) n1
  have hrz := rz_int (rv x).floor
  have h1 : zs 1 ≤ 2 := zs_of (by decide)
  refine ⟨by omega, (onW_r _ false [1]).mpr ⟨WL_cons.2 ⟨by decide, WL_nil⟩, ?_⟩⟩
  rw [e1, e2]
  exact ⟨by omega, by omega, by decide, by omega, by omega, hK⟩
theorem ccheck_sound (hΓ : Holds P Γ) {f fv fs fo fc tE : Nat} (hv : Γ fv = .dat true rvalid_G) (hs : Γ fs = .dat true rsign_G) (ho : Γ fo = .dat false cone_G) (hc' : Γ fc = .dat true rcmp_G) (hc : check P f = some (57, (ac_chart_check fv fs fo fc tE).strip, [.tmp 2])) : Sound P f (.dat false (ccheck_G tE)) := by
 refine sound_dat hc (ccheck_good tE) hΓ (fun args K hcl hfi hG => ?_)
 match args, hG with
 | [a], hG =>
  obtain ⟨L, rfl, hL, hok, hK⟩ := hG
  refine ⟨by simp, ?_⟩
  simp only [go_sem, ac_chart_check, hv, hs, ho, hc']
  intro _
  refine wpA_loop (fun k : Nat => ⟨mkV [(7, lsA L), (8, .one (.lit (.int .i64 L.length))), (9, .one (.lit (.int .i64 k)))], mkH []⟩) (fun k => k ≤ L.length ∧ chk L = chk (L.drop k)) (fun k => L.length - k) 0 ?_ ?_ ?_
  ·exact weak_lit (by simp [okS, okV, okC, okL, okH, okB, okE, mkV_cons, mkV_nil, mkH_cons, mkH_nil, wsA, ws, lsA]) trivial
  ·simp
  ·rintro k ⟨hk, hch⟩
   simp only [go_sem, hv, hs, ho, hc']
   refine ⟨fun hlt => ?_, fun hge => ?_⟩
   ·obtain ⟨l, hl⟩ : ∃ l, L.getD k [] = l := ⟨_, rfl⟩
    have hmem : l ∈ L := by
     rw [← hl, List.getD_eq_getElem?_getD, List.getElem?_eq_getElem hlt]; exact List.getElem_mem _
    have hd : L.drop k = l :: L.drop (k + 1) := by
     rw [← hl, List.getD_eq_getElem?_getD, List.getElem?_eq_getElem hlt, Option.getD_some, List.getElem_cons_drop]
    rw [hd, chk] at hch
    have hokl := hok l hmem
    simp only [go_sem, hl]
    refine ⟨hlt, fun _ => ⟨fun h64 => ?_, fun h64 _ => ?_⟩⟩
    ·have e : chk1 l = 4 := by unfold chk1; rw [if_pos (by omega)]
     rw [hch, e, if_pos (by decide), errV_s tE (by decide)] at hK
     exact hK
    refine wpA_loop (fun j : Nat => ⟨mkV [(7, lsA L), (8, .one (.lit (.int .i64 L.length))), (9, .one (.lit (.int .i64 k))), (17, asA l), (18, .one (.lit (.int .i64 l.length))), (19, .one (.lit (.int .i64 j)))], mkH []⟩) (fun j => j ≤ l.length ∧ (l.take j).any badA = false) (fun j => l.length - j) 0 ?_ ?_ ?_
    ·exact weak_lit (by simp [okS, okV, okC, okL, okH, okB, okE, mkV_cons, mkV_nil, mkH_cons, mkH_nil, wsA, ws, lsA, asA, as]) trivial
    ·simp
    ·rintro j ⟨hj, hgood⟩
     simp only [go_sem, hv, hs, ho, hc']
     refine ⟨fun hlt2 => ?_, fun hge2 => ?_⟩
     ·obtain ⟨x, hx⟩ : ∃ x, l.getD j a0 = x := ⟨_, rfl⟩
      have hxm : x ∈ l := by
       rw [← hx, List.getD_eq_getElem?_getD, List.getElem?_eq_getElem hlt2]; exact List.getElem_mem _
      have hox := hokl x hxm
      have hx1 : rl x.1 ≤ 4294967296 := Nat.le_trans (Nat.le_max_left _ _) hox.2
      have hx2 : rl x.2 ≤ 4294967296 := Nat.le_trans (Nat.le_max_right _ _) hox.2
      have hx3 := hox.1.1
      have hx4 := hox.1.2
      simp only [go_sem, hx, aC_eq, hv, hs, ho, hc', hx1, hx2, hx3, hx4]
      have bad : badA x = true → K (AV.one (C.lit (Value.iface tE (Value.int IntKind.i64 3)))) := by
       intro hb
       have e : chk1 l = 3 := by
        unfold chk1
        rw [if_neg (by omega), if_pos (List.any_eq_true.2 ⟨x, hxm, hb⟩)]
       rw [hch, e, if_pos (by decide), errV_s tE (by decide)] at hK
       exact hK
      have bad' : ¬ GoodA x → K (AV.one (C.lit (Value.iface tE (Value.int IntKind.i64 3)))) := by
       intro hg
       refine bad ?_
       cases hb : badA x with
       | true => rfl
       | false => exact absurd (badA_f.1 hb) hg
      have hr1 : rz 1 ≤ 4294967296 := by
       have := rz_int 1
       have h1 : zs 1 ≤ 2 := zs_of (by decide)
       have e : ((1 : Int) : Rat) = 1 := rfl
       rw [e] at this
       omega
      refine ⟨hlt2, fun v1 => ⟨fun v2 => ⟨fun h => bad' (fun g => ?_), fun lo => ⟨hr1, fun h => bad' (fun g => ?_), fun hi => ⟨fun h => bad' (fun g => ?_), fun lt => ?_⟩⟩⟩, fun h => bad' (fun g => ?_)⟩, fun h => bad' (fun g => ?_)⟩
      ·exact absurd (ordQ_lt.1 h) (Rat.not_lt.2 g.lo)
      ·exact absurd (ordQ_gt.1 h) (Rat.not_lt.2 g.hi)
      ·exact absurd (ordQ_ge.1 h) (Rat.not_le.2 g.lt)
      ·refine ⟨by omega, j + 1, weak_lit (by simp [okS, okV, okC, okL, okH, okB, okE, mkV_cons, mkV_nil, mkH_cons, mkH_nil, wsA, ws]) trivial, ⟨by omega, ?_⟩, by omega⟩
       have hg : GoodA x := ⟨v1, v2, by rw [ordQ_lt, Rat.not_lt] at lo; exact lo, by rw [ordQ_gt, Rat.not_lt] at hi; exact hi, by rw [ordQ_ge, Rat.not_le] at lt; exact lt⟩
       have e : l.take (j + 1) = l.take j ++ [x] := by
        rw [List.take_add_one, List.getElem?_eq_getElem hlt2, ← hx, List.getD_eq_getElem?_getD, List.getElem?_eq_getElem hlt2]; rfl
       rw [e, List.any_append, hgood]
       simp [badA_f.2 hg]
      ·rw [g.v2] at h; exact absurd h (by simp)
      ·rw [g.v1] at h; exact absurd h (by simp)
     ·have e : chk1 l = 0 := by
       unfold chk1
       rw [List.take_of_length_le (by omega)] at hgood
       rw [if_neg (by omega), hgood]; rfl
      refine ⟨by omega, k + 1, weak_lit (by simp [okS, okV, okC, okL, okH, okB, okE, mkV_cons, mkV_nil, mkH_cons, mkH_nil, wsA, ws]) trivial, ⟨by omega, ?_⟩, by omega⟩
      rw [hch, e]; rfl
   ·have e : L.drop k = [] := List.drop_of_length_le (by omega)
    rw [hch, e, chk, errV_0] at hK
    exact hK
theorem cnorm_sound (hΓ : Holds P Γ) {f fl fs fc fx fo fa m : Nat} (hm64 : m ≤ 200) (hl : Γ fl = .fresh 6 clone_G) (hs : Γ fs = .own (sort_G fa m)) (hcm : Γ fc = .dat true rcmp_G) (hx : Γ fx = .dat false rmax_G) (ho : Γ fo = .dat false cown_G) (hc : check P f = some (57, (ac_chart_norm fl fs fc fx fo fa).strip, [.tmp 2])) : Sound P f (.dat false (cnorm_G m)) := by
 refine sound_dat hc (cnorm_good m) hΓ (fun args K hcl hfi hG => ?_)
 match args, hG with
 | [a], hG =>
  obtain ⟨l, rfl, hl', hlm, hok, hpos, hK⟩ := hG
  refine ⟨by simp, ?_⟩
  simp only [go_sem, ac_chart_norm, hl, hs, hcm, hx, ho]
  refine ⟨hl', by omega, ?_⟩
  simp only [sort_G]
  refine ⟨l, [], rfl, rfl, hlm, by simp [mkH_cons], hok, fun s hp hsort => ?_⟩
  simp only [go_sem, hl, hs, hcm, hx, ho]
  intro _
  have hsl := hp.length_eq
  have hposl : Pos (vals l) := by
   intro a ha
   obtain ⟨x, hx, rfl⟩ := List.mem_map.1 ha
   exact hpos x hx
  have hsq : SortQ (vals s) := List.pairwise_map.2 hsort
  refine wpA_loop (fun p : Nat × Sw => match p.2 with
    | none => ⟨mkV [(3, .one .emp), (11, .one (.own 8 1 6 0 l.length)), (12, .one (.lit (.int .i64 l.length))), (13, .one (.lit (.int .i64 p.1)))], mkH [(8, ⟨1, some ⟨s.map aC, 6, true⟩⟩)]⟩
    | some (o, z) => ⟨mkV [(3, .one (.own 54 1 6 0 (o.length + 1))), (11, .one (.own 8 1 6 0 l.length)), (12, .one (.lit (.int .i64 l.length))), (13, .one (.lit (.int .i64 p.1)))], mkH [(8, ⟨1, some ⟨s.map aC, 6, true⟩⟩), (54, ⟨1, some ⟨(o.map acan ++ [(rcan z.1, rcan z.2)]).map aC, 6, true⟩⟩)]⟩)
   (fun p => p.1 ≤ s.length ∧ p.2 = ((s.take p.1).map av).foldl swStep none ∧ ∀ o z, p.2 = some (o, z) → o.length < p.1 ∧ rz z.2 ≤ 4294967296) (fun p => s.length - p.1) (0, none) ?_ ?_ ?_
  ·exact weak_lit (by simp [okS, okV, okC, okL, okH, okB, okE, mkV_cons, mkV_nil, mkH_cons, mkH_nil, wsA, ws]) (okH_a rfl)
  ·exact ⟨Nat.zero_le _, rfl, fun o z h => by simp at h⟩
  ·rintro ⟨k, w⟩ ⟨hk, hw, hz⟩
   simp only at hk hw hz
   have hoks := okAs_perm hp hok
   by_cases hlt : k < l.length
   ·have hks : k < s.length := by omega
    obtain ⟨x, hx'⟩ : ∃ x, s.getD k a0 = x := ⟨_, rfl⟩
    have hxm : x ∈ s := by
     rw [← hx', List.getD_eq_getElem?_getD, List.getElem?_eq_getElem hks]; exact List.getElem_mem _
    have hox := hoks x hxm
    have hx1 : rl x.1 ≤ 4294967296 := Nat.le_trans (Nat.le_max_left _ _) hox.2
    have hx2 : rl x.2 ≤ 4294967296 := Nat.le_trans (Nat.le_max_right _ _) hox.2
    have hx3 := hox.1.1
    have hx4 := hox.1.2
    have e : s.take (k + 1) = s.take k ++ [x] := by
     rw [List.take_add_one, List.getElem?_eq_getElem hks, ← hx', List.getD_eq_getElem?_getD, List.getElem?_eq_getElem hks]; rfl
    have hstep : ((s.take (k + 1)).map av).foldl swStep none = swStep w (av x) := by
     rw [e, List.map_append, List.foldl_append, ← hw]; rfl
    match w, hw, hz, hstep with
    | none, hw, hz, hstep =>
     simp only [go_sem, hl, hs, hcm, hx, ho, hlt, hx', aC_eq, hx1, hx2, hx3, hx4, hks, Int.lt_irrefl]
     refine ⟨by simp, by omega, (k + 1, some ([], av x)), weak_lit (by simp [okS, okV, okC, okL, okH, okB, okE, mkV_cons, mkV_nil, mkH_cons, mkH_nil, wsA, ws]) ⟨okB_a rfl, okB_a (by simp [aC, av]), trivial⟩, ⟨by simp only; omega, hstep.symm, fun o z h => ?_⟩, by simp only; omega⟩
     simp only [Option.some.injEq, Prod.mk.injEq] at h
     obtain ⟨rfl, rfl⟩ := h
     exact ⟨by simp, Nat.le_trans (rz_rv hx4) hx2⟩
    | some (o, z), hw, hz, hstep =>
     obtain ⟨hol, hzz⟩ := hz o z rfl
     have ek : ((o.length + 1 : Nat) : Int) - 1 = (o.length : Int) := by omega
     have eg : (o.map acan ++ [(rcan z.1, rcan z.2)]).getD o.length a0 = (rcan z.1, rcan z.2) := by
      simp [List.getD_eq_getElem?_getD]
     have es2 : ∀ q, (o.map acan ++ [(rcan z.1, rcan z.2)]).set o.length q = o.map acan ++ [q] := by
      intro q
      have e : o.length = (o.map acan).length := by simp
      rw [e, List.set_append_right _ _ (Nat.le_refl _), Nat.sub_self, List.set_cons_zero]
     simp only [go_sem, hl, hs, hcm, hx, ho, hlt, hx', aC_eq, hx1, hx2, hx3, hx4, hks, ek, eg, es2, List.length_append, Nat.zero_lt_succ, Nat.lt_succ_self]
     have hol2 : o.length ≤ 200 := by omega
     refine fun _ => ⟨by omega, hzz, fun hle => ⟨by omega, by omega, hzz, by omega, (k + 1, some (o, (z.1, mxQ z.2 (rv x.2)))), weak_lit (by simp [okS, okV, okC, okL, okH, okB, okE, mkV_cons, mkV_nil, mkH_cons, mkH_nil, wsA, ws]) ⟨okB_a rfl, okB_a rfl, trivial⟩, ⟨by simp only; omega, ?_, fun o' z' h => ?_⟩, by simp only; omega⟩, fun hgt => ⟨by simp, by omega, by omega, (k + 1, some (o ++ [z], av x)), weak_lit (by simp [okS, okV, okC, okL, okH, okB, okE, mkV_cons, mkV_nil, mkH_cons, mkH_nil, wsA, ws]) ⟨okB_a rfl, okB_a (by simp [aC, av, acan]), trivial⟩, ⟨by simp only; omega, ?_, fun o' z' h => ?_⟩, by simp only; omega⟩⟩
     ·rw [hstep]
      show _ = if rv x.1 ≤ z.2 then _ else _
      rw [if_pos (ordQ_le.1 hle)]; rfl
     ·simp only [Option.some.injEq, Prod.mk.injEq] at h
      obtain ⟨rfl, rfl⟩ := h
      refine ⟨by simp only; omega, ?_⟩
      simp only [mxQ]
      split
      ·exact hzz
      ·exact Nat.le_trans (rz_rv hx4) hx2
     ·rw [hstep]
      show _ = if rv x.1 ≤ z.2 then _ else _
      rw [if_neg (fun h => hgt (ordQ_le.2 h))]
     ·simp only [Option.some.injEq, Prod.mk.injEq] at h
      obtain ⟨rfl, rfl⟩ := h
      exact ⟨by simp; omega, Nat.le_trans (rz_rv hx4) hx2⟩
   ·have e : s.take k = s := List.take_of_length_le (by omega)
    rw [e] at hw
    match w, hw, hz with
    | none, hw, hz =>
     simp only [go_sem, hl, hs, hcm, hx, ho, hlt]
     have e2 : sweep (vals s) = [] := by unfold sweep vals; rw [← hw]; rfl
     rw [← sweep_eq (s := vals s) hposl (hp.map av) hsq, e2] at hK
     exact hK
    | some (o, z), hw, hz =>
     have e3 : (o.map acan ++ [(rcan z.1, rcan z.2)]).length = o.length + 1 := by simp
     simp only [go_sem, hl, hs, hcm, hx, ho, hlt, e3]
     have e2 : sweep (vals s) = o ++ [z] := by unfold sweep vals; rw [← hw]; rfl
     rw [← sweep_eq (s := vals s) hposl (hp.map av) hsq, e2] at hK
     rw [List.map_append] at hK
     exact hK
theorem cNorm_sound (hΓ : Holds P Γ) {f fk fn tE m : Nat} (hk : Γ fk = .dat false (ccheck_G tE)) (hn : Γ fn = .dat false (cnorm_G m)) (hc : check P f = some (13, (ac_chart_Norm fk fn).strip, [.tmp 2, .tmp 3])) : Sound P f (.dat false (cNorm_G tE m)) := by
 refine sound_dat hc (cNorm_good tE m) hΓ (fun args K hcl hfi hG => ?_)
 match args, hG with
 | [a], hG =>
  obtain ⟨l, rfl, hl, hm, hok, hK⟩ := hG
  refine ⟨by simp, ?_⟩
  by_cases h0 : chk [l] = 0
  ·simp only [go_sem, ac_chart_Norm, hk, hn, h0, errV_0] at hK ⊢
   exact ⟨hl, fun x hx => by rw [List.mem_singleton] at hx; subst hx; exact hok, hl, hm h0, hok, chk_pos h0, hK⟩
  ·simp only [go_sem, ac_chart_Norm, hk, hn, h0, errV_s tE h0] at hK ⊢
   exact ⟨hl, fun x hx => by rw [List.mem_singleton] at hx; subst hx; exact hok, hK⟩
end Go.Abs
end
section
set_option linter.unusedVariables false
set_option linter.unusedSimpArgs false
set_option maxRecDepth 100000
namespace Go.Num
def inA (y : Rat) (x : Arc) : Bool := decide (rv x.1 ≤ y) && decide (y < rv x.2)
def idxOf (y : Rat) (l : List Arc) : Int := match l.findIdx? (inA y) with | some i => i | none => -1
theorem rz_frac (q : Rat) : rz (frac q) ≤ 2 * rz q + 3 := by
 unfold frac
 have h1 := rz_sub q (q.floor : Rat)
 have h2 := rz_int q.floor
 have h3 : zs q.floor ≤ rz q := by
  rw [Rat.floor_def]
  exact Nat.le_trans (zs_mono (Int.natAbs_ediv_le_natAbs _ _)) (rz_num q)
 omega
end Go.Num
namespace Go.Abs
open Go.Num
variable {P : Program} {Γ : Nat → Spec}
def pA (y : R) : AV := .one (.ref [cb y, cn y, cd y])
def kA (f : Nat) (y : R) : AV := .one (.clo f [.ref [cb y, cn y, cd y]])
theorem pA_inj (x y : R) (h : pA x = pA y) : x = y := rA_inj x y (by simpa [pA, rA] using h)
theorem kA_inj (f : Nat) (x y : R) (h : kA f x = kA f y) : x = y := rA_inj x y (by simpa [kA, rA] using h)
def onP (k : R → Prop) (a : AV) : Prop := onE pA (fun x => WLR x ∧ k x) a
@[congr] theorem onP_cg {k : R → Prop} {a a' : AV} (h : a = a') : onP k a = onP k a' := by subst h; rfl
theorem onP_e (k : R → Prop) (x : R) : onP k (.one (.ref [cb x, cn x, cd x])) = (WLR x ∧ k x) := onE_e pA_inj (fun x => WLR x ∧ k x) x
theorem g_onP {β : Type} {T : R → (β → Prop) → Prop} (h : ∀ x, GoodT (T x)) {a : AV} : GoodT fun K => onP (fun x => T x K) a :=
 g_onE (e := pA) (T := fun x K => WLR x ∧ T x K) pA_inj fun x => GoodT.and (c := WLR x) (T := T x) fun _ => h x
def onKl (f : Nat) (k : R → Prop) (a : AV) : Prop := onE (kA f) (fun x => WLR x ∧ k x) a
@[congr] theorem onKl_cg {f : Nat} {k : R → Prop} {a a' : AV} (h : a = a') : onKl f k a = onKl f k a' := by subst h; rfl
theorem onKl_e (f : Nat) (k : R → Prop) (x : R) : onKl f k (.one (.clo f [.ref [cb x, cn x, cd x]])) = (WLR x ∧ k x) := onE_e (kA_inj f) (fun x => WLR x ∧ k x) x
theorem g_onKl {β : Type} {f : Nat} {T : R → (β → Prop) → Prop} (h : ∀ x, GoodT (T x)) {a : AV} : GoodT fun K => onKl f (fun x => T x K) a :=
 g_onE (e := kA f) (T := fun x K => WLR x ∧ T x K) (kA_inj f) fun x => GoodT.and (c := WLR x) (T := T x) fun _ => h x
attribute [go_sem] onP_e onKl_e
attribute [go_sem ↓] onP_e onKl_e
theorem datB_ref3 (h : Nat → HB) (y : R) : datB h (.ref [cb y, cn y, cd y]) = .ref [cb y, cn y, cd y] := eq_of_heq (HEq.refl _)
theorem clean_ref3 (y : R) : CleanL [cb y, cn y, cd y] := by
 intro c hc
 simp only [List.mem_cons, List.not_mem_nil, or_false] at hc
 rcases hc with rfl | rfl | rfl
 ·exact of_eq_true (clean_cb _)
 ·exact of_eq_true (clean_cn _)
 ·exact of_eq_true (clean_cd _)
theorem clean_refL (y : R) : CleanL [C.ref [cb y, cn y, cd y]] := by
 intro c hc
 rw [List.mem_singleton] at hc; subst hc
 exact .ref _ (clean_ref3 y)
def chas1_G (l : List AV) (K : AV → Prop) : Prop :=
 match l with
 | [a, b] => onA (fun x => onP (fun y => al x ≤ 4294967296 ∧ rl y ≤ 4294967296 ∧ K (.one (.lit (.bool (inA (rv y) x))))) b) a
 | _ => False
theorem chas1_Ge (a b : AV) (K : AV → Prop) : chas1_G [a, b] K = (onA (fun x => onP (fun y => al x ≤ 4294967296 ∧ rl y ≤ 4294967296 ∧ K (.one (.lit (.bool (inA (rv y) x))))) b) a) := propext Iff.rfl
@[congr] theorem chas1_Gc {K : AV → Prop} {l l' : List AV} (h : l = l') : chas1_G l K = chas1_G l' K := by subst h; rfl
attribute [go_sem] chas1_Ge
attribute [go_sem ↓] chas1_Ge
theorem chas1_good : Good chas1_G := good_of fun as => by
 unfold chas1_G
 split
 ·exact (g_onA fun _ => (g_onP fun _ => (.and fun _ => (.and fun _ => (.ret _)))))
 ·exact .of fun K hk => hk.elim
def cidx_G (fc : Nat) (l : List AV) (K : AV → Prop) : Prop :=
 match l with
 | [a, c] => onAs (fun l => onKl fc (fun y => okAs 4294967296 l ∧ rl y ≤ 4294967296 ∧ K (.one (.lit (.int .i64 (idxOf (rv y) l))))) c) a
 | _ => False
theorem cidx_Ge (fc : Nat) (a c : AV) (K : AV → Prop) : cidx_G fc [a, c] K = (onAs (fun l => onKl fc (fun y => okAs 4294967296 l ∧ rl y ≤ 4294967296 ∧ K (.one (.lit (.int .i64 (idxOf (rv y) l))))) c) a) := propext Iff.rfl
@[congr] theorem cidx_Gc (fc : Nat) {K : AV → Prop} {l l' : List AV} (h : l = l') : cidx_G fc l K = cidx_G fc l' K := by subst h; rfl
attribute [go_sem] cidx_Ge
attribute [go_sem ↓] cidx_Ge
theorem cidx_good (fc : Nat) : Good (cidx_G fc) := good_of fun as => by
 unfold cidx_G
 split
 ·exact (g_onAs fun _ => (g_onKl fun _ => (.and fun _ => (.and fun _ => (.ret _)))))
 ·exact .of fun K hk => hk.elim
def ccont_G (fc : Nat) (l : List AV) (K : AV → Prop) : Prop :=
 match l with
 | [a, c] => onAs (fun l => onKl fc (fun y => okAs 4294967296 l ∧ rl y ≤ 4294967296 ∧ K (.one (.lit (.bool (l.any (inA (rv y))))))) c) a
 | _ => False
theorem ccont_Ge (fc : Nat) (a c : AV) (K : AV → Prop) : ccont_G fc [a, c] K = (onAs (fun l => onKl fc (fun y => okAs 4294967296 l ∧ rl y ≤ 4294967296 ∧ K (.one (.lit (.bool (l.any (inA (rv y))))))) c) a) := propext Iff.rfl
@[congr] theorem ccont_Gc (fc : Nat) {K : AV → Prop} {l l' : List AV} (h : l = l') : ccont_G fc l K = ccont_G fc l' K := by subst h; rfl
attribute [go_sem] ccont_Ge
attribute [go_sem ↓] ccont_Ge
theorem ccont_good (fc : Nat) : Good (ccont_G fc) := good_of fun as => by
 unfold ccont_G
 split
 ·exact (g_onAs fun _ => (g_onKl fun _ => (.and fun _ => (.and fun _ => (.ret _)))))
 ·exact .of fun K hk => hk.elim
def cHas_G (tE : Nat) (l : List AV) (K : AV → Prop) : Prop :=
 match l with
 | [a, b] => onAs (fun l => onR (fun y => okAs 4294967296 l ∧ rl y ≤ 1000000000 ∧ K (.tup [.one (.lit (.bool (decide (chk [l] = 0) && (vldR y && l.any (inA (frac (rv y))))))), errV tE (if chk [l] = 0 then (if vldR y then 0 else 3) else chk [l])])) b) a
 | _ => False
theorem cHas_Ge (tE : Nat) (a b : AV) (K : AV → Prop) : cHas_G tE [a, b] K = (onAs (fun l => onR (fun y => okAs 4294967296 l ∧ rl y ≤ 1000000000 ∧ K (.tup [.one (.lit (.bool (decide (chk [l] = 0) && (vldR y && l.any (inA (frac (rv y))))))), errV tE (if chk [l] = 0 then (if vldR y then 0 else 3) else chk [l])])) b) a) := propext Iff.rfl
@[congr] theorem cHas_Gc (tE : Nat) {K : AV → Prop} {l l' : List AV} (h : l = l') : cHas_G tE l K = cHas_G tE l' K := by subst h; rfl
attribute [go_sem] cHas_Ge
attribute [go_sem ↓] cHas_Ge
theorem cHas_good (tE : Nat) : Good (cHas_G tE) := good_of fun as => by
 unfold cHas_G
 split
 ·exact (g_onAs fun _ => (g_onR fun _ => (.and fun _ => (.and fun _ => (.ret _)))))
 ·exact .of fun K hk => hk.elim
def ac_chart_Has (f0 f1 f2 f3 f4 tE : Nat) : AC := (.seq (.ops false [.u 3 (.box 3 (.t 1)), .m 4 .fa, .m 5 (.c (.one (.lit .nilIface)))])
 (.fg [0, 3] (.seq (.seq (.ops false [.m 8 (.t 0), .u 9 (.row 1 [[.x 1 (.t 8)]]), .u 10 (.call f0 [(.t 9)]), .m 6 (.t 10)])
 (.fg [0, 3, 6] (.seq (.ops false [.m 11 (.t 6), .u 12 (.binn .neq (.t 11) (.c (.one (.lit .nilIface))))])
 (.fg [0, 3, 6, 12] (.cond (.t 12) (.seq (.ops false [.m 13 (.t 6), .m 4 .fa, .m 5 (.t 13)])
 .ret) .skip)))))
 (.fg [0, 3] (.seq (.seq (.ops false [.u 14 (.ld none 3 true (.t 3)), .u 15 (.call f1 [(.t 14)]), .u 16 (.un .not (.t 15))])
 (.fg [0, 3, 16] (.cond (.t 16) (.seq (.ops false [.u 17 (.iface tE (.i 3)), .m 4 .fa, .m 5 (.t 17)])
 .ret) .skip)))
 (.fg [0, 3] (.seq (.ops false [.u 19 (.ld none 3 true (.t 3)), .u 20 (.call f2 [(.t 19)]), .m 18 (.t 20), .u 21 (.ext 0 (.t 18)), .u 22 (.ext 1 (.t 18)), .n (.st none 3 (.t 3) (.t 21)), .m 7 (.t 22)])
 (.fg [0, 3, 7] (.seq (.seq (.ops false [.m 23 (.t 7), .u 24 (.binn .neq (.t 23) (.c (.one (.lit .nilIface))))])
 (.fg [0, 3, 7, 24] (.cond (.t 24) (.seq (.ops false [.m 25 (.t 7), .m 4 .fa, .m 5 (.t 25)])
 .ret) .skip)))
 (.fg [0, 3] (.seq (.ops false [.m 26 (.t 0), .u 27 (.clo f4 [(.t 3)]), .u 28 (.call f3 [(.t 26), (.t 27)]), .m 4 (.t 28), .m 5 (.c (.one (.lit .nilIface)))])
 .ret)))))))))))
def ac_chart_Has_1 (f0 : Nat) : AC := (.seq (.ops false [.u 2 (.box 6 (.t 0)), .m 3 .fa])
 (.fg [1, 2] (.seq (.ops false [.u 4 (.fa 0 (.t 2)), .u 5 (.ld none 3 true (.t 4)), .u 6 (.ld none 3 true (.t 1)), .u 7 (.call f0 [(.t 5), (.t 6)]), .u 8 (.bin .leq (.t 7) (.i 0)), .m 9 (.t 8), .w 10 9 true (.ld none 3 true (.t 1)), .w 11 9 true (.fa 3 (.t 2)), .w 12 9 true (.ld none 3 true (.t 11)), .w 13 9 true (.call f0 [(.t 10), (.t 12)]), .w 14 9 true (.bin .lss (.t 13) (.i 0)), .u 15 (.pick (.t 9) (.t 14) .fa), .m 3 (.t 15)])
 .ret)))
def ac_slices_ContainsFunc_g (f0 : Nat) : AC := (.seq (.ops false [.m 4 .fa])
 (.fg [0, 1] (.seq (.ops false [.m 5 (.t 0), .m 6 (.t 1), .u 7 (.call f0 [(.t 5), (.t 6)]), .u 8 (.bin .geq (.t 7) (.i 0)), .m 4 (.t 8)])
 .ret)))
def ac_slices_IndexFunc_g : AC := (.seq (.ops false [.m 4 (.i 0)])
 (.fg [0, 1] (.seq (.seq (.ops false [.m 6 (.t 0), .u 7 (.len (.t 6)), .m 8 (.i 0)])
 (.fg [0, 1, 7, 8] (.block 0 (.loop (.seq (.ops false [.u 9 (.bin .lss (.t 8) (.t 7))])
 (.fg [0, 1, 7, 8, 9] (.seq (.cond (.t 9) .skip (.exit 0))
 (.fg [0, 1, 7, 8] (.seq (.block 1 (.seq (.ops false [.m 10 (.t 8), .m 5 (.t 10)])
 (.fg [0, 1, 5, 7, 8] (.seq (.ops false [.m 11 (.t 1), .m 12 (.t 0), .m 13 (.t 5), .u 14 (.idx 6 (.t 12) (.t 13)), .u 15 (.ld none 6 true (.t 14)), .u 16 (.callv (.t 11) [(.t 15)])])
 (.fg [0, 1, 5, 7, 8, 16] (.cond (.t 16) (.seq (.ops false [.m 17 (.t 5), .m 4 (.t 17)])
 .ret) .skip))))))
 (.fg [0, 1, 7, 8] (.ops false [.u 18 (.bin .add (.t 8) (.i 1)), .m 8 (.t 18)])))))))))))
 (.fg [] (.seq (.ops false [.m 4 (.i (-1))])
 .ret)))))
theorem chas1_sound (hΓ : Holds P Γ) {f fc : Nat} (hc' : Γ fc = .dat true rcmp_G) (hc : check P f = some (16, (ac_chart_Has_1 fc).strip, [.tmp 3])) : Sound P f (.dat true chas1_G) := by
 refine sound_dat hc chas1_good hΓ (fun args K hcl hfi hG => ?_)
 match args, hG with
 | [a, b], hG =>
  obtain ⟨x, rfl, hx, y, rfl, hy, hl, hl', hK⟩ := hG
  refine ⟨by simp, ?_⟩
  have hx1 : rl x.1 ≤ 4294967296 := Nat.le_trans (Nat.le_max_left _ _) hl
  have hx2 : rl x.2 ≤ 4294967296 := Nat.le_trans (Nat.le_max_right _ _) hl
  simp only [go_sem, ac_chart_Has_1, hc', aC_eq, hx.1, hx.2, hy, hx1, hx2, hl', pA]
  unfold inA at hK
  refine ⟨fun h => ?_, fun h => ?_⟩
  ·rw [decide_eq_true (ordQ_le.1 h), Bool.true_and] at hK
   have e : decide (ordQ (rv y) (rv x.2) < 0) = decide (rv y < rv x.2) := by rw [decide_eq_decide, ordQ_lt]
   rw [e]; exact hK
  ·rw [decide_eq_false (fun h' => h (ordQ_le.2 h')), Bool.false_and] at hK
   exact hK
theorem cidx_sound (hΓ : Holds P Γ) {f fc : Nat} (hc' : Γ fc = .dat true chas1_G) (hc : check P f = some (19, ac_slices_IndexFunc_g.strip, [.tmp 4])) : Sound P f (.dat true (cidx_G fc)) := by
 refine sound_dat hc (cidx_good fc) hΓ (fun args K hcl hfi hG => ?_)
 match args, hG with
 | [a, c], hG =>
  obtain ⟨l, rfl, hl, y, rfl, hy, hok, hyl, hK⟩ := hG
  refine ⟨by simp, ?_⟩
  simp only [go_sem, ac_slices_IndexFunc_g, hc', kA]
  intro _
  refine wpA_loop (fun k : Nat => ⟨mkV [(0, asA l), (1, kA fc y), (7, .one (.lit (.int .i64 l.length))), (8, .one (.lit (.int .i64 k)))], mkH []⟩) (fun k => k ≤ l.length ∧ (l.take k).findIdx? (inA (rv y)) = none) (fun k => l.length - k) 0 ?_ ?_ ?_
  ·exact weak_lit (by simp [okS, okV, okC, okL, okH, okB, okE, mkV_cons, mkV_nil, mkH_cons, mkH_nil, wsA, ws, kA, asA, as, clean_refL]) trivial
  ·simp
  ·rintro k ⟨hk, hf⟩
   by_cases hlt : k < l.length
   ·obtain ⟨x, hx⟩ : ∃ x, l.getD k a0 = x := ⟨_, rfl⟩
    have hx0 : l[k]? = some x := by
     rw [← hx, List.getD_eq_getElem?_getD, List.getElem?_eq_getElem hlt]; rfl
    have hxm : x ∈ l := List.mem_of_getElem? hx0
    have hox := hok x hxm
    simp only [go_sem, hc', kA, hlt, hx, hox.1, hox.2, hy, hyl, datB_ref3]
    have hf1 : l.take (k + 1) = l.take k ++ [x] := by rw [List.take_add_one, hx0]; rfl
    refine ⟨fun h => ?_, fun h => ⟨by omega, k + 1, weak_lit (by simp [okS, okV, okC, okL, okH, okB, okE, mkV_cons, mkV_nil, mkH_cons, mkH_nil, wsA, ws, clean_refL]) trivial, ⟨by omega, ?_⟩, by omega⟩⟩
    ·have e : l.findIdx? (inA (rv y)) = some k := by
      rw [List.findIdx?_eq_some_iff_getElem]
      refine ⟨hlt, by rw [List.getElem?_eq_getElem hlt] at hx0; simp at hx0; rw [hx0]; exact h, fun j hj => ?_⟩
      rw [List.findIdx?_eq_none_iff] at hf
      have := hf l[j] (by rw [List.mem_take_iff_getElem]; exact ⟨j, by omega, rfl⟩)
      simpa using this
     unfold idxOf at hK
     rw [e] at hK
     exact hK
    ·rw [hf1, List.findIdx?_append, hf]
     simp [h]
   ·have e : l.take k = l := List.take_of_length_le (by omega)
    simp only [go_sem, hc', kA, hlt]
    rw [e] at hf
    unfold idxOf at hK
    rw [hf] at hK
    exact hK
theorem ccont_sound (hΓ : Holds P Γ) {f fi fc : Nat} (hi : Γ fi = .dat true (cidx_G fc)) (hc : check P f = some (9, (ac_slices_ContainsFunc_g fi).strip, [.tmp 4])) : Sound P f (.dat true (ccont_G fc)) := by
 refine sound_dat hc (ccont_good fc) hΓ (fun args K hcl hfi hG => ?_)
 match args, hG with
 | [a, c], hG =>
  obtain ⟨l, rfl, hl, y, rfl, hy, hok, hyl, hK⟩ := hG
  refine ⟨by simp, ?_⟩
  simp only [go_sem, ac_slices_ContainsFunc_g, hi, kA]
  rw [datB_ref3, onKl_e]
  refine ⟨hl, hy, hok, hyl, ?_⟩
  have e : decide (0 ≤ idxOf (rv y) l) = l.any (inA (rv y)) := by
   unfold idxOf
   cases h : l.findIdx? (inA (rv y)) with
   | none =>
    rw [List.findIdx?_eq_none_iff] at h
    have : l.any (inA (rv y)) = false := by rw [List.any_eq_false]; exact fun x hx => by rw [h x hx]; simp
    rw [this]; rfl
   | some i =>
    have := List.findIdx?_isSome (xs := l) (p := inA (rv y))
    rw [h] at this
    rw [← this]
    simp
  rw [e]; exact hK
theorem cHas_sound (hΓ : Holds P Γ) {f fk fv fw fc f1 tE : Nat} (hk : Γ fk = .dat false (ccheck_G tE)) (hv : Γ fv = .dat true rvalid_G) (hw : Γ fw = .dat false cwrap_G) (hc' : Γ fc = .dat true (ccont_G f1)) (hc : check P f = some (29, (ac_chart_Has fk fv fw fc f1 tE).strip, [.tmp 4, .tmp 5])) : Sound P f (.dat false (cHas_G tE)) := by
 refine sound_dat hc (cHas_good tE) hΓ (fun args K hcl hfi hG => ?_)
 match args, hG with
 | [a, b], hG =>
  obtain ⟨l, rfl, hl, y, rfl, hy, hok, hyl, hK⟩ := hG
  refine ⟨by simp, ?_⟩
  by_cases h0 : chk [l] = 0
  ·simp only [go_sem, ac_chart_Has, hk, hv, hw, hc', h0, errV_0, hy] at hK ⊢
   refine ⟨hl, fun x hx => by rw [List.mem_singleton] at hx; subst hx; exact hok, by omega, fun h => ?_, fun h => ?_⟩
   ·rw [h] at hK
    simp only [Bool.true_and, if_true, errV_0] at hK
    have e : datQ 0 0 (some ⟨[[cb (rcan (frac (rv y))), cn (rcan (frac (rv y))), cd (rcan (frac (rv y)))]], 3, true⟩) = .ref [cb (rcan (frac (rv y))), cn (rcan (frac (rv y))), cd (rcan (frac (rv y)))] := by
     simp [datQ, clean_ref3]
    rw [e, onKl_e]
    have hfl := rz_frac (rv y)
    have hry := rz_rv hy
    refine ⟨by omega, hl, WLR_rcan _, hok, ?_, ?_⟩
    ·rw [rl_can]; omega
    ·rw [rv_rcan]; exact hK
   ·rw [h] at hK
    simp only [Bool.true_and, Bool.false_and, Bool.false_eq_true, if_false, errV_s tE (show 3 ≠ 0 by decide)] at hK
    exact hK
  ·simp only [go_sem, ac_chart_Has, hk, hv, hw, hc', h0, errV_s tE h0, hy] at hK ⊢
   exact ⟨hl, fun x hx => by rw [List.mem_singleton] at hx; subst hx; exact hok, by simpa using hK⟩
end Go.Abs
end
section
set_option linter.unusedVariables false
set_option linter.unusedSimpArgs false
namespace Go.Num
def bln (n : Nat) : Nat := if n = 0 then 0 else bln (n / 2) + 1
termination_by n
decreasing_by omega
theorem bln_zero : bln 0 = 0 := by rw [bln]; rfl
theorem bln_pos {n : Nat} (h : n ≠ 0) : bln n = bln (n / 2) + 1 := by rw [bln, if_neg h]
theorem lt_bln (n : Nat) : n < 2 ^ bln n := by
 induction n using Nat.strongRecOn with
 | _ n ih =>
  by_cases h : n = 0
  ·subst h; rw [bln_zero]; decide
  ·rw [bln_pos h, Nat.pow_succ]
   have := ih (n / 2) (by omega)
   omega
theorem bln_le {n k : Nat} (h : n < 2 ^ k) : bln n ≤ k := by
  induction k generalizing n with
  | zero => have : n = 0 := by omega
            subst this; rw [bln_zero]; exact Nat.le_refl _
  | succ k ih =>
    by_cases h0 : n = 0
    · subst h0; rw [bln_zero]; omega
    · rw [bln_pos h0]
      have := ih (n := n / 2) (by rw [Nat.pow_succ] at h; omega)
      omega
theorem val_cut (l : List Nat) (m : Nat) : val l = val (l.take m) + 4294967296 ^ m * val (l.drop m) := by
 by_cases h : m ≤ l.length
 ·conv => lhs; rw [← List.take_append_drop m l, val_append, List.length_take, Nat.min_eq_left h]
 ·rw [List.take_of_length_le (by omega), List.drop_of_length_le (by omega)]; simp [val]
theorem val_drop (l : List Nat) (m : Nat) : val (l.drop m) = l.getD m 0 + 4294967296 * val (l.drop (m + 1)) := by
 by_cases h : m < l.length
 ·have := drop_cons l (n := m + 1) (by omega) (by omega)
  exact this
 ·rw [List.drop_of_length_le (by omega), List.drop_of_length_le (by omega), List.getD_eq_getElem?_getD, List.getElem?_eq_none (by omega)]; simp [val]
theorem take_lt {l : List Nat} (h : WL l) (m : Nat) : val (l.take m) < 4294967296 ^ m :=
 Nat.lt_of_lt_of_le (val_lt (WL_take h m)) (Nat.pow_le_pow_right (by omega) (by rw [List.length_take]; omega))
theorem cmp_at {x y : List Nat} {m : Nat} (hx : WL x) (hd : val (x.drop (m + 1)) = val (y.drop (m + 1))) (h : x.getD m 0 < y.getD m 0) : val x < val y := by
 have h1 := val_cut x m
 have h2 := val_cut y m
 have h3 := take_lt hx m
 rw [val_drop, hd] at h1
 rw [val_drop] at h2
 generalize 4294967296 ^ m = p at *
 have : p * (x.getD m 0 + 4294967296 * val (y.drop (m + 1)) + 1) ≤ p * (y.getD m 0 + 4294967296 * val (y.drop (m + 1))) := Nat.mul_le_mul_left _ (by omega)
 rw [Nat.mul_add p _ 1] at this
 omega
theorem minus_e {x y c : Nat} (hx : x < 4294967296) (hy : y < 4294967296) (hc : c ≤ 1) : ∃ s : Nat, ((((4294967296 + (x : Int)) % 18446744073709551616 - (y : Int)) % 18446744073709551616 - (c : Int)) % 18446744073709551616) = (s : Int) ∧
  (1 - (s : Int) / 4294967296) % 18446744073709551616 = ((1 - s / 4294967296 : Nat) : Int) ∧ s % 4294967296 + y + c = x + 4294967296 * (1 - s / 4294967296) ∧ 1 - s / 4294967296 ≤ 1 := by
 exact ⟨4294967296 + x - y - c, by omega, by omega, by omega, by omega⟩
theorem plus_aux {V Q c xa ya a b u w B : Nat} (h : V + Q * c = xa + ya) (hs : u + B * w = a + b + c) : V + Q * u + Q * B * w = xa + Q * a + (ya + Q * b) := by
 have := congrArg (Q * ·) hs
 simp only [Nat.mul_add] at this
 rw [Nat.mul_assoc Q B w]
 omega
theorem len_od {o l post : List Nat} (h : o.length ≤ l.length) : (o ++ (l.drop o.length ++ post)).length = l.length + post.length := by simp; omega
theorem take_od {o l post : List Nat} (h : o.length ≤ l.length) : (o ++ (l.drop o.length ++ post)).take l.length = o ++ l.drop o.length := by
 rw [← List.append_assoc, List.take_append_of_le_length (by simp; omega), List.take_of_length_le (by simp; omega)]
theorem get_od (o l : List Nat) (k : Nat) : (o ++ l.drop o.length).getD (o.length + k) 0 = l.getD (o.length + k) 0 := by
 simp only [List.getD_eq_getElem?_getD]
 rw [List.getElem?_append_right (by omega), List.getElem?_drop, show o.length + (o.length + k - o.length) = o.length + k by omega]
theorem get_od0 (o l : List Nat) : (o ++ l.drop o.length).getD o.length 0 = l.getD o.length 0 := get_od o l 0
theorem set_od {o l post : List Nat} (v : Nat) (h : o.length < l.length) : (o ++ (l.drop o.length ++ post)).set o.length v = (o ++ [v]) ++ (l.drop (o ++ [v]).length ++ post) := by
 have := set_mid [] o l post v h
 simpa using this
theorem len_od0 {o l : List Nat} (h : o.length ≤ l.length) : (o ++ l.drop o.length).length = l.length := by simp; omega
theorem set_od0 {o l : List Nat} (v : Nat) (h : o.length < l.length) : (o ++ l.drop o.length).set o.length v = (o ++ [v]) ++ l.drop (o ++ [v]).length := by
 have := set_od (post := []) v h
 simpa using this
theorem WL_od {o l : List Nat} (ho : WL o) (hl : WL l) : WL (o ++ l.drop o.length) := WL_append.2 ⟨ho, WL_drop hl _⟩
theorem halve_or {a b : Nat} (ha : a < 4294967296) (hb : b < 4294967296) : (a / 2 ||| b * 2147483648 % 18446744073709551616) % 4294967296 = (a + 4294967296 * b) / 2 ^ 1 % 4294967296 := by
 have := Nat.two_pow_add_eq_or_of_lt (i := 31) (b := a / 2) (by omega) b
 rw [Nat.mod_eq_of_lt (show b * 2147483648 < 18446744073709551616 by omega), Nat.or_comm, show b * 2147483648 = 2 ^ 31 * b by omega, ← this]
 omega
theorem get_app {l post : List Nat} {i : Nat} (h : i < l.length) : (l ++ post).getD i 0 = l.getD i 0 := by
 simp only [List.getD_eq_getElem?_getD]; rw [List.getElem?_append_left h]
theorem digs_pos_len {a : Nat} (h : a ≠ 0) : 0 < (digs a).length := by rw [digs_pos h]; simp
theorem digs_head {a : Nat} (h : a ≠ 0) (p : List Nat) : (digs a ++ p).getD 0 0 = a % 4294967296 := by rw [digs_pos h]; rfl
theorem digs_len0 {a : Nat} : (digs a).length = 0 ↔ a = 0 := by rw [List.length_eq_zero_iff, digs_eq_nil]
theorem gcd_ee {a b k g : Nat} (ha : a % 2 = 0) (hb : b % 2 = 0) (h : Nat.gcd a b * 2 ^ k = g) : Nat.gcd (a / 2) (b / 2) * 2 ^ (k + 1) = g := by
 obtain ⟨a', rfl⟩ : ∃ a', a = 2 * a' := ⟨a / 2, by omega⟩
 obtain ⟨b', rfl⟩ : ∃ b', b = 2 * b' := ⟨b / 2, by omega⟩
 rw [Nat.gcd_mul_left] at h
 rw [Nat.mul_div_cancel_left _ (by omega), Nat.mul_div_cancel_left _ (by omega), Nat.pow_succ, ← h]
 rw [Nat.mul_comm (2 ^ k) 2, ← Nat.mul_assoc, Nat.mul_comm _ 2]
theorem gcd_eo {a b : Nat} (ha : a % 2 = 0) (hb : b % 2 ≠ 0) : Nat.gcd (a / 2) b = Nat.gcd a b := by
 obtain ⟨a', rfl⟩ : ∃ a', a = 2 * a' := ⟨a / 2, by omega⟩
 rw [Nat.mul_div_cancel_left _ (by omega)]
 have : Nat.Coprime 2 b := by
  rw [Nat.coprime_iff_gcd_eq_one, Nat.gcd_rec, show b % 2 = 1 by omega]; rfl
 exact (Nat.Coprime.gcd_mul_left_cancel a' this).symm
theorem gcd_oe {a b : Nat} (ha : a % 2 ≠ 0) (hb : b % 2 = 0) : Nat.gcd a (b / 2) = Nat.gcd a b := by
 rw [Nat.gcd_comm a, Nat.gcd_comm a]; exact gcd_eo hb ha
theorem gcd_sub {a b : Nat} (h : b ≤ a) : Nat.gcd (a - b) b = Nat.gcd a b := Nat.gcd_sub_self_left h
theorem pow_lim {k n : Nat} (h : 2 ^ k ≤ n) {s : Nat} (hn : n < 4294967296 ^ s) : k < 32 * s := by
 have e : (4294967296 : Nat) ^ s = 2 ^ (32 * s) := by rw [Nat.pow_mul]
 rw [e] at hn
 exact (Nat.pow_lt_pow_iff_right (by omega)).1 (Nat.lt_of_le_of_lt h hn)
theorem ordN_neg {a b : Nat} : ordN a b < 0 ↔ a < b := by unfold ordN; split <;> (try split) <;> omega
theorem bits_lt {x : List Nat} (hx : WL x) (h : x.length ≠ 0) : val x < 2 ^ (32 * (x.length - 1) + bln (x.getD (x.length - 1) 0)) := by
 have h1 := val_cut x (x.length - 1)
 have h2 := val_drop x (x.length - 1)
 rw [show x.length - 1 + 1 = x.length by omega, List.drop_length] at h2
 have h3 := take_lt hx (x.length - 1)
 have h4 := lt_bln (x.getD (x.length - 1) 0)
 have e : (4294967296 : Nat) ^ (x.length - 1) = 2 ^ (32 * (x.length - 1)) := by rw [Nat.pow_mul]
 rw [h2, show val [] = 0 from rfl, Nat.mul_zero, Nat.add_zero] at h1
 rw [Nat.pow_add, ← e]
 generalize 4294967296 ^ (x.length - 1) = p at *
 generalize 2 ^ bln (x.getD (x.length - 1) 0) = q at *
 have : p * (x.getD (x.length - 1) 0 + 1) ≤ p * q := Nat.mul_le_mul_left _ h4
 rw [Nat.mul_add, Nat.mul_one] at this
 omega
theorem digit (x : List Nat) {m : Nat} (hx : WL x) : val x / 4294967296 ^ m = x.getD m 0 + 4294967296 * val (x.drop (m + 1)) := by
 rw [val_cut x m, val_drop, Nat.add_mul_div_left _ _ (Nat.pow_pos (by omega)), Nat.div_eq_of_lt (take_lt hx m), Nat.zero_add]
theorem pow_parts (i : Nat) : (2 : Nat) ^ i = 4294967296 ^ (i / 32) * 2 ^ (i % 32) := by
 have e : (4294967296 : Nat) ^ (i / 32) = 2 ^ (32 * (i / 32)) := by rw [Nat.pow_mul]
 rw [e, ← Nat.pow_add, Nat.div_add_mod]
theorem bit_at {x : List Nat} (hx : WL x) (i : Nat) : x.getD (i / 32) 0 / 2 ^ (i % 32) % 2 = val x / 2 ^ i % 2 := by
 rw [pow_parts i, ← Nat.div_div_eq_div_mul, digit x hx]
 have hs : i % 32 < 32 := Nat.mod_lt _ (by omega)
 generalize i % 32 = s at *
 generalize val (x.drop (i / 32 + 1)) = r
 have e : (4294967296 : Nat) = 2 ^ s * (2 * 2 ^ (31 - s)) := by
  rw [Nat.mul_left_comm, ← Nat.pow_add, show s + (31 - s) = 31 by omega]
 rw [e, Nat.mul_assoc, Nat.add_mul_div_left _ _ (Nat.pow_pos (by omega)), Nat.mul_assoc, Nat.add_mul_mod_self_left]
theorem bit_next (v i : Nat) : v / 2 ^ i = 2 * (v / 2 ^ (i + 1)) + v / 2 ^ i % 2 := by
 rw [Nat.pow_succ, ← Nat.div_div_eq_div_mul]; omega
theorem shl_or {a c : Nat} (hc : c ≤ 1) : a * 2 % 4294967296 ||| c = a * 2 % 4294967296 + c := by
 have := Nat.two_pow_add_eq_or_of_lt (i := 1) (b := c) (by omega) (a * 2 % 4294967296 / 2)
 rw [show 2 ^ 1 * (a * 2 % 4294967296 / 2) = a * 2 % 4294967296 by omega] at this
 exact this.symm
theorem set_bit {a s : Nat} (hs : s < 32) (h : a % 2 ^ (s + 1) = 0) : a ||| 2 ^ s = a + 2 ^ s := by
 have := Nat.two_pow_add_eq_or_of_lt (i := s + 1) (b := 2 ^ s) (Nat.pow_lt_pow_right (by omega) (by omega)) (a / 2 ^ (s + 1))
 rw [Nat.mul_div_cancel' (Nat.dvd_of_mod_eq_zero h)] at this
 exact this.symm
theorem low_bits {q : List Nat} (hq : WL q) {i Q : Nat} (h : val q = Q * 2 ^ (i + 1)) : q.getD (i / 32) 0 % 2 ^ (i % 32 + 1) = 0 := by
 have hs : i % 32 < 32 := Nat.mod_lt _ (by omega)
 have h1 := digit q hq (m := i / 32)
 have e1 : (2 : Nat) ^ (i + 1) = 4294967296 ^ (i / 32) * 2 ^ (i % 32 + 1) := by rw [Nat.pow_succ, pow_parts, Nat.pow_succ, Nat.mul_assoc]
 rw [h, e1, Nat.mul_left_comm, Nat.mul_div_cancel_left _ (Nat.pow_pos (by omega))] at h1
 generalize i % 32 = s at *
 generalize val (q.drop (i / 32 + 1)) = r at *
 have e2 : (4294967296 : Nat) = 2 ^ (s + 1) * 2 ^ (31 - s) := by
  rw [← Nat.pow_add, show s + 1 + (31 - s) = 32 by omega]
 have : (q.getD (i / 32) 0 + 4294967296 * r) % 2 ^ (s + 1) = 0 := by rw [← h1]; exact Nat.mul_mod_left _ _
 rw [e2, Nat.mul_assoc, Nat.add_mul_mod_self_left] at this
 exact this
theorem shl_step {vo p c tr bit x : Nat} (h : vo + p * c = 2 * tr + bit) (hx : x < 4294967296) : vo + p * (x * 2 % 4294967296 + c) + p * 4294967296 * (x / 2147483648) = 2 * (tr + p * x) + bit := by
 have e : x * 2 % 4294967296 + 4294967296 * (x / 2147483648) = 2 * x := by omega
 have := congrArg (p * ·) e
 simp only [Nat.mul_add] at this ⊢
 rw [Nat.mul_assoc p 4294967296]
 have e2 : p * (2 * x) = 2 * (p * x) := by rw [Nat.mul_left_comm]
 omega
theorem div_step1 {v y i q r bit : Nat} (hy : 0 < y) (hb : v / 2 ^ i % 2 = bit) (hq : q = v / 2 ^ (i + 1) / y * 2 ^ (i + 1)) (hr : r = v / 2 ^ (i + 1) % y) (h : y ≤ 2 * r + bit) : q + 2 ^ i = v / 2 ^ i / y * 2 ^ i ∧ 2 * r + bit - y = v / 2 ^ i % y := by
 have e := bit_next v i
 rw [hb] at e
 have d := Nat.div_add_mod (v / 2 ^ (i + 1)) y
 have hm := Nat.mod_lt (v / 2 ^ (i + 1)) hy
 rw [← hr] at d hm
 generalize hQ : v / 2 ^ (i + 1) / y = Q at *
 generalize v / 2 ^ (i + 1) = X at *
 have hb1 : bit ≤ 1 := by omega
 have key : v / 2 ^ i = y * (2 * Q + 1) + (2 * r + bit - y) := by
  have e2 : y * (2 * Q + 1) = 2 * (y * Q) + y := by rw [Nat.mul_add, Nat.mul_one, Nat.mul_left_comm y 2 Q]
  rw [e, ← d, e2]; omega
 have hlt : 2 * r + bit - y < y := by omega
 constructor
 ·rw [key, Nat.mul_add_div hy, Nat.div_eq_of_lt hlt, Nat.add_zero, hq, Nat.pow_succ, Nat.add_mul, Nat.one_mul, Nat.mul_comm 2 Q, Nat.mul_assoc, Nat.mul_comm 2]
 ·rw [key, Nat.mul_add_mod, Nat.mod_eq_of_lt hlt]
theorem div_step0 {v y i q r bit : Nat} (hy : 0 < y) (hb : v / 2 ^ i % 2 = bit) (hq : q = v / 2 ^ (i + 1) / y * 2 ^ (i + 1)) (hr : r = v / 2 ^ (i + 1) % y) (h : 2 * r + bit < y) : q = v / 2 ^ i / y * 2 ^ i ∧ 2 * r + bit = v / 2 ^ i % y := by
 have e := bit_next v i
 rw [hb] at e
 have d := Nat.div_add_mod (v / 2 ^ (i + 1)) y
 rw [← hr] at d
 generalize hQ : v / 2 ^ (i + 1) / y = Q at *
 generalize v / 2 ^ (i + 1) = X at *
 have key : v / 2 ^ i = y * (2 * Q) + (2 * r + bit) := by
  have e2 : y * (2 * Q) = 2 * (y * Q) := by rw [Nat.mul_left_comm y 2 Q]
  rw [e, ← d, e2]; omega
 constructor
 ·rw [key, Nat.mul_add_div hy, Nat.div_eq_of_lt h, Nat.add_zero, hq, Nat.pow_succ, Nat.mul_comm 2 Q, Nat.mul_assoc, Nat.mul_comm 2]
 ·rw [key, Nat.mul_add_mod, Nat.mod_eq_of_lt h]
end Go.Num
namespace Go.Abs
open Go.Num
theorem share4 {c1 c2 c3 p d1 d2 d3 q X L : Prop} (h1 : c1) (h2 : c2) (h3 : c3) (k1 : d1) (k2 : d2) (k3 : d3) (hx : p → q → X) (hl : ¬ p ∨ ¬ q → L) : c1 ∧ c2 ∧ c3 ∧ (p → d1 ∧ d2 ∧ d3 ∧ (q → X) ∧ (¬ q → L)) ∧ (¬ p → L) :=
 ⟨h1, h2, h3, fun hp => ⟨k1, k2, k3, hx hp, fun hq => hl (.inr hq)⟩, fun hp => hl (.inl hp)⟩
theorem and32_1 (K : AV → Prop) (a : Nat) : arith K .and .u32 (a : Int) 1 = (a < 2 ^ IntKind.u32.bits ∧ intR K .u32 ((a % 2 : Nat) : Int)) := arith_and1 K .u32 a rfl (by decide)
theorem okH_1' {h' : Nat → HB} {k v v' z : Nat} {b : Bool} {es : List (List C)} {l' : List Nat} {r : List (Nat × HB)} (e : es = l'.map wc) : okH (mkH ((k, ⟨v, some ⟨es, z, b⟩⟩) :: r)) h' [(k, ⟨v', some ⟨l'.map wc, z, b⟩⟩)] := by
 subst e; exact okH_1 rfl
theorem okB_wc' {h h' : Nat → HB} {z : Nat} {b : Bool} {es : List (List C)} {l' : List Nat} (e : es = l'.map wc) : okB h h' (some ⟨es, z, b⟩) (some ⟨l'.map wc, z, b⟩) := by
 subst e; exact okB_wc rfl
theorem set_wc' (L : List Nat) (i s : Nat) : (L.map wc).set i [C.lit (.int .u32 ((s : Int) % 4294967296))] = (L.set i (s % 4294967296)).map wc := by
 rw [List.map_set]; simp [wc]
def onWx (k : List Nat → Prop) (a : AV) : Prop := ∃ l, (a = .one (ws l) ∨ a = .one (.full (l.map wc)) ∨ (a = .one .emp ∧ l = [])) ∧ WL l ∧ k l
@[congr] theorem onWx_cg {k : List Nat → Prop} {a a' : AV} (h : a = a') : onWx k a = onWx k a' := by subst h; rfl
theorem onWx_e (k : List Nat → Prop) (l : List Nat) : onWx k (.one (.slice (l.map wc))) = (WL l ∧ k l) := by
 refine propext ⟨fun ⟨x, h, h1, h2⟩ => ?_, fun h => ⟨l, .inl rfl, h⟩⟩
 rcases h with h | h | h
 ·have := wsA_inj l x h; subst this; exact ⟨h1, h2⟩
 ·simp at h
 ·simp at h
theorem onWx_f (k : List Nat → Prop) (l : List Nat) : onWx k (.one (.full (l.map wc))) = (WL l ∧ k l) := by
 refine propext ⟨fun ⟨x, h, h1, h2⟩ => ?_, fun h => ⟨l, .inr (.inl rfl), h⟩⟩
 rcases h with h | h | h
 ·simp [ws] at h
 ·have := map_wc_inj (x := l) (y := x) (by simpa using h); subst this; exact ⟨h1, h2⟩
 ·simp at h
theorem onWx_0 (k : List Nat → Prop) : onWx k (.one .emp) = k [] := by
 refine propext ⟨fun ⟨x, h, h1, h2⟩ => ?_, fun h => ⟨[], .inr (.inr ⟨rfl, rfl⟩), WL_nil, h⟩⟩
 rcases h with h | h | h
 ·simp [ws] at h
 ·simp at h
 ·obtain ⟨_, rfl⟩ := h; exact h2
attribute [go_sem] onWx_e onWx_f onWx_0
attribute [go_sem ↓] onWx_e onWx_f onWx_0
theorem g_onWx {β : Type} {T : List Nat → (β → Prop) → Prop} (h : ∀ l, GoodT (T l)) {a : AV} : GoodT fun K => onWx (fun l => T l K) a :=
 .of fun K hx => by
  obtain ⟨l, ha, hw, hk⟩ := hx
  rcases ha with ha | ha | ⟨ha, rfl⟩
  ·have : (fun K => onWx (fun l => T l K) a) = fun K => WL l ∧ T l K := funext fun K => by rw [ha]; exact onWx_e _ l
   rw [this]; exact .and fun _ => h l
  ·have : (fun K => onWx (fun l => T l K) a) = fun K => WL l ∧ T l K := funext fun K => by rw [ha]; exact onWx_f _ l
   rw [this]; exact .and fun _ => h l
  ·have : (fun K => onWx (fun l => T l K) a) = T [] := funext fun K => by rw [ha]; exact onWx_0 _
   rw [this]; exact h []
def tr01_G (l : List AV) (K : List (List C) → Prop) : Prop :=
 match l with
 | [a] => onWx (fun l => l.length ≤ 68719476736 ∧ K ((digs (val l)).map wc)) a
 | _ => False
theorem tr01_Ge (a : AV) (K : List (List C) → Prop) : tr01_G [a] K = (onWx (fun l => l.length ≤ 68719476736 ∧ K ((digs (val l)).map wc)) a) := propext Iff.rfl
@[congr] theorem tr01_Gc {K : List (List C) → Prop} {l l' : List AV} (h : l = l') : tr01_G l K = tr01_G l' K := by subst h; rfl
attribute [go_sem] tr01_Ge
attribute [go_sem ↓] tr01_Ge
theorem tr01_good : Good tr01_G := good_of fun as => by
 unfold tr01_G
 split
 ·exact (g_onWx fun _ => (.and fun _ => (.ret _)))
 ·exact .of fun K hk => hk.elim
def cmp01_G (l : List AV) (K : AV → Prop) : Prop :=
 match l with
 | [a, b] => onWs (fun x => onWs (fun y => K (.one (.lit (.int .i64 (ordN (val x) (val y)))))) b) a
 | _ => False
theorem cmp01_Ge (a b : AV) (K : AV → Prop) : cmp01_G [a, b] K = (onWs (fun x => onWs (fun y => K (.one (.lit (.int .i64 (ordN (val x) (val y)))))) b) a) := propext Iff.rfl
@[congr] theorem cmp01_Gc {K : AV → Prop} {l l' : List AV} (h : l = l') : cmp01_G l K = cmp01_G l' K := by subst h; rfl
attribute [go_sem] cmp01_Ge
attribute [go_sem ↓] cmp01_Ge
theorem cmp01_good : Good cmp01_G := good_of fun as => by
 unfold cmp01_G
 split
 ·exact (g_onWs fun _ => (g_onWs fun _ => (.ret _)))
 ·exact .of fun K hk => hk.elim
def gcd01_G (l : List AV) (K : AV → Prop) : Prop :=
 match l with
 | [a, b] => onWs (fun x => onWs (fun y => x.length ≤ 17179869184 ∧ y.length ≤ 17179869184 ∧ K (.one (.slice ((digs (Nat.gcd (val x) (val y))).map wc)))) b) a
 | _ => False
theorem gcd01_Ge (a b : AV) (K : AV → Prop) : gcd01_G [a, b] K = (onWs (fun x => onWs (fun y => x.length ≤ 17179869184 ∧ y.length ≤ 17179869184 ∧ K (.one (.slice ((digs (Nat.gcd (val x) (val y))).map wc)))) b) a) := propext Iff.rfl
@[congr] theorem gcd01_Gc {K : AV → Prop} {l l' : List AV} (h : l = l') : gcd01_G l K = gcd01_G l' K := by subst h; rfl
attribute [go_sem] gcd01_Ge
attribute [go_sem ↓] gcd01_Ge
theorem gcd01_good : Good gcd01_G := good_of fun as => by
 unfold gcd01_G
 split
 ·exact (g_onWs fun _ => (g_onWs fun _ => (.and fun _ => (.and fun _ => (.ret _)))))
 ·exact .of fun K hk => hk.elim
def bits01_G (l : List AV) (K : AV → Prop) : Prop :=
 match l with
 | [a] => onWs (fun x => x.length ≤ 68719476736 ∧ K (.one (.lit (.int .i64 ((if x.length = 0 then 0 else 32 * (x.length - 1) + bln (x.getD (x.length - 1) 0) : Nat) : Int))))) a
 | _ => False
theorem bits01_Ge (a : AV) (K : AV → Prop) : bits01_G [a] K = (onWs (fun x => x.length ≤ 68719476736 ∧ K (.one (.lit (.int .i64 ((if x.length = 0 then 0 else 32 * (x.length - 1) + bln (x.getD (x.length - 1) 0) : Nat) : Int))))) a) := propext Iff.rfl
@[congr] theorem bits01_Gc {K : AV → Prop} {l l' : List AV} (h : l = l') : bits01_G l K = bits01_G l' K := by subst h; rfl
attribute [go_sem] bits01_Ge
attribute [go_sem ↓] bits01_Ge
theorem bits01_good : Good bits01_G := good_of fun as => by
 unfold bits01_G
 split
 ·exact (g_onWs fun _ => (.and fun _ => (.ret _)))
 ·exact .of fun K hk => hk.elim
def zsub_G (l : List AV) (K : AV → Prop) : Prop :=
 match l with
 | [a, b] => onW (fun v => onW (fun w => zs (zv v) ≤ 17179869184 ∧ zs (zv w) ≤ 17179869184 ∧ K (.agg [zb (zcan (zv v - zv w)), zm (zcan (zv v - zv w))])) b) a
 | _ => False
theorem zsub_Ge (a b : AV) (K : AV → Prop) : zsub_G [a, b] K = (onW (fun v => onW (fun w => zs (zv v) ≤ 17179869184 ∧ zs (zv w) ≤ 17179869184 ∧ K (.agg [zb (zcan (zv v - zv w)), zm (zcan (zv v - zv w))])) b) a) := propext Iff.rfl
@[congr] theorem zsub_Gc {K : AV → Prop} {l l' : List AV} (h : l = l') : zsub_G l K = zsub_G l' K := by subst h; rfl
attribute [go_sem] zsub_Ge
attribute [go_sem ↓] zsub_Ge
theorem zsub_good : Good zsub_G := good_of fun as => by
 unfold zsub_G
 split
 ·exact (g_onW fun _ => (g_onW fun _ => (.and fun _ => (.and fun _ => (.ret _)))))
 ·exact .of fun K hk => hk.elim
def zcmp01_G (l : List AV) (K : AV → Prop) : Prop :=
 match l with
 | [a, b] => onW (fun v => onW (fun w => zs (zv v) ≤ 17179869184 ∧ zs (zv w) ≤ 17179869184 ∧ zs (zv v - zv w) ≤ 17179869184 ∧ K (.one (.lit (.int .i64 (ordI (zv v) (zv w)))))) b) a
 | _ => False
theorem zcmp01_Ge (a b : AV) (K : AV → Prop) : zcmp01_G [a, b] K = (onW (fun v => onW (fun w => zs (zv v) ≤ 17179869184 ∧ zs (zv w) ≤ 17179869184 ∧ zs (zv v - zv w) ≤ 17179869184 ∧ K (.one (.lit (.int .i64 (ordI (zv v) (zv w)))))) b) a) := propext Iff.rfl
@[congr] theorem zcmp01_Gc {K : AV → Prop} {l l' : List AV} (h : l = l') : zcmp01_G l K = zcmp01_G l' K := by subst h; rfl
attribute [go_sem] zcmp01_Ge
attribute [go_sem ↓] zcmp01_Ge
theorem zcmp01_good : Good zcmp01_G := good_of fun as => by
 unfold zcmp01_G
 split
 ·exact (g_onW fun _ => (g_onW fun _ => (.and fun _ => (.and fun _ => (.and fun _ => (.ret _))))))
 ·exact .of fun K hk => hk.elim
def zdiv01_G (l : List AV) (K : AV → Prop) : Prop :=
 match l with
 | [a, b] => onW (fun v => onW (fun w => zs (zv v) ≤ 17179869184 ∧ zs (zv w) ≤ 17179869184 ∧ zv w ≠ 0 ∧ K (.tup [.agg [zb (zcan (zv v / zv w)), zm (zcan (zv v / zv w))], .agg [zb (zcan (zv v % zv w)), zm (zcan (zv v % zv w))], .one (.lit (.int .i64 0))])) b) a
 | _ => False
theorem zdiv01_Ge (a b : AV) (K : AV → Prop) : zdiv01_G [a, b] K = (onW (fun v => onW (fun w => zs (zv v) ≤ 17179869184 ∧ zs (zv w) ≤ 17179869184 ∧ zv w ≠ 0 ∧ K (.tup [.agg [zb (zcan (zv v / zv w)), zm (zcan (zv v / zv w))], .agg [zb (zcan (zv v % zv w)), zm (zcan (zv v % zv w))], .one (.lit (.int .i64 0))])) b) a) := propext Iff.rfl
@[congr] theorem zdiv01_Gc {K : AV → Prop} {l l' : List AV} (h : l = l') : zdiv01_G l K = zdiv01_G l' K := by subst h; rfl
attribute [go_sem] zdiv01_Ge
attribute [go_sem ↓] zdiv01_Ge
theorem zdiv01_good : Good zdiv01_G := good_of fun as => by
 unfold zdiv01_G
 split
 ·exact (g_onW fun _ => (g_onW fun _ => (.and fun _ => (.and fun _ => (.and fun _ => (.ret _))))))
 ·exact .of fun K hk => hk.elim
def cut_G (d : Option Nat) (args : List AV) (h : Nat → HB) (K : AV → (Nat → HB) → Prop) : Prop :=
 match args with
 | [.one (.own r ver 1 0 len)] => ∃ l post, len = l.length ∧ h r = ⟨ver, some ⟨(l ++ post).map wc, 1, true⟩⟩ ∧ WL l ∧ len ≤ 68719476736 ∧
   ∀ post', K (.one (.own r ver 1 0 (digs (val l)).length)) (upd h r ⟨ver, some ⟨(digs (val l) ++ post').map wc, 1, true⟩⟩)
 | _ => False
@[congr] theorem cut_Gc {d : Option Nat} {l l' : List AV} {h h' : Nat → HB} {K : AV → (Nat → HB) → Prop} (e1 : l = l') (e2 : h = h') : cut_G d l h K = cut_G d l' h' K := by subst e1; subst e2; rfl
def halve_G (d : Option Nat) (args : List AV) (h : Nat → HB) (K : AV → (Nat → HB) → Prop) : Prop :=
 match args with
 | [.one (.own r ver 1 0 len)] => ∃ l post, len = l.length ∧ h r = ⟨ver, some ⟨(l ++ post).map wc, 1, true⟩⟩ ∧ WL l ∧ len ≤ 68719476736 ∧
   ∀ post', K (.one (.own r ver 1 0 (digs (val l / 2)).length)) (upd h r ⟨ver, some ⟨(digs (val l / 2) ++ post').map wc, 1, true⟩⟩)
 | _ => False
@[congr] theorem halve_Gc {d : Option Nat} {l l' : List AV} {h h' : Nat → HB} {K : AV → (Nat → HB) → Prop} (e1 : l = l') (e2 : h = h') : halve_G d l h K = halve_G d l' h' K := by subst e1; subst e2; rfl
def take_G (d : Option Nat) (args : List AV) (h : Nat → HB) (K : AV → (Nat → HB) → Prop) : Prop :=
 match args with
 | [.one (.own r ver 1 0 len), .one (.own r2 ver2 1 0 len2)] => ∃ l post y posty, r ≠ r2 ∧ len = l.length ∧ h r = ⟨ver, some ⟨(l ++ post).map wc, 1, true⟩⟩ ∧ WL l ∧ len ≤ 68719476736 ∧
   len2 = y.length ∧ h r2 = ⟨ver2, some ⟨(y ++ posty).map wc, 1, true⟩⟩ ∧ WL y ∧ val y ≤ val l ∧
   K (.tup []) (upd (upd h r2 ⟨ver2, some ⟨(y ++ posty).map wc, 1, true⟩⟩) r ⟨ver, some ⟨(dig l.length (val l - val y) ++ post).map wc, 1, true⟩⟩)
 | [.one (.own r ver 1 0 len), b] => onWs (fun y => ∃ l post, len = l.length ∧ h r = ⟨ver, some ⟨(l ++ post).map wc, 1, true⟩⟩ ∧ WL l ∧ len ≤ 68719476736 ∧ val y ≤ val l ∧
   K (.tup []) (upd h r ⟨ver, some ⟨(dig l.length (val l - val y) ++ post).map wc, 1, true⟩⟩)) b
 | _ => False
@[congr] theorem take_Gc {d : Option Nat} {l l' : List AV} {h h' : Nat → HB} {K : AV → (Nat → HB) → Prop} (e1 : l = l') (e2 : h = h') : take_G d l h K = take_G d l' h' K := by subst e1; subst e2; rfl
end Go.Abs
end
section
set_option linter.unusedVariables false
set_option linter.unusedSimpArgs false
set_option maxRecDepth 100000
namespace Go.Abs
open Go.Num
variable {P : Program} {Γ : Nat → Spec}
def ac_linkworkref02_Valid (f0 f1 f2 f3 : Nat) : AC := (.seq (.ops false [.u 1 (.box 3 (.t 0)), .m 2 .fa])
 (.fg [1] (.seq (.seq (.ops false [.u 3 (.fa 1 (.t 1)), .u 4 (.ld none 1 false (.t 3)), .u 5 (.len (.t 4)), .u 6 (.bin .eql (.t 5) (.i 0)), .m 7 (.t 6), .w 8 7 true (.fa 2 (.t 1)), .w 9 7 true (.ld none 1 false (.t 8)), .w 10 7 true (.len (.t 9)), .w 11 7 true (.bin .eql (.t 10) (.i 0)), .u 12 (.pick (.t 7) (.t 11) .fa)])
 (.fg [1, 12] (.cond (.t 12) (.seq (.ops false [.u 13 (.fa 0 (.t 1)), .u 14 (.ld none 1 false (.t 13)), .u 15 (.un .not (.t 14)), .m 2 (.t 15)])
 .ret) .skip)))
 (.fg [1] (.seq (.ops false [.u 16 (.fa 1 (.t 1)), .u 17 (.ld none 1 false (.t 16)), .u 18 (.call f0 [(.t 17)]), .m 19 (.t 18), .w 20 19 true (.fa 2 (.t 1)), .w 21 19 true (.ld none 1 false (.t 20)), .w 22 19 true (.call f0 [(.t 21)]), .u 23 (.pick (.t 19) (.t 22) .fa), .m 24 (.t 23), .w 25 24 true (.fa 1 (.t 1)), .w 26 24 true (.ld none 1 false (.t 25)), .w 27 24 true (.build [.z [(.lit (.bool false))], .x 1 (.t 26)]), .w 28 24 true (.fa 2 (.t 1)), .w 29 24 true (.ld none 1 false (.t 28)), .w 30 24 true (.build [.z [(.lit (.bool false))], .x 1 (.t 29)]), .w 31 24 true (.call f1 [(.t 27), (.t 30)]), .w 32 24 true (.call f2 []), .w 33 24 true (.call f3 [(.t 31), (.t 32)]), .w 34 24 true (.bin .eql (.t 33) (.i 0)), .u 35 (.pick (.t 24) (.t 34) .fa), .m 2 (.t 35)])
 .ret)))))
def ac_linkworkref02_Parts (f0 f1 : Nat) : AC := (.seq (.ops false [.u 1 (.box 3 (.t 0)), .u 2 (.alloc [(.lit (.bool false)), .emp]), .u 3 (.alloc [(.lit (.bool false)), .emp])])
 (.fg [1, 2, 3] (.seq (.seq (.ops false [.u 4 (.ld none 3 true (.t 1)), .u 5 (.call f0 [(.t 4)]), .u 6 (.un .not (.t 5)), .m 7 (.t 6), .w 8 7 false (.fa 1 (.t 1)), .w 9 7 false (.ld none 1 false (.t 8)), .w 10 7 false (.len (.t 9)), .w 11 7 false (.bin .eql (.t 10) (.i 0)), .u 12 (.pick (.t 7) .tr (.t 11))])
 (.fg [1, 2, 3, 12] (.cond (.t 12) (.seq (.ops false [.u 13 (.build [.z [(.lit (.bool false)), .emp]]), .u 14 (.call f1 []), .n (.st none 2 (.t 2) (.t 13)), .n (.st none 2 (.t 3) (.t 14))])
 .ret) .skip)))
 (.fg [1, 2, 3] (.seq (.ops true [.u 15 (.fa 0 (.t 1)), .u 16 (.ld (some 1) 1 false (.t 15)), .u 17 (.fa 1 (.t 1)), .u 18 (.ld (some 1) 1 false (.t 17)), .u 19 (.build [.x 1 (.t 16), .x 1 (.t 18)]), .u 20 (.fa 2 (.t 1)), .u 21 (.ld (some 1) 1 false (.t 20)), .u 22 (.build [.z [(.lit (.bool false))], .x 1 (.t 21)]), .n (.st (some 2) 2 (.t 2) (.t 19)), .n (.st (some 3) 2 (.t 3) (.t 22))])
 .ret)))))
def ac_linkworkref02_form (f0 f1 f2 f3 : Nat) : AC := (.seq (.ops false [.u 2 (.box 2 (.t 0)), .u 3 (.box 2 (.t 1)), .u 4 (.alloc [(.lit (.bool false)), .emp, .emp])])
 (.fg [2, 3, 4] (.seq (.seq (.ops false [.u 12 (.ld none 2 true (.t 2)), .u 13 (.call f0 [(.t 12)]), .u 14 (.bin .eql (.t 13) (.i 0))])
 (.fg [2, 3, 4, 14] (.cond (.t 14) (.seq (.ops false [.u 15 (.build [.z [(.lit (.bool false)), .emp, .emp]]), .n (.st none 3 (.t 4) (.t 15))])
 .ret) .skip)))
 (.fg [2, 3, 4] (.seq (.seq (.ops false [.u 16 (.ld none 2 true (.t 3)), .u 17 (.call f0 [(.t 16)]), .u 18 (.bin .lss (.t 17) (.i 0))])
 (.fg [2, 3, 4, 18] (.cond (.t 18) (.ops true [.u 19 (.ld none 2 true (.t 2)), .u 20 (.call f1 [(.t 19)]), .u 21 (.ld none 2 true (.t 3)), .u 22 (.call f1 [(.t 21)]), .n (.st none 2 (.t 2) (.t 20)), .n (.st none 2 (.t 3) (.t 22))]) .skip)))
 (.fg [2, 3, 4] (.seq (.ops false [.u 23 (.ld none 2 true (.t 2)), .u 24 (.ld none 2 true (.t 3)), .u 25 (.call f2 [(.t 23), (.t 24)]), .u 5 (.alloc [(.lit (.bool false)), .emp]), .n (.st none 2 (.t 5) (.t 25))])
 (.fg [2, 3, 4, 5] (.seq (.ops false [.u 27 (.ld none 2 true (.t 2)), .u 28 (.ld none 2 true (.t 5)), .u 29 (.call f3 [(.t 27), (.t 28)]), .m 26 (.t 29), .u 30 (.ext 0 (.t 26)), .u 31 (.ext 1 (.t 26)), .u 32 (.ext 2 (.t 26)), .u 6 (.alloc [(.lit (.bool false)), .emp]), .u 7 (.alloc [(.lit (.bool false)), .emp]), .n (.st none 2 (.t 6) (.t 30)), .n (.st none 2 (.t 7) (.t 31)), .m 8 (.t 32)])
 (.fg [3, 4, 5, 6] (.seq (.ops false [.u 34 (.ld none 2 true (.t 3)), .u 35 (.ld none 2 true (.t 5)), .u 36 (.call f3 [(.t 34), (.t 35)]), .m 33 (.t 36), .u 37 (.ext 0 (.t 33)), .u 38 (.ext 1 (.t 33)), .u 39 (.ext 2 (.t 33)), .u 9 (.alloc [(.lit (.bool false)), .emp]), .u 10 (.alloc [(.lit (.bool false)), .emp]), .n (.st none 2 (.t 9) (.t 37)), .n (.st none 2 (.t 10) (.t 38)), .m 11 (.t 39)])
 (.fg [4, 6, 9] (.seq (.ops false [.u 40 (.fa 0 (.t 6)), .u 41 (.ld none 1 false (.t 40)), .u 42 (.fa 1 (.t 6)), .u 43 (.ld none 1 false (.t 42)), .u 44 (.fa 1 (.t 9)), .u 45 (.ld none 1 false (.t 44)), .u 46 (.build [.x 1 (.t 41), .x 1 (.t 43), .x 1 (.t 45)]), .n (.st none 3 (.t 4) (.t 46))])
 .ret)))))))))))))
def ac_linkworkref02_Cmp (f0 f1 : Nat) : AC := (.seq (.ops false [.u 2 (.box 3 (.t 0)), .u 3 (.box 3 (.t 1)), .m 4 (.i 0)])
 (.fg [2, 3] (.seq (.ops false [.u 5 (.ld none 3 true (.t 2)), .u 6 (.ld none 3 true (.t 3)), .u 7 (.call f0 [(.t 5), (.t 6)]), .u 8 (.call f1 [(.t 7)]), .m 4 (.t 8)])
 .ret)))
def ac_linkworkref02_From (f0 f1 : Nat) : AC := (.seq (.ops false [.u 2 (.box 2 (.t 0)), .u 3 (.box 2 (.t 1)), .u 4 (.alloc [(.lit (.bool false)), .emp, .emp]), .m 5 (.i 0)])
 (.fg [2, 3, 4] (.seq (.seq (.ops false [.u 6 (.ld none 2 true (.t 3)), .u 7 (.call f0 [(.t 6)]), .u 8 (.bin .eql (.t 7) (.i 0))])
 (.fg [2, 3, 4, 8] (.cond (.t 8) (.seq (.ops false [.u 9 (.build [.z [(.lit (.bool false)), .emp, .emp]]), .n (.st none 3 (.t 4) (.t 9)), .m 5 (.i 8)])
 .ret) .skip)))
 (.fg [2, 3, 4] (.seq (.ops false [.u 10 (.ld none 2 true (.t 2)), .u 11 (.ld none 2 true (.t 3)), .u 12 (.call f1 [(.t 10), (.t 11)]), .n (.st none 3 (.t 4) (.t 12)), .m 5 (.i 0)])
 .ret)))))
def ac_linkworkref02_Floor (f0 f1 : Nat) : AC := (.seq (.ops false [.u 1 (.box 3 (.t 0)), .u 2 (.alloc [(.lit (.bool false)), .emp])])
 (.fg [1, 2] (.seq (.ops false [.u 9 (.ld none 3 true (.t 1)), .u 10 (.call f0 [(.t 9)]), .m 8 (.t 10), .u 11 (.ext 0 (.t 8)), .u 12 (.ext 1 (.t 8)), .u 3 (.alloc [(.lit (.bool false)), .emp]), .u 4 (.alloc [(.lit (.bool false)), .emp]), .n (.st none 2 (.t 3) (.t 11)), .n (.st none 2 (.t 4) (.t 12))])
 (.fg [2, 3, 4] (.seq (.ops false [.u 14 (.ld none 2 true (.t 3)), .u 15 (.ld none 2 true (.t 4)), .u 16 (.call f1 [(.t 14), (.t 15)]), .m 13 (.t 16), .u 17 (.ext 0 (.t 13)), .u 18 (.ext 1 (.t 13)), .u 19 (.ext 2 (.t 13)), .u 5 (.alloc [(.lit (.bool false)), .emp]), .u 6 (.alloc [(.lit (.bool false)), .emp]), .n (.st none 2 (.t 5) (.t 17)), .n (.st none 2 (.t 6) (.t 18)), .m 7 (.t 19)])
 (.fg [2, 5] (.seq (.ops false [.u 20 (.ld none 2 true (.t 5)), .n (.st none 2 (.t 2) (.t 20))])
 .ret)))))))
def ac_linkworkref02_plain : AC := (.seq (.ops false [.m 2 .fa])
 (.fg [0] (.seq (.ops false [.m 3 (.t 0), .u 4 (.len (.t 3)), .u 5 (.bin .gtr (.t 4) (.i 0)), .m 6 (.t 5), .w 7 6 true (.mv (.t 0)), .w 8 6 true (.mv (.t 0)), .w 9 6 true (.len (.t 8)), .w 10 6 true (.bin .sub (.t 9) (.i 1)), .w 11 6 true (.idx 1 (.t 7) (.t 10)), .w 12 6 true (.ld none 1 false (.t 11)), .w 13 6 true (.bin .neq (.t 12) (.c (.one (.lit (.int .u32 0))))), .u 14 (.pick (.t 6) (.t 13) .fa), .m 2 (.t 14)])
 .ret)))
def ac_linkworkref02_Make (f0 f1 : Nat) : AC := (.seq (.ops false [.u 4 (.alloc [(.lit (.bool false)), .emp, .emp]), .m 5 (.i 0)])
 (.fg [0, 1, 4] (.seq (.ops false [.m 6 (.t 0), .u 7 (.call f0 [(.t 6)]), .m 8 (.t 1), .u 9 (.call f0 [(.t 8)]), .u 10 (.call f1 [(.t 7), (.t 9)]), .u 11 (.ext 0 (.t 10)), .u 12 (.ext 1 (.t 10)), .n (.st none 3 (.t 4) (.t 11)), .m 5 (.t 12)])
 .ret)))
theorem form_cells2 {n d N D : Int} {g : Nat} (hd : d ≠ 0) (hn : n ≠ 0) (hN : N = d.sign * n) (hD : 0 ≤ D) (e2 : D.natAbs = d.natAbs) (eg : g = Int.gcd n d) :
  AV.agg [zb (zcan (N / (g : Int))), zm (zcan (N / (g : Int))), zm (zcan (D / (g : Int)))] = .agg [cb (rcan (Rat.divInt n d)), cn (rcan (Rat.divInt n d)), cd (rcan (Rat.divInt n d))] := by
 obtain ⟨D', rfl⟩ := Int.eq_ofNat_of_zero_le hD
 simp only [Int.natAbs_natCast] at e2
 subst e2 eg hN
 have hg : 0 < Int.gcd n d := Int.gcd_pos_of_ne_zero_left _ hn
 rw [cb_eq, cn_eq, cd_eq, rcan_divInt hd hn, zm_eq, zm_eq, zb_eq]
 have hdv : ((Int.gcd n d : Nat) : Int) ∣ d.sign * n := Int.dvd_mul_of_dvd_right (Int.gcd_dvd_left _ _)
 obtain ⟨k, hk⟩ := hdv
 have hs : (d.sign * n).natAbs = n.natAbs := by
  rw [Int.natAbs_mul, Int.natAbs_sign_of_ne_zero hd, Nat.one_mul]
 have e : (d.sign * n / ((Int.gcd n d : Nat) : Int)) = k := by rw [hk, Int.mul_ediv_cancel_left _ (by omega)]
 rw [e, ← Int.natCast_ediv]
 simp only [zcan, Int.natAbs_natCast]
 have hk2 : k.natAbs = n.natAbs / Int.gcd n d := by
  rw [← hs, hk, Int.natAbs_mul]
  simp only [Int.natAbs_natCast]
  rw [Nat.mul_div_cancel_left _ hg]
 have : decide (k < 0) = decide (d.sign * n < 0) := by
  rw [decide_eq_decide, hk]
  constructor
  ·intro h; exact Int.mul_neg_of_pos_of_neg (by omega) h
  ·intro h
   rcases Int.lt_or_le k 0 with h' | h'
   ·exact h'
   ·have := Int.mul_nonneg (show (0 : Int) ≤ ((Int.gcd n d : Nat) : Int) by omega) h'; omega
 rw [hk2, this]
theorem rplain02_sound (hΓ : Holds P Γ) {f : Nat} (hc : check P f = some (15, ac_linkworkref02_plain.strip, [.tmp 2])) : Sound P f (.dat true rplain_G) := by
 refine sound_dat hc rplain_good hΓ (fun args K hcl hfi hG => ?_)
 match args, hG with
 | [a], hG =>
  obtain ⟨l, rfl, hl, hK⟩ := hG
  refine ⟨by simp, ?_⟩
  simp only [go_sem, ac_linkworkref02_plain]
  intro _
  refine ⟨fun h _ => ⟨by omega, by omega, by omega, ?_⟩, fun h => ?_⟩
  ·have hne : l ≠ [] := fun e => by rw [e] at h; simp at h
   rw [show ((l.length : Int) - 1).toNat = l.length - 1 by omega]
   have e : (!decide (l.getD (l.length - 1) 0 = 0)) = decide (l ≠ [] ∧ NZ l) := by
    rw [← decide_not, decide_eq_decide]
    unfold NZ
    rw [List.getLast?_eq_getElem?, List.getElem?_eq_getElem (by omega), List.getD_eq_getElem?_getD, List.getElem?_eq_getElem (by omega)]
    simp [hne]
   rw [e]; exact hK
  ·have hne : l = [] := List.eq_nil_of_length_eq_zero (by omega)
   rw [decide_eq_false (fun e => e.1 hne)] at hK; exact hK
theorem rvalid02_sound (hΓ : Holds P Γ) {f fv fg fo fc : Nat} (hv : Γ fv = .dat true rplain_G) (hg : Γ fg = .dat false zgcd_G) (ho : Γ fo = .dat false rone_G) (hc' : Γ fc = .dat true zcmp01_G) (hc : check P f = some (36, (ac_linkworkref02_Valid fv fg fo fc).strip, [.tmp 2])) : Sound P f (.dat true rvalid_G) := by
 refine sound_dat hc rvalid_good hΓ (fun args K hcl hfi hG => ?_)
 match args, hG with
 | [a], hG =>
  obtain ⟨x, rfl, hx, hl, hK⟩ := hG
  refine ⟨by simp, ?_⟩
  simp only [go_sem, ac_linkworkref02_Valid, hv, hg, ho, hc', cb_eq, cn_eq, cd_eq]
  have hl1 : x.2.1.length ≤ 4294967296 := Nat.le_trans (Nat.le_max_left _ _) hl
  have hl2 : x.2.2.length ≤ 4294967296 := Nat.le_trans (Nat.le_max_right _ _) hl
  have e0 : ∀ {l : List Nat}, ¬ l.length = 0 → l ≠ [] := fun h e => h (by rw [e]; rfl)
  have key : ¬ (x.2.1 = [] ∧ x.2.2 = []) → WL x.2.1 ∧ (x.2.1 ≠ [] ∧ NZ x.2.1 → WL x.2.2 ∧ (x.2.2 ≠ [] ∧ NZ x.2.2 → WL x.2.1 ∧ WL x.2.2 ∧ zs (zv (false, x.2.1)) ≤ 17179869184 ∧ zs (zv (false, x.2.2)) ≤ 17179869184 ∧
    zs (((zv (false, x.2.1)).gcd (zv (false, x.2.2)) : Nat) : Int) ≤ 17179869184 ∧ zs 1 ≤ 17179869184 ∧ zs ((((zv (false, x.2.1)).gcd (zv (false, x.2.2)) : Nat) : Int) - 1) ≤ 17179869184 ∧
    K (AV.one (C.lit (Value.bool (decide (ordI (((zv (false, x.2.1)).gcd (zv (false, x.2.2)) : Nat) : Int) 1 = 0)))))) ∧ (¬ (x.2.2 ≠ [] ∧ NZ x.2.2) → K (AV.one (C.lit (Value.bool false))))) ∧ (¬ (x.2.1 ≠ [] ∧ NZ x.2.1) → K (AV.one (C.lit (Value.bool false)))) := by
   intro hnd
   unfold vldR at hK
   rw [if_neg hnd] at hK
   refine ⟨hx.1, fun h1 => ⟨hx.2, fun h2 => ?_, fun h2 => ?_⟩, fun h1 => ?_⟩
   ·have s2 : zs (zv (false, x.2.2)) ≤ 4294967296 := by rw [zv_f h2.2, zs_nat, digs_val hx.2 h2.2]; exact hl2
    have hne : zv (false, x.2.2) ≠ 0 := by
     rw [zv_f h2.2]; have := val_pos_of_NZ h2.2 h2.1; omega
    have s3 := zs_gcd (v := zv (false, x.2.1)) hne s2
    have s4 : zs 1 ≤ 2 := zs_of (by decide)
    have s5 := zs_add ((((zv (false, x.2.1)).gcd (zv (false, x.2.2)) : Nat) : Int)) (-1)
    rw [zs_neg, ← Int.sub_eq_add_neg] at s5
    refine ⟨hx.1, hx.2, ?_, by omega, by omega, by omega, by omega, ?_⟩
    ·rw [zv_f h1.2, zs_nat, digs_val hx.1 h1.2]; omega
    ·rw [zv_f h1.2, zv_f h2.2]
     have e : decide (ordI (((((val x.2.1 : Nat) : Int)).gcd ((val x.2.2 : Nat) : Int) : Nat) : Int) 1 = 0) = decide (x.2.1 ≠ [] ∧ x.2.2 ≠ [] ∧ NZ x.2.1 ∧ NZ x.2.2 ∧ Nat.gcd (val x.2.1) (val x.2.2) = 1) := by
      rw [decide_eq_decide, ordI_zero, Int.gcd_natCast_natCast]
      constructor
      ·intro h; exact ⟨h1.1, h2.1, h1.2, h2.2, by omega⟩
      ·rintro ⟨_, _, _, _, h⟩; omega
     rw [e]; exact hK
   ·rw [decide_eq_false (fun h => h2 ⟨h.2.1, h.2.2.2.1⟩)] at hK; exact hK
   ·rw [decide_eq_false (fun h => h1 ⟨h.1, h.2.2.1⟩)] at hK; exact hK
  refine fun _ => ⟨fun hn _ => ⟨fun hd => ?_, fun hd => key (fun h => e0 hd h.2)⟩, fun hn => key (fun h => e0 hn h.1)⟩
  unfold vldR at hK
  rw [if_pos ⟨List.eq_nil_of_length_eq_zero hn, List.eq_nil_of_length_eq_zero hd⟩] at hK; exact hK
theorem rparts02_sound (hΓ : Holds P Γ) {f fv fo : Nat} (hv : Γ fv = .dat true rvalid_G) (ho : Γ fo = .dat false rone_G) (hc : check P f = some (23, (ac_linkworkref02_Parts fv fo).strip, [.cell 2 2 true, .cell 3 2 true])) : Sound P f (.dat false rparts_G) := by
 refine sound_dat hc rparts_good hΓ (fun args K hcl hfi hG => ?_)
 match args, hG with
 | [a], hG =>
  obtain ⟨x, rfl, hx, hl, hK⟩ := hG
  refine ⟨by simp, ?_⟩
  simp only [go_sem, ac_linkworkref02_Parts, hv, ho, cb_eq, cn_eq, cd_eq]
  have hl1 : x.2.1.length ≤ 4294967296 := Nat.le_trans (Nat.le_max_left _ _) hl
  have hl2 : x.2.2.length ≤ 4294967296 := Nat.le_trans (Nat.le_max_right _ _) hl
  have e0 : (zcan 0) = (false, []) := by simp [zcan, digs_zero]
  have h0 : rv x = 0 → K (AV.tup [AV.agg [C.lit (Value.bool false), C.slice []], AV.agg [zb (zcan 1), zm (zcan 1)]]) := by
   intro h
   rw [h] at hK
   have e1 : ((0 : Rat).num) = 0 := rfl
   have e2 : ((0 : Rat).den : Int) = 1 := rfl
   rw [e1, e2, e0] at hK; exact hK
  refine ⟨hx, hl, fun hv _ => ⟨fun hn => h0 ?_, fun hn => ?_⟩, fun hv => h0 (rv_nvld hv)⟩
  ·unfold rv; rw [if_pos hv, List.eq_nil_of_length_eq_zero hn]; simp [val, sg]
  ·obtain ⟨p1, p2, p3, p4, p5, p6⟩ := rv_parts hx hv (fun e => hn (by rw [e]; rfl))
   have hn0 := val_pos_of_NZ p4 (fun e => hn (by rw [e]; rfl))
   rw [p1, p2] at hK
   have e1 : zcan (sg x.1 (val x.2.1)) = (x.1, x.2.1) := by
    rw [← can_sg, digs_val hx.1 p4]
    have : decide (0 < x.2.1.length) = true := by simp only [decide_eq_true_eq]; omega
    rw [this, Bool.and_true]
   have e2 : zcan ((val x.2.2 : Nat) : Int) = (false, x.2.2) := by
    have := can_sg false (val x.2.2)
    rw [digs_val hx.2 p5, Bool.false_and] at this
    exact this.symm
   rw [e1, e2] at hK; exact hK
theorem rform02_sound (hΓ : Holds P Γ) {f fs fn fg fd : Nat} (hs : Γ fs = .dat true zsign_G) (hn : Γ fn = .dat false zneg_G) (hg : Γ fg = .dat false zgcd_G) (hd : Γ fd = .dat false zdiv01_G) (hc : check P f = some (47, (ac_linkworkref02_form fs fn fg fd).strip, [.cell 4 3 true])) : Sound P f (.dat false rform_G) := by
 refine sound_dat hc rform_good hΓ (fun args K hcl hfi hG => ?_)
 match args, hG with
 | [a, b], hG =>
  obtain ⟨v, rfl, hv, w, rfl, hw, hz, hz', h0, hK⟩ := hG
  refine ⟨by simp, ?_⟩
  simp only [go_sem, ac_linkworkref02_form, hs, hn, hg, hd, hv, hw]
  generalize zv v = n at *
  generalize zv w = d at *
  have hd0 := h0
  refine ⟨fun h => ?_, fun h => ?_⟩
  ·rw [Int.sign_eq_zero_iff_zero.1 h, Rat.zero_divInt, rcan_zero] at hK; exact hK
  have hn0 : n ≠ 0 := fun e => h (by rw [e]; rfl)
  have hg0 : ((Int.gcd n d : Nat) : Int) ≠ 0 := by
   have := Int.gcd_pos_of_ne_zero_left d hn0; omega
  have hgz : zs ((Int.gcd n d : Nat) : Int) ≤ 17179869184 := zs_gcd hd0 hz'
  simp only [Int.gcd_neg, Int.neg_gcd, zs_neg, sign_lt]
  refine ⟨fun hdn => ⟨by omega, by omega, hz, hz', hz, hgz, hg0, hz', hgz, hg0, ?_⟩, fun hdn => ⟨hz, hz', hz, hgz, hg0, hz', hgz, hg0, ?_⟩⟩
  ·rw [form_cells2 hd0 hn0 (by rw [Int.sign_eq_neg_one_of_neg hdn]; omega) (by omega) (by omega) rfl]; exact hK
  ·rw [form_cells2 hd0 hn0 (by rw [Int.sign_eq_one_of_pos (by omega)]; omega) (by omega) (by omega) rfl]; exact hK
theorem rcmp02_sound (hΓ : Holds P Γ) {f fs fg : Nat} (hs : Γ fs = .dat false rsub_G) (hg : Γ fg = .dat true rsign_G) (hc : check P f = some (9, (ac_linkworkref02_Cmp fs fg).strip, [.tmp 4])) : Sound P f (.dat true rcmp02_G) := by
 refine sound_dat hc rcmp02_good hΓ (fun args K hcl hfi hG => ?_)
 match args, hG with
 | [a, b], hG =>
  obtain ⟨x, rfl, hx, y, rfl, hy, hl, hl', hK⟩ := hG
  refine ⟨by simp, ?_⟩
  simp only [go_sem, ac_linkworkref02_Cmp, hs, hg, hx, hy]
  have hs1 := rz_sub (rv x) (rv y)
  have h1 := rz_rv hx
  have h2 := rz_rv hy
  have e : ordQ (rv x - rv y) 0 = ordQ (rv x) (rv y) := by
   unfold ordQ
   have e1 : (rv x - rv y < 0) = (rv x < rv y) := propext ⟨fun h => by have := (Rat.sub_lt_iff (a := rv x) (c := rv y) (b := 0)).1 h; rwa [Rat.zero_add] at this, fun h => (Rat.sub_lt_iff (a := rv x) (c := rv y) (b := 0)).2 (by rwa [Rat.zero_add])⟩
   have e2 : (0 < rv x - rv y) = (rv y < rv x) := propext (Rat.lt_iff_sub_pos _ _).symm
   simp only [e1, e2]
  rw [e]
  exact ⟨by omega, by omega, by omega, hK⟩
theorem rfloor02_sound (hΓ : Holds P Γ) {f fp fd : Nat} (hp : Γ fp = .dat false rparts_G) (hd : Γ fd = .dat false zdiv01_G) (hc : check P f = some (21, (ac_linkworkref02_Floor fp fd).strip, [.cell 2 2 true])) : Sound P f (.dat false rfloor_G) := by
 refine sound_dat hc rfloor_good hΓ (fun args K hcl hfi hG => ?_)
 match args, hG with
 | [a], hG =>
  obtain ⟨x, rfl, hx, hl, hK⟩ := hG
  refine ⟨by simp, ?_⟩
  simp only [go_sem, ac_linkworkref02_Floor, hp, hd, hx]
  have n1 := num_le hx
  have d1 := den_le hx
  rw [floor_parts]
  exact ⟨hl, by omega, by omega, den_ne _, hK⟩
theorem rfrom02_sound (hΓ : Holds P Γ) {f fs ff : Nat} (hs : Γ fs = .dat true zsign_G) (hf : Γ ff = .dat false rform_G) (hc : check P f = some (13, (ac_linkworkref02_From fs ff).strip, [.cell 4 3 true, .tmp 5])) : Sound P f (.dat false rfrom2_G) := by
 refine sound_dat hc rfrom2_good hΓ (fun args K hcl hfi hG => ?_)
 match args, hG with
 | [a, b], hG =>
  obtain ⟨v, rfl, hv, w, rfl, hw, hz, hz', h0, hK⟩ := hG
  refine ⟨by simp, ?_⟩
  simp only [go_sem, ac_linkworkref02_From, hs, hf, hv, hw]
  exact ⟨fun e => absurd (Int.sign_eq_zero_iff_zero.1 e) h0, fun _ => ⟨hz, hz', h0, hK⟩⟩
theorem rmake02_sound (hΓ : Holds P Γ) {f fo ff : Nat} (ho : Γ fo = .dat false zof_G) (hf : Γ ff = .dat false rfrom2_G) (hc : check P f = some (13, (ac_linkworkref02_Make fo ff).strip, [.cell 4 3 true, .tmp 5])) : Sound P f (.dat false rmake_G) := by
 refine sound_dat hc rmake_good hΓ (fun args K hcl hfi hG => ?_)
 match args, hG with
 | [a, b], hG =>
  obtain ⟨k, n, rfl, hG⟩ := asInt_inv hG
  obtain ⟨k', d, rfl, rfl, rfl, hn, hd, h0, hK⟩ := asInt_inv hG
  refine ⟨by simp, ?_⟩
  simp only [go_sem, ac_linkworkref02_Make, ho, hf]
  have z1 : zs n ≤ 2 := zs_of (by omega)
  have z2 : zs d ≤ 2 := zs_of (by omega)
  exact ⟨hn.1, hn.2, hd.1, hd.2, by omega, by omega, h0, hK⟩
end Go.Abs
end
section
set_option linter.unusedVariables false
set_option linter.unusedSimpArgs false
set_option maxRecDepth 100000
namespace Go.Num
def longR (x : R) : Bool := decide (4 < x.2.1.length + x.2.2.length)
def largeL (l : List Arc) : Bool := if 20 < l.length then (decide (l.length ≤ 64) || decide (200 < l.length)) else l.any fun x => longR x.1 || longR x.2
def validL (l : List Arc) : Bool := !largeL l && decide (chk1 l = 0)
end Go.Num
namespace Go.Abs
open Go.Num
variable {P : Program} {Γ : Nat → Spec}
def rcheck_G (l : List AV) (K : AV → Prop) : Prop :=
 match l with
 | [a] => onAs (fun l => okAs 1073741824 l ∧ K (.one (.lit (.int .i64 (chk1 l : Nat))))) a
 | _ => False
theorem rcheck_Ge (a : AV) (K : AV → Prop) : rcheck_G [a] K = (onAs (fun l => okAs 1073741824 l ∧ K (.one (.lit (.int .i64 (chk1 l : Nat))))) a) := propext Iff.rfl
@[congr] theorem rcheck_Gc {K : AV → Prop} {l l' : List AV} (h : l = l') : rcheck_G l K = rcheck_G l' K := by subst h; rfl
attribute [go_sem] rcheck_Ge
attribute [go_sem ↓] rcheck_Ge
theorem rcheck_good : Good rcheck_G := good_of fun as => by
 unfold rcheck_G
 split
 ·exact (g_onAs fun _ => (.and fun _ => (.ret _)))
 ·exact .of fun K hk => hk.elim
def rsame_G (l : List AV) (K : AV → Prop) : Prop :=
 match l with
 | [a, b] => onAs (fun l => onAs (fun m => okAs 1073741824 l ∧ okAs 1073741824 m ∧ K (.one (.lit (.bool (decide (vals l = vals m)))))) b) a
 | _ => False
theorem rsame_Ge (a b : AV) (K : AV → Prop) : rsame_G [a, b] K = (onAs (fun l => onAs (fun m => okAs 1073741824 l ∧ okAs 1073741824 m ∧ K (.one (.lit (.bool (decide (vals l = vals m)))))) b) a) := propext Iff.rfl
@[congr] theorem rsame_Gc {K : AV → Prop} {l l' : List AV} (h : l = l') : rsame_G l K = rsame_G l' K := by subst h; rfl
attribute [go_sem] rsame_Ge
attribute [go_sem ↓] rsame_Ge
theorem rsame_good : Good rsame_G := good_of fun as => by
 unfold rsame_G
 split
 ·exact (g_onAs fun _ => (g_onAs fun _ => (.and fun _ => (.and fun _ => (.ret _)))))
 ·exact .of fun K hk => hk.elim
def rfrac_G (l : List AV) (K : AV → Prop) : Prop :=
 match l with
 | [a] => onR (fun x => rl x ≤ 1000000000 ∧ K (.agg [cb (rcan (frac (rv x))), cn (rcan (frac (rv x))), cd (rcan (frac (rv x)))])) a
 | _ => False
theorem rfrac_Ge (a : AV) (K : AV → Prop) : rfrac_G [a] K = (onR (fun x => rl x ≤ 1000000000 ∧ K (.agg [cb (rcan (frac (rv x))), cn (rcan (frac (rv x))), cd (rcan (frac (rv x)))])) a) := propext Iff.rfl
@[congr] theorem rfrac_Gc {K : AV → Prop} {l l' : List AV} (h : l = l') : rfrac_G l K = rfrac_G l' K := by subst h; rfl
attribute [go_sem] rfrac_Ge
attribute [go_sem ↓] rfrac_Ge
theorem rfrac_good : Good rfrac_G := good_of fun as => by
 unfold rfrac_G
 split
 ·exact (g_onR fun _ => (.and fun _ => (.ret _)))
 ·exact .of fun K hk => hk.elim
def rpart_G (l : List AV) (K : AV → Prop) : Prop :=
 match l with
 | [a, b] => asInt (fun k n => asInt (fun k' d => k = .i64 ∧ k' = .i64 ∧ (-9223372036854775808 ≤ n ∧ n ≤ 9223372036854775807) ∧ (-9223372036854775808 ≤ d ∧ d ≤ 9223372036854775807) ∧ d ≠ 0 ∧ K (.agg [cb (rcan (Rat.divInt n d)), cn (rcan (Rat.divInt n d)), cd (rcan (Rat.divInt n d))])) b) a
 | _ => False
theorem rpart_Ge (a b : AV) (K : AV → Prop) : rpart_G [a, b] K = (asInt (fun k n => asInt (fun k' d => k = .i64 ∧ k' = .i64 ∧ (-9223372036854775808 ≤ n ∧ n ≤ 9223372036854775807) ∧ (-9223372036854775808 ≤ d ∧ d ≤ 9223372036854775807) ∧ d ≠ 0 ∧ K (.agg [cb (rcan (Rat.divInt n d)), cn (rcan (Rat.divInt n d)), cd (rcan (Rat.divInt n d))])) b) a) := propext Iff.rfl
@[congr] theorem rpart_Gc {K : AV → Prop} {l l' : List AV} (h : l = l') : rpart_G l K = rpart_G l' K := by subst h; rfl
attribute [go_sem] rpart_Ge
attribute [go_sem ↓] rpart_Ge
theorem rpart_good : Good rpart_G := good_of fun as => by
 unfold rpart_G
 split
 ·repeat (first | exact .ret _ | exact .of (fun K hk => hk.elim) | (refine .and fun _ => ?_) | (refine g_onWs fun _ => ?_) | (refine g_onR fun _ => ?_) | (refine g_onR fun _ => ?_) | (refine g_onAs fun _ => ?_) | (refine g_onA fun _ => ?_) | (refine g_asInt (fun _ _ => ?_) _) | (refine g_asBool (fun _ => ?_) _) | (refine g_onE ?_ ?_) | (intro _) | assumption)
 ·exact .of fun K hk => hk.elim
def rlong_G (l : List AV) (K : AV → Prop) : Prop :=
 match l with
 | [a] => onR (fun x => rl x ≤ 4294967296 ∧ K (.one (.lit (.bool (longR x))))) a
 | _ => False
theorem rlong_Ge (a : AV) (K : AV → Prop) : rlong_G [a] K = (onR (fun x => rl x ≤ 4294967296 ∧ K (.one (.lit (.bool (longR x))))) a) := propext Iff.rfl
@[congr] theorem rlong_Gc {K : AV → Prop} {l l' : List AV} (h : l = l') : rlong_G l K = rlong_G l' K := by subst h; rfl
attribute [go_sem] rlong_Ge
attribute [go_sem ↓] rlong_Ge
theorem rlong_good : Good rlong_G := good_of fun as => by
 unfold rlong_G
 split
 ·exact (g_onR fun _ => (.and fun _ => (.ret _)))
 ·exact .of fun K hk => hk.elim
def rlarge_G (l : List AV) (K : AV → Prop) : Prop :=
 match l with
 | [a] => onAs (fun l => okAs 1073741824 l ∧ K (.one (.lit (.bool (largeL l))))) a
 | _ => False
theorem rlarge_Ge (a : AV) (K : AV → Prop) : rlarge_G [a] K = (onAs (fun l => okAs 1073741824 l ∧ K (.one (.lit (.bool (largeL l))))) a) := propext Iff.rfl
@[congr] theorem rlarge_Gc {K : AV → Prop} {l l' : List AV} (h : l = l') : rlarge_G l K = rlarge_G l' K := by subst h; rfl
attribute [go_sem] rlarge_Ge
attribute [go_sem ↓] rlarge_Ge
theorem rlarge_good : Good rlarge_G := good_of fun as => by
 unfold rlarge_G
 split
 ·exact (g_onAs fun _ => (.and fun _ => (.ret _)))
 ·exact .of fun K hk => hk.elim
def rvalidL_G (l : List AV) (K : AV → Prop) : Prop :=
 match l with
 | [a] => onAs (fun l => okAs 1073741824 l ∧ K (.one (.lit (.bool (validL l))))) a
 | _ => False
theorem rvalidL_Ge (a : AV) (K : AV → Prop) : rvalidL_G [a] K = (onAs (fun l => okAs 1073741824 l ∧ K (.one (.lit (.bool (validL l))))) a) := propext Iff.rfl
@[congr] theorem rvalidL_Gc {K : AV → Prop} {l l' : List AV} (h : l = l') : rvalidL_G l K = rvalidL_G l' K := by subst h; rfl
attribute [go_sem] rvalidL_Ge
attribute [go_sem ↓] rvalidL_Ge
theorem rvalidL_good : Good rvalidL_G := good_of fun as => by
 unfold rvalidL_G
 split
 ·exact (g_onAs fun _ => (.and fun _ => (.ret _)))
 ·exact .of fun K hk => hk.elim
def climit_G (tE : Nat) (l : List AV) (K : AV → Prop) : Prop :=
 match l with
 | [a] => onAs (fun l => K (.tup [.one (.slice ((if 64 < l.length then [] else l).map aC)), errV tE (if 64 < l.length then 4 else 0)])) a
 | _ => False
theorem climit_Ge (tE : Nat) (a : AV) (K : AV → Prop) : climit_G tE [a] K = (onAs (fun l => K (.tup [.one (.slice ((if 64 < l.length then [] else l).map aC)), errV tE (if 64 < l.length then 4 else 0)])) a) := propext Iff.rfl
@[congr] theorem climit_Gc (tE : Nat) {K : AV → Prop} {l l' : List AV} (h : l = l') : climit_G tE l K = climit_G tE l' K := by subst h; rfl
attribute [go_sem] climit_Ge
attribute [go_sem ↓] climit_Ge
theorem climit_good (tE : Nat) : Good (climit_G tE) := good_of fun as => by
 unfold climit_G
 split
 ·exact (g_onAs fun _ => (.ret _))
 ·exact .of fun K hk => hk.elim
def ac_linkworkref54_Check (f0 f1 f2 f3 : Nat) : AC := (.seq (.ops false [.m 2 (.i 0)])
 (.fg [0] (.seq (.seq (.ops false [.m 5 (.t 0), .u 6 (.len (.t 5)), .u 7 (.bin .gtr (.t 6) (.i 64))])
 (.fg [0, 7] (.cond (.t 7) (.seq (.ops false [.m 2 (.i 4)])
 .ret) .skip)))
 (.fg [0] (.seq (.seq (.ops false [.m 3 (.i 0)])
 (.fg [0, 3] (.block 0 (.loop (.seq (.seq (.ops false [.m 8 (.t 3), .m 9 (.t 0), .u 10 (.len (.t 9)), .u 11 (.bin .lss (.t 8) (.t 10))])
 (.fg [0, 3, 11] (.cond (.t 11) .skip (.exit 0))))
 (.fg [0, 3] (.seq (.block 1 (.seq (.ops false [.m 14 (.t 0), .m 15 (.t 3), .u 16 (.idx 6 (.t 14) (.t 15)), .u 17 (.ld none 6 true (.t 16)), .u 4 (.alloc [(.lit (.bool false)), .emp, .emp, (.lit (.bool false)), .emp, .emp]), .n (.st none 6 (.t 4) (.t 17))])
 (.fg [0, 3, 4] (.seq (.ops true [.u 18 (.fa 0 (.t 4)), .u 19 (.ld none 3 true (.t 18)), .u 20 (.call f0 [(.t 19)]), .u 21 (.un .not (.t 20)), .m 22 (.t 21), .w 23 22 false (.fa 3 (.t 4)), .w 24 22 false (.ld none 3 true (.t 23)), .w 25 22 false (.call f0 [(.t 24)]), .w 26 22 false (.un .not (.t 25)), .u 27 (.pick (.t 22) .tr (.t 26)), .m 28 (.t 27), .w 29 28 false (.fa 0 (.t 4)), .w 30 28 false (.ld none 3 true (.t 29)), .w 31 28 false (.call f1 [(.t 30)]), .w 32 28 false (.bin .lss (.t 31) (.i 0)), .u 33 (.pick (.t 28) .tr (.t 32)), .m 34 (.t 33), .w 35 34 false (.fa 3 (.t 4)), .w 36 34 false (.ld none 3 true (.t 35)), .w 37 34 false (.call f2 []), .w 38 34 false (.call f3 [(.t 36), (.t 37)]), .w 39 34 false (.bin .gtr (.t 38) (.i 0)), .u 40 (.pick (.t 34) .tr (.t 39)), .m 41 (.t 40), .w 42 41 false (.fa 0 (.t 4)), .w 43 41 false (.ld none 3 true (.t 42)), .w 44 41 false (.fa 3 (.t 4)), .w 45 41 false (.ld none 3 true (.t 44)), .w 46 41 false (.call f3 [(.t 43), (.t 45)]), .w 47 41 false (.bin .geq (.t 46) (.i 0)), .u 48 (.pick (.t 41) .tr (.t 47))])
 (.fg [0, 3, 48] (.cond (.t 48) (.seq (.ops false [.m 2 (.i 3)])
 .ret) .skip))))))
 (.fg [0, 3] (.ops false [.m 12 (.t 3), .u 13 (.bin .add (.t 12) (.i 1)), .m 3 (.t 13)])))))))))
 (.fg [] (.seq (.ops false [.m 2 (.i 0)])
 .ret)))))))
def ac_linkworkref54_Same (f0 : Nat) : AC := (.seq (.ops false [.m 4 .fa])
 (.fg [0, 1] (.seq (.seq (.ops false [.m 6 (.t 0), .u 7 (.len (.t 6)), .m 8 (.t 1), .u 9 (.len (.t 8)), .u 10 (.bin .neq (.t 7) (.t 9))])
 (.fg [0, 1, 10] (.cond (.t 10) (.seq (.ops false [.m 4 .fa])
 .ret) .skip)))
 (.fg [0, 1] (.seq (.seq (.ops false [.m 5 (.i 0)])
 (.fg [0, 1, 5] (.block 0 (.loop (.seq (.seq (.ops false [.m 11 (.t 5), .m 12 (.t 0), .u 13 (.len (.t 12)), .u 14 (.bin .lss (.t 11) (.t 13))])
 (.fg [0, 1, 5, 14] (.cond (.t 14) .skip (.exit 0))))
 (.fg [0, 1, 5] (.seq (.block 1 (.seq (.ops true [.m 17 (.t 0), .m 18 (.t 5), .u 19 (.idx 6 (.t 17) (.t 18)), .u 20 (.fa 0 (.t 19)), .u 21 (.ld none 3 true (.t 20)), .m 22 (.t 1), .m 23 (.t 5), .u 24 (.idx 6 (.t 22) (.t 23)), .u 25 (.fa 0 (.t 24)), .u 26 (.ld none 3 true (.t 25)), .u 27 (.call f0 [(.t 21), (.t 26)]), .u 28 (.bin .neq (.t 27) (.i 0)), .m 29 (.t 28), .w 30 29 false (.mv (.t 0)), .w 31 29 false (.mv (.t 5)), .w 32 29 false (.idx 6 (.t 30) (.t 31)), .w 33 29 false (.fa 3 (.t 32)), .w 34 29 false (.ld none 3 true (.t 33)), .w 35 29 false (.mv (.t 1)), .w 36 29 false (.mv (.t 5)), .w 37 29 false (.idx 6 (.t 35) (.t 36)), .w 38 29 false (.fa 3 (.t 37)), .w 39 29 false (.ld none 3 true (.t 38)), .w 40 29 false (.call f0 [(.t 34), (.t 39)]), .w 41 29 false (.bin .neq (.t 40) (.i 0)), .u 42 (.pick (.t 29) .tr (.t 41))])
 (.fg [0, 1, 5, 42] (.cond (.t 42) (.seq (.ops false [.m 4 .fa])
 .ret) .skip))))
 (.fg [0, 1, 5] (.ops false [.m 15 (.t 5), .u 16 (.bin .add (.t 15) (.i 1)), .m 5 (.t 16)])))))))))
 (.fg [] (.seq (.ops false [.m 4 .tr])
 .ret)))))))
def ac_linkworkref52_Frac (f0 f1 f2 f3 : Nat) : AC := (.seq (.ops false [.u 1 (.box 3 (.t 0)), .u 2 (.alloc [(.lit (.bool false)), .emp, .emp])])
 (.fg [1, 2] (.seq (.ops false [.u 6 (.ld none 3 true (.t 1)), .u 7 (.call f0 [(.t 6)]), .u 8 (.call f1 [(.i 1)]), .u 9 (.call f2 [(.t 7), (.t 8)]), .m 5 (.t 9), .u 10 (.ext 0 (.t 5)), .u 11 (.ext 1 (.t 5)), .u 3 (.alloc [(.lit (.bool false)), .emp, .emp]), .n (.st none 3 (.t 3) (.t 10)), .m 4 (.t 11)])
 (.fg [1, 2, 3] (.seq (.ops false [.u 12 (.ld none 3 true (.t 1)), .u 13 (.ld none 3 true (.t 3)), .u 14 (.call f3 [(.t 12), (.t 13)]), .n (.st none 3 (.t 2) (.t 14))])
 .ret)))))
def ac_linkworklaw54_part (f0 : Nat) : AC := (.seq (.ops false [.u 4 (.alloc [(.lit (.bool false)), .emp, .emp])])
 (.fg [0, 1, 4] (.seq (.ops false [.m 8 (.t 0), .m 9 (.t 1), .u 10 (.call f0 [(.t 8), (.t 9)]), .m 7 (.t 10), .u 11 (.ext 0 (.t 7)), .u 12 (.ext 1 (.t 7)), .u 5 (.alloc [(.lit (.bool false)), .emp, .emp]), .n (.st none 3 (.t 5) (.t 11)), .m 6 (.t 12)])
 (.fg [4, 5] (.seq (.ops false [.u 13 (.ld none 3 true (.t 5)), .n (.st none 3 (.t 4) (.t 13))])
 .ret)))))
def ac_linkworklaw54_long : AC := (.seq (.ops false [.u 1 (.box 3 (.t 0)), .m 2 .fa])
 (.fg [1] (.seq (.ops false [.u 3 (.fa 1 (.t 1)), .u 4 (.ld none 1 false (.t 3)), .u 5 (.len (.t 4)), .u 6 (.fa 2 (.t 1)), .u 7 (.ld none 1 false (.t 6)), .u 8 (.len (.t 7)), .u 9 (.bin .add (.t 5) (.t 8)), .u 10 (.bin .gtr (.t 9) (.i 4)), .m 2 (.t 10)])
 .ret)))
def ac_linkworklaw54_large (f0 : Nat) : AC := (.seq (.ops false [.m 2 .fa])
 (.fg [0] (.seq (.seq (.ops false [.m 4 (.t 0), .u 5 (.len (.t 4)), .u 6 (.bin .gtr (.t 5) (.i 20))])
 (.fg [0, 6] (.cond (.t 6) (.seq (.ops false [.m 7 (.t 0), .u 8 (.len (.t 7)), .u 9 (.bin .leq (.t 8) (.i 64)), .m 10 (.t 9), .w 11 10 false (.mv (.t 0)), .w 12 10 false (.len (.t 11)), .w 13 10 false (.bin .gtr (.t 12) (.i 200)), .u 14 (.pick (.t 10) .tr (.t 13)), .m 2 (.t 14)])
 .ret) .skip)))
 (.fg [0] (.seq (.seq (.ops false [.m 3 (.i 0)])
 (.fg [0, 3] (.block 0 (.loop (.seq (.seq (.ops false [.m 15 (.t 3), .m 16 (.t 0), .u 17 (.len (.t 16)), .u 18 (.bin .lss (.t 15) (.t 17))])
 (.fg [0, 3, 18] (.cond (.t 18) .skip (.exit 0))))
 (.fg [0, 3] (.seq (.block 1 (.seq (.ops false [.m 21 (.t 0), .m 22 (.t 3), .u 23 (.idx 6 (.t 21) (.t 22)), .u 24 (.fa 0 (.t 23)), .u 25 (.ld none 3 true (.t 24)), .u 26 (.call f0 [(.t 25)]), .m 27 (.t 26), .w 28 27 false (.mv (.t 0)), .w 29 27 false (.mv (.t 3)), .w 30 27 false (.idx 6 (.t 28) (.t 29)), .w 31 27 false (.fa 3 (.t 30)), .w 32 27 false (.ld none 3 true (.t 31)), .w 33 27 false (.call f0 [(.t 32)]), .u 34 (.pick (.t 27) .tr (.t 33))])
 (.fg [0, 3, 34] (.cond (.t 34) (.seq (.ops false [.m 2 .tr])
 .ret) .skip))))
 (.fg [0, 3] (.ops false [.m 19 (.t 3), .u 20 (.bin .add (.t 19) (.i 1)), .m 3 (.t 20)])))))))))
 (.fg [] (.seq (.ops false [.m 2 .fa])
 .ret)))))))
def ac_linkworklaw54_valid (f0 f1 : Nat) : AC := (.seq (.ops false [.m 2 .fa])
 (.fg [0] (.seq (.ops false [.m 3 (.t 0), .u 4 (.call f0 [(.t 3)]), .u 5 (.un .not (.t 4)), .m 6 (.t 5), .w 7 6 true (.mv (.t 0)), .w 8 6 true (.call f1 [(.t 7)]), .w 9 6 true (.bin .eql (.t 8) (.i 0)), .u 10 (.pick (.t 6) (.t 9) .fa), .m 2 (.t 10)])
 .ret)))
def ac_chart_limited (tE : Nat) : AC := (.seq (.ops false [.m 2 (.c (.one .emp)), .m 3 (.c (.one (.lit .nilIface)))])
 (.fg [0] (.seq (.seq (.ops false [.m 4 (.t 0), .u 5 (.len (.t 4)), .u 6 (.bin .gtr (.t 5) (.i 64))])
 (.fg [0, 6] (.cond (.t 6) (.seq (.ops false [.u 7 (.iface tE (.i 4)), .m 2 (.c (.one .emp)), .m 3 (.t 7)])
 .ret) .skip)))
 (.fg [0] (.seq (.ops false [.m 8 (.t 0), .m 2 (.t 8), .m 3 (.c (.one (.lit .nilIface)))])
 .ret)))))
theorem rfrac_sound (hΓ : Holds P Γ) {f ff fo fr fs : Nat} (hf : Γ ff = .dat false rfloor_G) (ho : Γ fo = .dat false zof_G) (hr : Γ fr = .dat false rfrom2_G) (hs : Γ fs = .dat false rsub_G) (hc : check P f = some (15, (ac_linkworkref52_Frac ff fo fr fs).strip, [.cell 2 3 true])) : Sound P f (.dat false rfrac_G) := by
 refine sound_dat hc rfrac_good hΓ (fun args K hcl hfi hG => ?_)
 match args, hG with
 | [a], hG =>
  obtain ⟨x, rfl, hx, hl, hK⟩ := hG
  refine ⟨by simp, ?_⟩
  simp only [go_sem, ac_linkworkref52_Frac, hf, ho, hr, hs, hx]
  have n1 := num_le hx
  have e2 : Rat.divInt (rv x).floor 1 = ((rv x).floor : Rat) := Rat.num_divInt_den ((rv x).floor : Rat)
  have hfl : zs (rv x).floor ≤ rl x := by
   rw [Rat.floor_def]
   exact Nat.le_trans (zs_mono (Int.natAbs_ediv_le_natAbs _ _)) n1
  have hrz := rz_int (rv x).floor
  have h1 : zs 1 ≤ 2 := zs_of (by decide)
  rw [e2]
  exact ⟨by omega, by omega, by omega, by omega, by omega, by decide, by omega, by omega, hK⟩
theorem rpart_sound (hΓ : Holds P Γ) {f fm : Nat} (hm : Γ fm = .dat false rmake_G) (hc : check P f = some (14, (ac_linkworklaw54_part fm).strip, [.cell 4 3 true])) : Sound P f (.dat false rpart_G) := by
 refine sound_dat hc rpart_good hΓ (fun args K hcl hfi hG => ?_)
 match args, hG with
 | [a, b], hG =>
  obtain ⟨k, n, rfl, hG⟩ := asInt_inv hG
  obtain ⟨k', d, rfl, rfl, rfl, hn, hd, h0, hK⟩ := asInt_inv hG
  refine ⟨by simp, ?_⟩
  simp only [go_sem, ac_linkworklaw54_part, hm]
  exact ⟨hn, hd, h0, hK⟩
theorem rlong_sound (hΓ : Holds P Γ) {f : Nat} (hc : check P f = some (11, ac_linkworklaw54_long.strip, [.tmp 2])) : Sound P f (.dat true rlong_G) := by
 refine sound_dat hc rlong_good hΓ (fun args K hcl hfi hG => ?_)
 match args, hG with
 | [a], hG =>
  obtain ⟨x, rfl, hx, hl, hK⟩ := hG
  refine ⟨by simp, ?_⟩
  have hl1 : x.2.1.length ≤ 4294967296 := Nat.le_trans (Nat.le_max_left _ _) hl
  have hl2 : x.2.2.length ≤ 4294967296 := Nat.le_trans (Nat.le_max_right _ _) hl
  simp only [go_sem, ac_linkworklaw54_long, cb_eq, cn_eq, cd_eq]
  refine fun _ _ => ⟨by omega, ?_⟩
  have e : decide ((4 : Int) < ((x.2.1.length + x.2.2.length : Nat) : Int)) = longR x := by
   unfold longR; rw [decide_eq_decide]; omega
  rw [e]; exact hK
theorem rlarge_sound (hΓ : Holds P Γ) {f fl : Nat} (hl : Γ fl = .dat true rlong_G) (hc : check P f = some (35, (ac_linkworklaw54_large fl).strip, [.tmp 2])) : Sound P f (.dat true rlarge_G) := by
 refine sound_dat hc rlarge_good hΓ (fun args K hcl hfi hG => ?_)
 match args, hG with
 | [a], hG =>
  obtain ⟨l, rfl, hwl, hok, hK⟩ := hG
  refine ⟨by simp, ?_⟩
  simp only [go_sem, ac_linkworklaw54_large, hl]
  refine fun _ => ⟨fun h20 _ => ⟨fun h => ?_, fun h _ => ?_⟩, fun h20 => ?_⟩
  ·unfold largeL at hK
   rw [if_pos (by omega), decide_eq_true (show l.length ≤ 64 by omega), Bool.true_or] at hK
   exact hK
  ·unfold largeL at hK
   rw [if_pos (by omega), decide_eq_false (show ¬ l.length ≤ 64 by omega), Bool.false_or] at hK
   have e : decide ((200 : Int) < (l.length : Int)) = decide (200 < l.length) := by rw [decide_eq_decide]; omega
   rw [e]; exact hK
  unfold largeL at hK
  rw [if_neg (by omega)] at hK
  refine wpA_loop (fun j : Nat => ⟨mkV [(0, asA l), (3, .one (.lit (.int .i64 j)))], mkH []⟩) (fun j => j ≤ l.length ∧ (l.take j).any (fun x => longR x.1 || longR x.2) = false) (fun j => l.length - j) 0 ?_ ?_ ?_
  ·exact weak_lit (by simp [okS, okV, okC, okL, okH, okB, okE, mkV_cons, mkV_nil, mkH_cons, mkH_nil, wsA, ws, asA, as]) trivial
  ·simp only [List.take_zero, List.any_nil, and_true]; omega
  ·rintro j ⟨hj, hgood⟩
   simp only [go_sem, hl]
   intro _
   refine ⟨fun hlt2 => ?_, fun hge2 => ?_⟩
   ·obtain ⟨x, hx⟩ : ∃ x, l.getD j a0 = x := ⟨_, rfl⟩
    have hxm : x ∈ l := by
     rw [← hx, List.getD_eq_getElem?_getD, List.getElem?_eq_getElem hlt2]; exact List.getElem_mem _
    have hox := hok x hxm
    have hx1 : rl x.1 ≤ 4294967296 := Nat.le_trans (Nat.le_trans (Nat.le_max_left _ _) hox.2) (by decide)
    have hx2 : rl x.2 ≤ 4294967296 := Nat.le_trans (Nat.le_trans (Nat.le_max_right _ _) hox.2) (by decide)
    have hx3 := hox.1.1
    have hx4 := hox.1.2
    have hf1 : l.take (j + 1) = l.take j ++ [x] := by
     rw [List.take_add_one, List.getElem?_eq_getElem hlt2, ← hx, List.getD_eq_getElem?_getD, List.getElem?_eq_getElem hlt2]; rfl
    have yes : (longR x.1 || longR x.2) = true → K (AV.one (C.lit (Value.bool true))) := by
     intro h
     rw [List.any_eq_true.2 ⟨x, hxm, h⟩] at hK; exact hK
    simp only [go_sem, hx, aC_eq, hl, hx1, hx2, hx3, hx4]
    refine ⟨hlt2, fun h => yes (by rw [h]; rfl), fun h => ⟨hlt2, fun h' => yes (by rw [h']; simp), fun h' => ⟨by omega, j + 1, weak_lit (by simp [okS, okV, okC, okL, okH, okB, okE, mkV_cons, mkV_nil, mkH_cons, mkH_nil, wsA, ws]) trivial, ⟨by omega, ?_⟩, by omega⟩⟩⟩
    rw [hf1, List.any_append, hgood]
    simp [h, h']
   ·rw [List.take_of_length_le (by omega)] at hgood
    rw [hgood] at hK
    exact hK
theorem rvalidL_sound (hΓ : Holds P Γ) {f fl fk : Nat} (hl : Γ fl = .dat true rlarge_G) (hk : Γ fk = .dat true rcheck_G) (hc : check P f = some (11, (ac_linkworklaw54_valid fl fk).strip, [.tmp 2])) : Sound P f (.dat true rvalidL_G) := by
 refine sound_dat hc rvalidL_good hΓ (fun args K hcl hfi hG => ?_)
 match args, hG with
 | [a], hG =>
  obtain ⟨l, rfl, hwl, hok, hK⟩ := hG
  refine ⟨by simp, ?_⟩
  simp only [go_sem, ac_linkworklaw54_valid, hl, hk]
  unfold validL at hK
  refine ⟨hwl, hok, fun h => ?_, fun h => ⟨hwl, hok, ?_⟩⟩
  ·rw [h] at hK; exact hK
  ·rw [h, Bool.not_false, Bool.true_and] at hK; exact hK
theorem climit_sound (hΓ : Holds P Γ) {f tE : Nat} (hc : check P f = some (9, (ac_chart_limited tE).strip, [.tmp 2, .tmp 3])) : Sound P f (.dat false (climit_G tE)) := by
 refine sound_dat hc (climit_good tE) hΓ (fun args K hcl hfi hG => ?_)
 match args, hG with
 | [a], hG =>
  obtain ⟨l, rfl, hwl, hK⟩ := hG
  refine ⟨by simp, ?_⟩
  simp only [go_sem, ac_chart_limited]
  refine fun _ => ⟨fun h => ?_, fun h => ?_⟩
  ·rw [if_pos (by omega), if_pos (by omega), errV_s tE (by decide)] at hK
   exact hK
  ·rw [if_neg (by omega), if_neg (by omega), errV_0] at hK
   exact hK
theorem rsame_sound (hΓ : Holds P Γ) {f fc : Nat} (hc' : Γ fc = .dat true rcmp02_G) (hc : check P f = some (43, (ac_linkworkref54_Same fc).strip, [.tmp 4])) : Sound P f (.dat true rsame_G) := by
 refine sound_dat hc rsame_good hΓ (fun args K hcl hfi hG => ?_)
 match args, hG with
 | [a, b], hG =>
  obtain ⟨l, rfl, hwl, m, rfl, hwm, hokl, hokm, hK⟩ := hG
  refine ⟨by simp, ?_⟩
  simp only [go_sem, ac_linkworkref54_Same, hc']
  refine fun _ _ => ⟨fun hlen => ?_, fun hlen => ?_⟩
  rotate_left
  ·rw [decide_eq_false (fun h => hlen (by have := congrArg List.length h; simpa [vals] using this))] at hK; exact hK
  refine wpA_loop (fun j : Nat => ⟨mkV [(0, asA l), (1, asA m), (5, .one (.lit (.int .i64 j)))], mkH []⟩) (fun j => j ≤ l.length ∧ vals (l.take j) = vals (m.take j)) (fun j => l.length - j) 0 ?_ ?_ ?_
  ·exact weak_lit (by simp [okS, okV, okC, okL, okH, okB, okE, mkV_cons, mkV_nil, mkH_cons, mkH_nil, wsA, ws, asA, as]) trivial
  ·simp only [List.take_zero, and_true]; omega
  ·rintro j ⟨hj, hgood⟩
   simp only [go_sem, hc']
   intro _
   refine ⟨fun hlt2 => ?_, fun hge2 => ?_⟩
   ·have hlt3 : j < m.length := by omega
    obtain ⟨x, hx⟩ : ∃ x, l.getD j a0 = x := ⟨_, rfl⟩
    obtain ⟨y, hy⟩ : ∃ y, m.getD j a0 = y := ⟨_, rfl⟩
    have hx0 : l[j]? = some x := by rw [← hx, List.getD_eq_getElem?_getD, List.getElem?_eq_getElem hlt2]; rfl
    have hy0 : m[j]? = some y := by rw [← hy, List.getD_eq_getElem?_getD, List.getElem?_eq_getElem hlt3]; rfl
    have hox := hokl x (List.mem_of_getElem? hx0)
    have hoy := hokm y (List.mem_of_getElem? hy0)
    have hx1 : rl x.1 ≤ 1073741824 := Nat.le_trans (Nat.le_max_left _ _) hox.2
    have hx2 : rl x.2 ≤ 1073741824 := Nat.le_trans (Nat.le_max_right _ _) hox.2
    have hx3 := hox.1.1
    have hx4 := hox.1.2
    have hy1 : rl y.1 ≤ 1073741824 := Nat.le_trans (Nat.le_max_left _ _) hoy.2
    have hy2 : rl y.2 ≤ 1073741824 := Nat.le_trans (Nat.le_max_right _ _) hoy.2
    have hy3 := hoy.1.1
    have hy4 := hoy.1.2
    have hxy : vals l = vals m → av x = av y := by
     intro h
     have h1 : (vals l)[j]? = some (av x) := by simp [vals, List.getElem?_map, hx0]
     have h2 : (vals m)[j]? = some (av y) := by simp [vals, List.getElem?_map, hy0]
     rw [h, h2] at h1
     exact (Option.some.inj h1).symm
    have no : av x ≠ av y → K (AV.one (C.lit (Value.bool false))) := by
     intro h
     rw [decide_eq_false (fun h' => h (hxy h'))] at hK; exact hK
    simp only [go_sem, hx, hy, aC_eq, hc', hx1, hx2, hx3, hx4, hy1, hy2, hy3, hy4, hlt3]
    refine ⟨hlt2, fun h1 => ⟨hlt2, fun h2 => ⟨by omega, j + 1, weak_lit (by simp [okS, okV, okC, okL, okH, okB, okE, mkV_cons, mkV_nil, mkH_cons, mkH_nil, wsA, ws]) trivial, ⟨by omega, ?_⟩, by omega⟩, fun h2 => no (fun h => h2 (ordQ_eq0.2 (congrArg Prod.snd h)))⟩, fun h1 => no (fun h => h1 (ordQ_eq0.2 (congrArg Prod.fst h)))⟩
    have ea : av x = av y := Prod.ext (ordQ_eq0.1 h1) (ordQ_eq0.1 h2)
    rw [List.take_add_one, List.take_add_one, hx0, hy0]
    unfold vals at hgood ⊢
    rw [List.map_append, List.map_append, hgood]
    simp [ea]
   ·rw [List.take_of_length_le (by omega), List.take_of_length_le (by omega)] at hgood
    rw [decide_eq_true hgood] at hK
    exact hK
theorem rcheck_sound (hΓ : Holds P Γ) {f fv fs fo fc : Nat} (hv : Γ fv = .dat true rvalid_G) (hs : Γ fs = .dat true rsign_G) (ho : Γ fo = .dat false cone_G) (hc' : Γ fc = .dat true rcmp02_G) (hc : check P f = some (49, (ac_linkworkref54_Check fv fs fo fc).strip, [.tmp 2])) : Sound P f (.dat true rcheck_G) := by
 refine sound_dat hc rcheck_good hΓ (fun args K hcl hfi hG => ?_)
 match args, hG with
 | [a], hG =>
  obtain ⟨l, rfl, hwl, hok, hK⟩ := hG
  refine ⟨by simp, ?_⟩
  simp only [go_sem, ac_linkworkref54_Check, hv, hs, ho, hc']
  intro _
  refine ⟨fun h64 => ?_, fun h64 => ?_⟩
  ·have e : chk1 l = 4 := by unfold chk1; rw [if_pos (by omega)]
   rw [e] at hK
   exact hK
  refine wpA_loop (fun j : Nat => ⟨mkV [(0, asA l), (3, .one (.lit (.int .i64 j)))], mkH []⟩) (fun j => j ≤ l.length ∧ (l.take j).any badA = false) (fun j => l.length - j) 0 ?_ ?_ ?_
  ·exact weak_lit (by simp [okS, okV, okC, okL, okH, okB, okE, mkV_cons, mkV_nil, mkH_cons, mkH_nil, wsA, ws, asA, as]) trivial
  ·simp
  ·rintro j ⟨hj, hgood⟩
   simp only [go_sem, hv, hs, ho, hc']
   intro _
   refine ⟨fun hlt2 => ?_, fun hge2 => ?_⟩
   ·obtain ⟨x, hx⟩ : ∃ x, l.getD j a0 = x := ⟨_, rfl⟩
    have hxm : x ∈ l := by
     rw [← hx, List.getD_eq_getElem?_getD, List.getElem?_eq_getElem hlt2]; exact List.getElem_mem _
    have hox := hok x hxm
    have hx1 : rl x.1 ≤ 1073741824 := Nat.le_trans (Nat.le_max_left _ _) hox.2
    have hx2 : rl x.2 ≤ 1073741824 := Nat.le_trans (Nat.le_max_right _ _) hox.2
    have hx1' : rl x.1 ≤ 4294967296 := by omega
    have hx2' : rl x.2 ≤ 4294967296 := by omega
    have hx3 := hox.1.1
    have hx4 := hox.1.2
    simp only [go_sem, hx, aC_eq, hv, hs, ho, hc', hx1, hx2, hx1', hx2', hx3, hx4]
    have bad : badA x = true → K (AV.one (C.lit (Value.int IntKind.i64 3))) := by
     intro hb
     have e : chk1 l = 3 := by
      unfold chk1
      rw [if_neg (by omega), if_pos (List.any_eq_true.2 ⟨x, hxm, hb⟩)]
     rw [e] at hK
     exact hK
    have bad' : ¬ GoodA x → K (AV.one (C.lit (Value.int IntKind.i64 3))) := by
     intro hg
     refine bad ?_
     cases hb : badA x with
     | true => rfl
     | false => exact absurd (badA_f.1 hb) hg
    have hr1 : rz 1 ≤ 1073741824 := by
     have := rz_int 1
     have h1 : zs 1 ≤ 2 := zs_of (by decide)
     have e : ((1 : Int) : Rat) = 1 := rfl
     rw [e] at this
     omega
    refine ⟨hlt2, fun v1 => ⟨fun v2 => ⟨fun h => bad' (fun g => ?_), fun lo => ⟨hr1, fun h => bad' (fun g => ?_), fun hi => ⟨fun h => bad' (fun g => ?_), fun lt => ?_⟩⟩⟩, fun h => bad' (fun g => ?_)⟩, fun h => bad' (fun g => ?_)⟩
    ·exact absurd (ordQ_lt.1 h) (Rat.not_lt.2 g.lo)
    ·exact absurd (ordQ_gt.1 h) (Rat.not_lt.2 g.hi)
    ·exact absurd (ordQ_ge.1 h) (Rat.not_le.2 g.lt)
    ·refine ⟨by omega, j + 1, weak_lit (by simp [okS, okV, okC, okL, okH, okB, okE, mkV_cons, mkV_nil, mkH_cons, mkH_nil, wsA, ws]) trivial, ⟨by omega, ?_⟩, by omega⟩
     have hg : GoodA x := ⟨v1, v2, by rw [ordQ_lt, Rat.not_lt] at lo; exact lo, by rw [ordQ_gt, Rat.not_lt] at hi; exact hi, by rw [ordQ_ge, Rat.not_le] at lt; exact lt⟩
     have e : l.take (j + 1) = l.take j ++ [x] := by
      rw [List.take_add_one, List.getElem?_eq_getElem hlt2, ← hx, List.getD_eq_getElem?_getD, List.getElem?_eq_getElem hlt2]; rfl
     rw [e, List.any_append, hgood]
     simp [badA_f.2 hg]
    ·rw [g.v2] at h; exact absurd h (by simp)
    ·rw [g.v1] at h; exact absurd h (by simp)
   ·have e : chk1 l = 0 := by
     unfold chk1
     rw [List.take_of_length_le (by omega)] at hgood
     rw [if_neg (by omega), hgood]; rfl
    rw [e] at hK
    exact hK
end Go.Abs
end
section
set_option linter.unusedVariables false
set_option linter.unusedSimpArgs false
set_option maxRecDepth 100000
namespace Go.Num
def sh1 (by' : Rat) (a : Q2) : List Q2 :=
 let f := frac (a.1 + by')
 let t := f + (a.2 - a.1)
 if 1 < t then (0, t - 1) :: (if f < 1 then [(f, 1)] else []) else (if f < t then [(f, t)] else [])
def shL (by' : Rat) (l : List Q2) : List Q2 := l.flatMap (sh1 by')
def lim64 (l : List Q2) : List Q2 := if 64 < l.length then [] else l
def code64 (l : List Q2) : Nat := if 64 < l.length then 4 else 0
def shOut (l : List Arc) (y : R) : List Q2 := if chk [l] = 0 ∧ vldR y = true then lim64 (nrm (shL (rv y) (vals l))) else []
def shCode (l : List Arc) (y : R) : Nat := if chk [l] = 0 then (if vldR y = true then code64 (nrm (shL (rv y) (vals l))) else 3) else chk [l]
theorem sh1_pos (y : Rat) (a : Q2) : Pos (sh1 y a) := by
 intro b hb
 unfold sh1 at hb
 simp only at hb
 split at hb
 ·rename_i h
  rcases List.mem_cons.1 hb with rfl | hb
  ·simp only; grind
  ·split at hb
   ·rw [List.mem_singleton] at hb; subst hb; assumption
   ·simp at hb
 ·split at hb
  ·rw [List.mem_singleton] at hb; subst hb; assumption
  ·simp at hb
theorem sh1_len (y : Rat) (a : Q2) : (sh1 y a).length ≤ 2 := by
 unfold sh1; simp only; split <;> split <;> simp
theorem shL_len (y : Rat) (l : List Q2) : (shL y l).length ≤ 2 * l.length := by
 induction l with
 | nil => simp [shL]
 | cons a l ih =>
  have := sh1_len y a
  simp only [shL, List.flatMap_cons, List.length_append, List.length_cons] at ih ⊢
  omega
theorem okA_can {b : Nat} {q : Q2} (h1 : rz q.1 ≤ b) (h2 : rz q.2 ≤ b) : okA b (acan q) := ⟨WLA_can q, Nat.max_le.2 ⟨h1, h2⟩⟩
theorem vals_can (l : List Q2) : vals (l.map acan) = l := by unfold vals; simp [List.map_map, Function.comp_def, av_can]
theorem rz_one : rz 1 ≤ 2 := by
 have := rz_int 1
 have h1 : zs 1 ≤ 2 := zs_of (by decide)
 have e : ((1 : Int) : Rat) = 1 := rfl
 rw [e] at this
 omega
end Go.Num
namespace Go.Abs
open Go.Num
variable {P : Program} {Γ : Nat → Spec}
def cShift_G (tE m : Nat) (l : List AV) (K : AV → Prop) : Prop :=
 match l with
 | [a, b] => onAs (fun l => onR (fun y => (chk [l] = 0 → 2 * l.length ≤ m) ∧ okAs 10000000 l ∧ rl y ≤ 10000000 ∧ K (.tup [.one (.slice (((shOut l y).map acan).map aC)), errV tE (shCode l y)])) b) a
 | _ => False
theorem cShift_Ge (tE m : Nat) (a b : AV) (K : AV → Prop) : cShift_G tE m [a, b] K = (onAs (fun l => onR (fun y => (chk [l] = 0 → 2 * l.length ≤ m) ∧ okAs 10000000 l ∧ rl y ≤ 10000000 ∧ K (.tup [.one (.slice (((shOut l y).map acan).map aC)), errV tE (shCode l y)])) b) a) := propext Iff.rfl
@[congr] theorem cShift_Gc (tE m : Nat) {K : AV → Prop} {l l' : List AV} (h : l = l') : cShift_G tE m l K = cShift_G tE m l' K := by subst h; rfl
attribute [go_sem] cShift_Ge
attribute [go_sem ↓] cShift_Ge
theorem cShift_good (tE m : Nat) : Good (cShift_G tE m) := good_of fun as => by
 unfold cShift_G
 split
 ·exact (g_onAs fun _ => (g_onR fun _ => (.and fun _ => (.and fun _ => (.and fun _ => (.ret _))))))
 ·exact .of fun K hk => hk.elim
def ac_chart_Shift (f0 f1 f2 f3 f4 f5 f6 f7 f8 f9 tE : Nat) : AC := (.seq (.ops false [.u 3 (.box 3 (.t 1)), .m 4 (.c (.one .emp)), .m 5 (.c (.one (.lit .nilIface)))])
 (.fg [0, 3] (.seq (.seq (.ops false [.m 14 (.t 0), .u 15 (.row 1 [[.x 1 (.t 14)]]), .u 16 (.call f0 [(.t 15)]), .m 6 (.t 16)])
 (.fg [0, 3, 6] (.seq (.ops false [.m 17 (.t 6), .u 18 (.binn .neq (.t 17) (.c (.one (.lit .nilIface))))])
 (.fg [0, 3, 6, 18] (.cond (.t 18) (.seq (.ops false [.m 19 (.t 6), .m 4 (.c (.one .emp)), .m 5 (.t 19)])
 .ret) .skip)))))
 (.fg [0, 3] (.seq (.seq (.ops false [.u 20 (.ld none 3 true (.t 3)), .u 21 (.call f1 [(.t 20)]), .u 22 (.un .not (.t 21))])
 (.fg [0, 3, 22] (.cond (.t 22) (.seq (.ops false [.u 23 (.iface tE (.i 3)), .m 4 (.c (.one .emp)), .m 5 (.t 23)])
 .ret) .skip)))
 (.fg [0, 3] (.seq (.ops false [.m 7 (.c (.one .emp))])
 (.fg [0, 3, 7] (.seq (.seq (.ops false [.m 24 (.t 0), .u 25 (.len (.t 24)), .m 26 (.i 0)])
 (.fg [3, 7, 24, 25, 26] (.block 0 (.loop (.seq (.ops false [.u 27 (.bin .lss (.t 26) (.t 25))])
 (.fg [3, 7, 24, 25, 26, 27] (.seq (.cond (.t 27) .skip (.exit 0))
 (.fg [3, 7, 24, 25, 26] (.seq (.block 1 (.seq (.ops false [.u 28 (.idx 6 (.t 24) (.t 26)), .u 29 (.ld none 6 true (.t 28)), .u 9 (.alloc [(.lit (.bool false)), .emp, .emp, (.lit (.bool false)), .emp, .emp]), .n (.st none 6 (.t 9) (.t 29))])
 (.fg [3, 7, 9, 24, 25, 26] (.seq (.ops false [.u 31 (.fa 0 (.t 9)), .u 32 (.ld none 3 true (.t 31)), .u 33 (.ld none 3 true (.t 3)), .u 34 (.call f2 [(.t 32), (.t 33)]), .u 35 (.call f3 [(.t 34)]), .m 30 (.t 35), .u 36 (.ext 0 (.t 30)), .u 37 (.ext 1 (.t 30)), .u 10 (.alloc [(.lit (.bool false)), .emp, .emp]), .n (.st none 3 (.t 10) (.t 36)), .m 11 (.t 37)])
 (.fg [3, 7, 9, 10, 11, 24, 25, 26] (.seq (.seq (.ops false [.m 38 (.t 11), .u 39 (.binn .neq (.t 38) (.c (.one (.lit .nilIface))))])
 (.fg [3, 7, 9, 10, 11, 24, 25, 26, 39] (.cond (.t 39) (.seq (.ops false [.m 40 (.t 11), .m 4 (.c (.one .emp)), .m 5 (.t 40)])
 .ret) .skip)))
 (.fg [3, 7, 9, 10, 24, 25, 26] (.seq (.ops true [.u 41 (.ld none 3 true (.t 10)), .u 42 (.fa 3 (.t 9)), .u 43 (.ld none 3 true (.t 42)), .u 44 (.fa 0 (.t 9)), .u 45 (.ld none 3 true (.t 44)), .u 46 (.call f4 [(.t 43), (.t 45)]), .u 47 (.call f2 [(.t 41), (.t 46)]), .u 12 (.alloc [(.lit (.bool false)), .emp, .emp]), .n (.st none 3 (.t 12) (.t 47))])
 (.fg [3, 7, 10, 12, 24, 25, 26] (.seq (.seq (.ops true [.u 48 (.ld none 3 true (.t 12)), .u 49 (.call f5 []), .u 50 (.call f4 [(.t 48), (.t 49)]), .u 13 (.alloc [(.lit (.bool false)), .emp, .emp]), .n (.st none 3 (.t 13) (.t 50))])
 (.fg [3, 7, 10, 12, 13, 24, 25, 26] (.seq (.ops false [.u 51 (.ld none 3 true (.t 13)), .u 52 (.call f6 [(.t 51)]), .u 53 (.bin .gtr (.t 52) (.i 0))])
 (.fg [3, 7, 10, 12, 13, 24, 25, 26, 53] (.cond (.t 53) (.seq (.ops false [.m 54 (.t 7), .u 55 (.ld none 3 true (.t 13)), .u 56 (.build [.z [(.lit (.bool false)), .emp, .emp], .x 3 (.t 55)]), .u 57 (.row 6 [[.x 6 (.t 56)]]), .u 58 (.app 6 (.t 54) (.t 57)), .m 7 (.t 58)])
 (.fg [3, 7, 10, 12, 24, 25, 26] (.ops false [.u 59 (.call f5 []), .n (.st none 3 (.t 12) (.t 59))]))) .skip)))))
 (.fg [3, 7, 10, 12, 24, 25, 26] (.seq (.ops false [.u 60 (.ld none 3 true (.t 10)), .u 61 (.ld none 3 true (.t 12)), .u 62 (.call f7 [(.t 60), (.t 61)]), .u 63 (.bin .lss (.t 62) (.i 0))])
 (.fg [3, 7, 10, 12, 24, 25, 26, 63] (.cond (.t 63) (.ops false [.m 64 (.t 7), .u 65 (.ld none 3 true (.t 10)), .u 66 (.ld none 3 true (.t 12)), .u 67 (.build [.x 3 (.t 65), .x 3 (.t 66)]), .u 68 (.row 6 [[.x 6 (.t 67)]]), .u 69 (.app 6 (.t 64) (.t 68)), .m 7 (.t 69)]) .skip))))))))))))))
 (.fg [3, 7, 24, 25, 26] (.ops false [.u 70 (.bin .add (.t 26) (.i 1)), .m 26 (.t 70)])))))))))))
 (.fg [7] (.seq (.ops false [.m 71 (.t 7), .u 72 (.call f8 [(.t 71)]), .u 73 (.call f9 [(.t 72)]), .u 74 (.ext 0 (.t 73)), .u 75 (.ext 1 (.t 73)), .m 4 (.t 74), .m 5 (.t 75)])
 .ret)))))))))))
theorem okB_r {h h' : Nat → HB} {z : Nat} {b : Bool} {y : R} : okB h h' (some ⟨[[cb y, cn y, cd y]], z, b⟩) (some ⟨[[cb y, cn y, cd y]], z, b⟩) :=
 ⟨⟨rfl, rfl⟩, .inl ⟨rfl, fun e he c hc => by rw [List.mem_singleton] at he; subst he; exact clean_ref3 y c hc⟩⟩
theorem cShift_sound (hΓ : Holds P Γ) {f fk fv fa fw fs fo fg fc fn fl tE m : Nat} (hm64 : m ≤ 200) (hk : Γ fk = .dat false (ccheck_G tE)) (hv : Γ fv = .dat true rvalid_G) (ha : Γ fa = .dat false radd_G) (hw : Γ fw = .dat false cwrap_G) (hs : Γ fs = .dat false rsub_G)
  (ho : Γ fo = .dat false cone_G) (hg : Γ fg = .dat true rsign_G) (hc' : Γ fc = .dat true rcmp_G) (hn : Γ fn = .dat false (cnorm_G m)) (hl : Γ fl = .dat false (climit_G tE)) (hc : check P f = some (76, (ac_chart_Shift fk fv fa fw fs fo fg fc fn fl tE).strip, [.tmp 4, .tmp 5])) : Sound P f (.dat false (cShift_G tE m)) := by
 refine sound_dat hc (cShift_good tE m) hΓ (fun args K hcl hfi hG => ?_)
 match args, hG with
 | [a, b], hG =>
  obtain ⟨l, rfl, hwl, y, rfl, hy, hlm, hok, hyl, hK⟩ := hG
  refine ⟨by simp, ?_⟩
  have hokb : okAs 4294967296 l := okAs_mono hok (by decide)
  have hyl' : rl y ≤ 4294967296 := by omega
  by_cases h0 : chk [l] = 0
  ·cases hvy : vldR y with
   | false =>
    simp only [shOut, shCode, h0, hvy] at hK
    simp only [go_sem, ac_chart_Shift, hk, hv, h0, errV_0, hy, hyl', hvy]
    refine ⟨hwl, fun x hx => by rw [List.mem_singleton] at hx; subst hx; exact hokb, ?_⟩
    simp only [if_true, Bool.false_eq_true, and_false, if_false, List.map_nil, errV_s tE (show 3 ≠ 0 by decide)] at hK
    exact hK
   | true =>
    simp only [go_sem, ac_chart_Shift, hk, hv, ha, hw, hs, ho, hg, hc', hn, hl, h0, errV_0, hy, hyl', hvy]
    refine ⟨hwl, fun x hx => by rw [List.mem_singleton] at hx; subst hx; exact hokb, fun _ => ?_⟩
    have hll := (chk1_0 (chk_1 l ▸ h0)).1
    refine wpA_loop (fun p : Nat × Option (Bool × List Q2) => match p.2 with
      | none => ⟨mkV [(3, .one (.ptr 3 1 0 0)), (7, .one .emp), (24, asA l), (25, .one (.lit (.int .i64 l.length))), (26, .one (.lit (.int .i64 p.1)))], mkH [(3, ⟨1, some ⟨[[cb y, cn y, cd y]], 3, true⟩⟩)]⟩
      | some (false, L) => ⟨mkV [(3, .one (.ptr 3 1 0 0)), (7, .one (.own 58 1 6 0 L.length)), (24, asA l), (25, .one (.lit (.int .i64 l.length))), (26, .one (.lit (.int .i64 p.1)))], mkH [(3, ⟨1, some ⟨[[cb y, cn y, cd y]], 3, true⟩⟩), (58, ⟨1, some ⟨(L.map acan).map aC, 6, true⟩⟩)]⟩
      | some (true, L) => ⟨mkV [(3, .one (.ptr 3 1 0 0)), (7, .one (.own 69 1 6 0 L.length)), (24, asA l), (25, .one (.lit (.int .i64 l.length))), (26, .one (.lit (.int .i64 p.1)))], mkH [(3, ⟨1, some ⟨[[cb y, cn y, cd y]], 3, true⟩⟩), (69, ⟨1, some ⟨(L.map acan).map aC, 6, true⟩⟩)]⟩)
     (fun p => p.1 ≤ l.length ∧ ((p.2.map Prod.snd).getD []) = shL (rv y) (vals (l.take p.1)) ∧ ∀ b L, p.2 = some (b, L) → okAs 1000000000 (L.map acan)) (fun p => l.length - p.1) (0, none) ?_ ?_ ?_
    ·exact weak_lit (by simp [okS, okV, okC, okL, okH, okB, okE, mkV_cons, mkV_nil, mkH_cons, mkH_nil, wsA, ws, asA, as]) ⟨okB_r, trivial⟩
    ·exact ⟨Nat.zero_le _, rfl, fun b L h => by simp at h⟩
    ·rintro ⟨k, w⟩ ⟨hkl, hw', hwz⟩
     simp only at hkl hw' hwz
     by_cases hlt : k < l.length
     ·obtain ⟨x, hx⟩ : ∃ x, l.getD k a0 = x := ⟨_, rfl⟩
      have hx0 : l[k]? = some x := by rw [← hx, List.getD_eq_getElem?_getD, List.getElem?_eq_getElem hlt]; rfl
      have hox := hok x (List.mem_of_getElem? hx0)
      have hx1 : rl x.1 ≤ 10000000 := Nat.le_trans (Nat.le_max_left _ _) hox.2
      have hx2 : rl x.2 ≤ 10000000 := Nat.le_trans (Nat.le_max_right _ _) hox.2
      have hx3 := hox.1.1
      have hx4 := hox.1.2
      have hx1' : rl x.1 ≤ 4294967296 := by omega
      have hx2' : rl x.2 ≤ 4294967296 := by omega
      have r1 := rz_rv hx3
      have r2 := rz_rv hx4
      have r3 := rz_rv hy
      have s1 := rz_add (rv x.1) (rv y)
      have s2 := rz_frac (rv x.1 + rv y)
      have s3 := rz_sub (rv x.2) (rv x.1)
      generalize hfr : frac (rv x.1 + rv y) = fr at *
      have s4 := rz_add fr (rv x.2 - rv x.1)
      generalize htt : fr + (rv x.2 - rv x.1) = tt at *
      have s5 := rz_sub tt 1
      have s6 := rz_one
      have c1 : rz (rv x.1 + rv y) ≤ 1073741824 := by omega
      have c2 : rz fr ≤ 4294967296 := by omega
      have c3 : rz (rv x.2 - rv x.1) ≤ 4294967296 := by omega
      have c4 : rz tt ≤ 4294967296 := by omega
      have c5 : rz 1 ≤ 4294967296 := by omega
      have c6 : rz (tt - 1) ≤ 4294967296 := by omega
      have hgt1 : (0 < ordQ (tt - 1) 0) = (1 < tt) := propext (by
       rw [ordQ_gt]
       exact (Rat.lt_iff_sub_pos 1 tt).symm)
      have hsh : sh1 (rv y) (av x) = if 1 < tt then (0, tt - 1) :: (if fr < 1 then [(fr, 1)] else []) else (if fr < tt then [(fr, tt)] else []) := by
       rw [← htt, ← hfr]; rfl
      have hN : okAs 1000000000 ((sh1 (rv y) (av x)).map acan) := by
       rw [hsh]
       intro z hz
       obtain ⟨q, hq, rfl⟩ := List.mem_map.1 hz
       have : rz q.1 ≤ 1000000000 ∧ rz q.2 ≤ 1000000000 := by
        split at hq
        ·rcases List.mem_cons.1 hq with rfl | hq
         ·simp only [rz_zero]; omega
         ·split at hq
          ·rw [List.mem_singleton] at hq; subst hq; simp only; omega
          ·simp at hq
        ·split at hq
         ·rw [List.mem_singleton] at hq; subst hq; simp only; omega
         ·simp at hq
       exact okA_can this.1 this.2
      have hstep : shL (rv y) (vals (l.take (k + 1))) = shL (rv y) (vals (l.take k)) ++ sh1 (rv y) (av x) := by
       rw [List.take_add_one, hx0]
       simp [vals, shL]
      have hLl0 : ∀ b L, w = some (b, L) → L.length ≤ 2 * k := by
       intro b L h
       have h1 := shL_len (rv y) (vals (l.take k))
       rw [← hw', h] at h1
       simp only [Option.map_some, Option.getD_some, vals, List.length_map, List.length_take] at h1
       omega
      match w, hw', hwz, hLl0 with
      | none, hw', hwz, hLl0 =>
       simp only [go_sem, ha, hw, hs, ho, hg, hc', hn, hl, errV_0, hy, hyl', hlt, hx, aC_eq, hx1', hx2', hx3, hx4, c1, c2, c3, c4, c5, c6, hfr, htt, hgt1, ordQ_lt, List.length_append]
       refine ⟨fun h1 => ⟨by simp, ?_⟩, fun h1 => ⟨fun h2 => ⟨by simp, ?_⟩, fun h2 => ?_⟩⟩
       ·refine ⟨fun h2 => ⟨by simp, ?_⟩, fun h2 => ?_⟩
        ·refine ⟨by omega, (k + 1, some (false, [(0, tt - 1), (fr, 1)])), weak_lit (by simp [okS, okV, okC, okL, okH, okB, okE, mkV_cons, mkV_nil, mkH_cons, mkH_nil, wsA, ws, asA, as]) ⟨okB_r, okB_a (by simp [aC, acan, rcan_zero, cb, cn, cd, ws]), trivial⟩, ⟨by simp only; omega, ?_, fun b' L' h => ?_⟩, by simp only; omega⟩
         ·have hNN : sh1 (rv y) (av x) = [(0, tt - 1), (fr, 1)] := by rw [hsh]; simp [h1, h2]
          simp only [Option.map_some, Option.getD_some, hstep, ← hw', hNN]
          try simp
         ·have hNN : sh1 (rv y) (av x) = [(0, tt - 1), (fr, 1)] := by rw [hsh]; simp [h1, h2]
          simp only [Option.some.injEq, Prod.mk.injEq] at h
          obtain ⟨_, rfl⟩ := h
          rw [hNN] at hN
          exact hN
        ·refine ⟨by omega, (k + 1, some (false, [(0, tt - 1)])), weak_lit (by simp [okS, okV, okC, okL, okH, okB, okE, mkV_cons, mkV_nil, mkH_cons, mkH_nil, wsA, ws, asA, as]) ⟨okB_r, okB_a (by simp [aC, acan, rcan_zero, cb, cn, cd, ws]), trivial⟩, ⟨by simp only; omega, ?_, fun b' L' h => ?_⟩, by simp only; omega⟩
         ·have hNN : sh1 (rv y) (av x) = [(0, tt - 1)] := by rw [hsh]; simp [h1, h2]
          simp only [Option.map_some, Option.getD_some, hstep, ← hw', hNN]
          try simp
         ·have hNN : sh1 (rv y) (av x) = [(0, tt - 1)] := by rw [hsh]; simp [h1, h2]
          simp only [Option.some.injEq, Prod.mk.injEq] at h
          obtain ⟨_, rfl⟩ := h
          rw [hNN] at hN
          exact hN
       ·refine ⟨by omega, (k + 1, some (true, [(fr, tt)])), weak_lit (by simp [okS, okV, okC, okL, okH, okB, okE, mkV_cons, mkV_nil, mkH_cons, mkH_nil, wsA, ws, asA, as]) ⟨okB_r, okB_a (by simp [aC, acan, rcan_zero, cb, cn, cd, ws]), trivial⟩, ⟨by simp only; omega, ?_, fun b' L' h => ?_⟩, by simp only; omega⟩
        ·have hNN : sh1 (rv y) (av x) = [(fr, tt)] := by rw [hsh]; simp [h1, h2]
         simp only [Option.map_some, Option.getD_some, hstep, ← hw', hNN]
         try simp
        ·have hNN : sh1 (rv y) (av x) = [(fr, tt)] := by rw [hsh]; simp [h1, h2]
         simp only [Option.some.injEq, Prod.mk.injEq] at h
         obtain ⟨_, rfl⟩ := h
         rw [hNN] at hN
         exact hN
       ·refine ⟨by omega, (k + 1, none), weak_lit (by simp [okS, okV, okC, okL, okH, okB, okE, mkV_cons, mkV_nil, mkH_cons, mkH_nil, wsA, ws, asA, as]) ⟨okB_r, trivial⟩, ⟨by simp only; omega, ?_, fun b' L' h => ?_⟩, by simp only; omega⟩
        ·have hNN : sh1 (rv y) (av x) = [] := by rw [hsh]; simp [h1, h2]
         simp only [hstep, ← hw', hNN]
         simp
        ·simp at h
      | some (false, L), hw', hwz, hLl0 =>
       simp only [go_sem, ha, hw, hs, ho, hg, hc', hn, hl, errV_0, hy, hyl', hlt, hx, aC_eq, hx1', hx2', hx3, hx4, c1, c2, c3, c4, c5, c6, hfr, htt, hgt1, ordQ_lt, List.length_append]
       have hLl := hLl0 _ _ rfl
       refine ⟨fun h1 => ⟨by simp, by omega, ?_⟩, fun h1 => ⟨fun h2 => ⟨by simp, by omega, ?_⟩, fun h2 => ?_⟩⟩
       ·refine ⟨fun h2 => ⟨by simp, by omega, ?_⟩, fun h2 => ?_⟩
        ·refine ⟨by omega, (k + 1, some (false, L ++ [(0, tt - 1), (fr, 1)])), weak_lit (by simp [okS, okV, okC, okL, okH, okB, okE, mkV_cons, mkV_nil, mkH_cons, mkH_nil, wsA, ws, asA, as]) ⟨okB_r, okB_a (by simp [aC, acan, rcan_zero, cb, cn, cd, ws]), trivial⟩, ⟨by simp only; omega, ?_, fun b' L' h => ?_⟩, by simp only; omega⟩
         ·have hNN : sh1 (rv y) (av x) = [(0, tt - 1), (fr, 1)] := by rw [hsh]; simp [h1, h2]
          simp only [Option.map_some, Option.getD_some, hstep, ← hw', hNN]
          try simp
         ·have hNN : sh1 (rv y) (av x) = [(0, tt - 1), (fr, 1)] := by rw [hsh]; simp [h1, h2]
          simp only [Option.some.injEq, Prod.mk.injEq] at h
          obtain ⟨_, rfl⟩ := h
          rw [hNN] at hN
          rw [List.map_append]; exact okAs_append.2 ⟨hwz _ _ rfl, hN⟩
        ·refine ⟨by omega, (k + 1, some (false, L ++ [(0, tt - 1)])), weak_lit (by simp [okS, okV, okC, okL, okH, okB, okE, mkV_cons, mkV_nil, mkH_cons, mkH_nil, wsA, ws, asA, as]) ⟨okB_r, okB_a (by simp [aC, acan, rcan_zero, cb, cn, cd, ws]), trivial⟩, ⟨by simp only; omega, ?_, fun b' L' h => ?_⟩, by simp only; omega⟩
         ·have hNN : sh1 (rv y) (av x) = [(0, tt - 1)] := by rw [hsh]; simp [h1, h2]
          simp only [Option.map_some, Option.getD_some, hstep, ← hw', hNN]
          try simp
         ·have hNN : sh1 (rv y) (av x) = [(0, tt - 1)] := by rw [hsh]; simp [h1, h2]
          simp only [Option.some.injEq, Prod.mk.injEq] at h
          obtain ⟨_, rfl⟩ := h
          rw [hNN] at hN
          rw [List.map_append]; exact okAs_append.2 ⟨hwz _ _ rfl, hN⟩
       ·refine ⟨by omega, (k + 1, some (false, L ++ [(fr, tt)])), weak_lit (by simp [okS, okV, okC, okL, okH, okB, okE, mkV_cons, mkV_nil, mkH_cons, mkH_nil, wsA, ws, asA, as]) ⟨okB_r, okB_a (by simp [aC, acan, rcan_zero, cb, cn, cd, ws]), trivial⟩, ⟨by simp only; omega, ?_, fun b' L' h => ?_⟩, by simp only; omega⟩
        ·have hNN : sh1 (rv y) (av x) = [(fr, tt)] := by rw [hsh]; simp [h1, h2]
         simp only [Option.map_some, Option.getD_some, hstep, ← hw', hNN]
         try simp
        ·have hNN : sh1 (rv y) (av x) = [(fr, tt)] := by rw [hsh]; simp [h1, h2]
         simp only [Option.some.injEq, Prod.mk.injEq] at h
         obtain ⟨_, rfl⟩ := h
         rw [hNN] at hN
         rw [List.map_append]; exact okAs_append.2 ⟨hwz _ _ rfl, hN⟩
       ·refine ⟨by omega, (k + 1, some (false, L)), weak_lit (by simp [okS, okV, okC, okL, okH, okB, okE, mkV_cons, mkV_nil, mkH_cons, mkH_nil, wsA, ws, asA, as]) ⟨okB_r, okB_a rfl, trivial⟩, ⟨by simp only; omega, ?_, fun b' L' h => ?_⟩, by simp only; omega⟩
        ·have hNN : sh1 (rv y) (av x) = [] := by rw [hsh]; simp [h1, h2]
         simp only [hstep, ← hw', hNN]
         simp
        ·exact hwz _ _ h
      | some (true, L), hw', hwz, hLl0 =>
       simp only [go_sem, ha, hw, hs, ho, hg, hc', hn, hl, errV_0, hy, hyl', hlt, hx, aC_eq, hx1', hx2', hx3, hx4, c1, c2, c3, c4, c5, c6, hfr, htt, hgt1, ordQ_lt, List.length_append]
       have hLl := hLl0 _ _ rfl
       refine ⟨fun h1 => ⟨by simp, by omega, ?_⟩, fun h1 => ⟨fun h2 => ⟨by simp, by omega, ?_⟩, fun h2 => ?_⟩⟩
       ·refine ⟨fun h2 => ⟨by simp, by omega, ?_⟩, fun h2 => ?_⟩
        ·refine ⟨by omega, (k + 1, some (true, L ++ [(0, tt - 1), (fr, 1)])), weak_lit (by simp [okS, okV, okC, okL, okH, okB, okE, mkV_cons, mkV_nil, mkH_cons, mkH_nil, wsA, ws, asA, as]) ⟨okB_r, okB_a (by simp [aC, acan, rcan_zero, cb, cn, cd, ws]), trivial⟩, ⟨by simp only; omega, ?_, fun b' L' h => ?_⟩, by simp only; omega⟩
         ·have hNN : sh1 (rv y) (av x) = [(0, tt - 1), (fr, 1)] := by rw [hsh]; simp [h1, h2]
          simp only [Option.map_some, Option.getD_some, hstep, ← hw', hNN]
          try simp
         ·have hNN : sh1 (rv y) (av x) = [(0, tt - 1), (fr, 1)] := by rw [hsh]; simp [h1, h2]
          simp only [Option.some.injEq, Prod.mk.injEq] at h
          obtain ⟨_, rfl⟩ := h
          rw [hNN] at hN
          rw [List.map_append]; exact okAs_append.2 ⟨hwz _ _ rfl, hN⟩
        ·refine ⟨by omega, (k + 1, some (true, L ++ [(0, tt - 1)])), weak_lit (by simp [okS, okV, okC, okL, okH, okB, okE, mkV_cons, mkV_nil, mkH_cons, mkH_nil, wsA, ws, asA, as]) ⟨okB_r, okB_a (by simp [aC, acan, rcan_zero, cb, cn, cd, ws]), trivial⟩, ⟨by simp only; omega, ?_, fun b' L' h => ?_⟩, by simp only; omega⟩
         ·have hNN : sh1 (rv y) (av x) = [(0, tt - 1)] := by rw [hsh]; simp [h1, h2]
          simp only [Option.map_some, Option.getD_some, hstep, ← hw', hNN]
          try simp
         ·have hNN : sh1 (rv y) (av x) = [(0, tt - 1)] := by rw [hsh]; simp [h1, h2]
          simp only [Option.some.injEq, Prod.mk.injEq] at h
          obtain ⟨_, rfl⟩ := h
          rw [hNN] at hN
          rw [List.map_append]; exact okAs_append.2 ⟨hwz _ _ rfl, hN⟩
       ·refine ⟨by omega, (k + 1, some (true, L ++ [(fr, tt)])), weak_lit (by simp [okS, okV, okC, okL, okH, okB, okE, mkV_cons, mkV_nil, mkH_cons, mkH_nil, wsA, ws, asA, as]) ⟨okB_r, okB_a (by simp [aC, acan, rcan_zero, cb, cn, cd, ws]), trivial⟩, ⟨by simp only; omega, ?_, fun b' L' h => ?_⟩, by simp only; omega⟩
        ·have hNN : sh1 (rv y) (av x) = [(fr, tt)] := by rw [hsh]; simp [h1, h2]
         simp only [Option.map_some, Option.getD_some, hstep, ← hw', hNN]
         try simp
        ·have hNN : sh1 (rv y) (av x) = [(fr, tt)] := by rw [hsh]; simp [h1, h2]
         simp only [Option.some.injEq, Prod.mk.injEq] at h
         obtain ⟨_, rfl⟩ := h
         rw [hNN] at hN
         rw [List.map_append]; exact okAs_append.2 ⟨hwz _ _ rfl, hN⟩
       ·refine ⟨by omega, (k + 1, some (true, L)), weak_lit (by simp [okS, okV, okC, okL, okH, okB, okE, mkV_cons, mkV_nil, mkH_cons, mkH_nil, wsA, ws, asA, as]) ⟨okB_r, okB_a rfl, trivial⟩, ⟨by simp only; omega, ?_, fun b' L' h => ?_⟩, by simp only; omega⟩
        ·have hNN : sh1 (rv y) (av x) = [] := by rw [hsh]; simp [h1, h2]
         simp only [hstep, ← hw', hNN]
         simp
        ·exact hwz _ _ h
     ·have hkk : k = l.length := by omega
      rw [hkk, List.take_length] at hw'
      have hlm' := hlm h0
      have hlen := shL_len (rv y) (vals l)
      have hvl : (vals l).length = l.length := by simp [vals]
      have hposL : Pos (shL (rv y) (vals l)) := by
       intro q hq
       unfold shL at hq
       obtain ⟨a, _, ha⟩ := List.mem_flatMap.1 hq
       exact sh1_pos _ _ q ha
      have hposA : PosA ((shL (rv y) (vals l)).map acan) := by
       intro z hz
       obtain ⟨q, hq, rfl⟩ := List.mem_map.1 hz
       have := hposL q hq
       simpa [acan, rv_rcan] using this
      have hfin : K (AV.tup [AV.one (C.slice ((if 64 < ((nrm (vals ((shL (rv y) (vals l)).map acan))).map acan).length then [] else (nrm (vals ((shL (rv y) (vals l)).map acan))).map acan).map aC)), errV tE (if 64 < ((nrm (vals ((shL (rv y) (vals l)).map acan))).map acan).length then 4 else 0)]) := by
       have e1 : shOut l y = lim64 (nrm (shL (rv y) (vals l))) := by unfold shOut; rw [if_pos ⟨h0, hvy⟩]
       have e2 : shCode l y = code64 (nrm (shL (rv y) (vals l))) := by unfold shCode; rw [if_pos h0, if_pos hvy]
       rw [e1, e2] at hK
       rw [vals_can, List.length_map]
       unfold lim64 code64 at hK
       split
       ·rename_i h; rw [if_pos h, if_pos h] at hK; exact hK
       ·rename_i h; rw [if_neg h, if_neg h] at hK; exact hK
      match w, hw', hwz with
      | none, hw', hwz =>
       simp only [go_sem, ha, hw, hs, ho, hg, hc', hn, hl, errV_0, hy, hyl', hlt]
       have := hfin
       simp only [Option.map_none, Option.getD_none] at hw'
       rw [← hw'] at this
       simp only [List.length_map, List.map_nil] at this
       refine ⟨by omega, fun z hz => by simp at hz, fun z hz => by simp at hz, (fun z hz => by obtain ⟨q, _, rfl⟩ := List.mem_map.1 hz; exact WLA_can q), this⟩
      | some (false, L), hw', hwz =>
       simp only [go_sem, ha, hw, hs, ho, hg, hc', hn, hl, errV_0, hy, hyl', hlt]
       have := hfin
       simp only [Option.map_some, Option.getD_some] at hw'
       rw [← hw'] at this hposA hlen
       simp only [List.length_map] at this
       exact ⟨(fun z hz => by obtain ⟨q, _, rfl⟩ := List.mem_map.1 hz; exact WLA_can q), by omega, okAs_mono (hwz _ _ rfl) (by decide), hposA, (fun z hz => by obtain ⟨q, _, rfl⟩ := List.mem_map.1 hz; exact WLA_can q), this⟩
      | some (true, L), hw', hwz =>
       simp only [go_sem, ha, hw, hs, ho, hg, hc', hn, hl, errV_0, hy, hyl', hlt]
       have := hfin
       simp only [Option.map_some, Option.getD_some] at hw'
       rw [← hw'] at this hposA hlen
       simp only [List.length_map] at this
       exact ⟨(fun z hz => by obtain ⟨q, _, rfl⟩ := List.mem_map.1 hz; exact WLA_can q), by omega, okAs_mono (hwz _ _ rfl) (by decide), hposA, (fun z hz => by obtain ⟨q, _, rfl⟩ := List.mem_map.1 hz; exact WLA_can q), this⟩
  ·simp only [shOut, shCode, h0, errV_s tE h0] at hK
   simp only [go_sem, ac_chart_Shift, hk, h0, errV_s tE h0]
   refine ⟨hwl, fun x hx => by rw [List.mem_singleton] at hx; subst hx; exact hokb, ?_⟩
   simp only [false_and, if_false, List.map_nil, errV_s tE h0] at hK
   exact hK
end Go.Abs
end
