/-
  Parts of the proof, merged: ComB, PoseD, PoseE, PoseT, PoseF, PoseG.
-/
import Derived.Test.YtobkolmneiiheaaGreatDoorM7
set_option linter.unusedVariables false
set_option linter.unusedSimpArgs false
section
set_option linter.unusedVariables false
set_option linter.unusedSimpArgs false
set_option maxRecDepth 100000
namespace Go.Num
def posR : List R → Rat → Nat
 | [], _ => 0
 | x :: l, q => if rv x < q then posR l q + 1 else 0
def insR (l : List R) (y : R) : List R := if (l.drop (posR l (rv y))).head?.map rv = some (rv y) then l else l.take (posR l (rv y)) ++ y :: l.drop (posR l (rv y))
def okRs (b : Nat) (l : List R) : Prop := ∀ x ∈ l, WLR x ∧ rl x ≤ b
def insA (S : List R) (x : Arc) : List R := insR (insR S x.1) x.2
def marksR (L : List (List Arc)) : List R := L.flatten.foldl insA [rcan 0, rcan 1]
end Go.Num
namespace Go.Abs
open Go.Num
variable {P : Program} {Γ : Nat → Spec}
def rsA (l : List R) : AV := .one (.slice (l.map rC))
theorem rC_inj {x y : R} (h : rC x = rC y) : x = y := rA_inj x y (by simpa [rC, rA] using h)
theorem rsA_inj (x y : List R) (h : rsA x = rsA y) : x = y := by
 simp only [rsA, AV.one.injEq, C.slice.injEq] at h
 exact List.map_inj_right (fun _ _ => rC_inj) |>.1 h
def onRs (k : List R → Prop) (a : AV) : Prop := onE rsA (fun l => (∀ x ∈ l, WLR x) ∧ k l) a
@[congr] theorem onRs_cg {k : List R → Prop} {a a' : AV} (h : a = a') : onRs k a = onRs k a' := by subst h; rfl
theorem onRs_e (k : List R → Prop) (l : List R) : onRs k (.one (.slice (l.map rC))) = ((∀ x ∈ l, WLR x) ∧ k l) := onE_e rsA_inj (fun l => (∀ x ∈ l, WLR x) ∧ k l) l
theorem g_onRs {β : Type} {T : List R → (β → Prop) → Prop} (h : ∀ l, GoodT (T l)) {a : AV} : GoodT fun K => onRs (fun l => T l K) a :=
 g_onE (e := rsA) (T := fun l K => (∀ x ∈ l, WLR x) ∧ T l K) rsA_inj fun l => GoodT.and (c := ∀ x ∈ l, WLR x) (T := T l) fun _ => h l
theorem clean_rs (l : List R) : Clean (.slice (l.map rC)) = True := eq_true (.slice _ (of_eq_true (clean_rC l)))
theorem take_rC (l : List R) (n : Nat) : (l.map rC).take n = (l.take n).map rC := by rw [List.map_take]
theorem drop_rC (l : List R) (n : Nat) : (l.map rC).drop n = (l.drop n).map rC := by rw [List.map_drop]
theorem rsA_eq (l : List R) : rsA l = .one (.slice (l.map rC)) := eq_of_heq (HEq.refl _)
attribute [go_sem] onRs_e clean_rs rsA_eq take_rC drop_rC
attribute [go_sem ↓] onRs_e clean_rs rsA_eq
def fmarks_G (l : List AV) (K : AV → Prop) : Prop :=
 match l with
 | [a] => onL (fun L => (∀ l ∈ L, okAs 1073741824 l) ∧ L.flatten.length ≤ 100000 ∧ K (.one (.slice ((marksR L).map rC)))) a
 | _ => False
theorem fmarks_Ge (a : AV) (K : AV → Prop) : fmarks_G [a] K = (onL (fun L => (∀ l ∈ L, okAs 1073741824 l) ∧ L.flatten.length ≤ 100000 ∧ K (.one (.slice ((marksR L).map rC)))) a) := propext Iff.rfl
@[congr] theorem fmarks_Gc {K : AV → Prop} {l l' : List AV} (h : l = l') : fmarks_G l K = fmarks_G l' K := by subst h; rfl
attribute [go_sem] fmarks_Ge
attribute [go_sem ↓] fmarks_Ge
def finsert_G (l : List AV) (K : AV → Prop) : Prop :=
 match l with
 | [a, b] => onRs (fun l => onR (fun y => okRs 1073741824 l ∧ rl y ≤ 1073741824 ∧ l.length ≤ 1000000 ∧ K (.one (.slice ((insR l y).map rC)))) b) a
 | _ => False
theorem finsert_Ge (a b : AV) (K : AV → Prop) : finsert_G [a, b] K = (onRs (fun l => onR (fun y => okRs 1073741824 l ∧ rl y ≤ 1073741824 ∧ l.length ≤ 1000000 ∧ K (.one (.slice ((insR l y).map rC)))) b) a) := propext Iff.rfl
@[congr] theorem finsert_Gc {K : AV → Prop} {l l' : List AV} (h : l = l') : finsert_G l K = finsert_G l' K := by subst h; rfl
attribute [go_sem] finsert_Ge
attribute [go_sem ↓] finsert_Ge
end Go.Abs
end
section
set_option linter.unusedVariables false
set_option linter.unusedSimpArgs false
set_option maxRecDepth 100000
namespace Go.Num
open Go.Abs
theorem all_f {α : Type} {f : α → Bool} {l : List α} {k : Nat} {x : α} (h : l[k]? = some x) (hb : f x = false) : l.all f = false := by
 rw [List.all_eq_false]
 exact ⟨x, List.mem_of_getElem? h, by simp [hb]⟩
theorem all_step {α : Type} {f : α → Bool} {l : List α} {k : Nat} {x : α} (h : l[k]? = some x) (ht : (l.take k).all f = true) (hb : f x = true) : (l.take (k + 1)).all f = true := by
 rw [List.take_add_one, h, List.all_append, ht]; simp [hb]
theorem getD_get {α : Type} {l : List α} {k : Nat} {x d : α} (hk : k < l.length) (h : l.getD k d = x) : l[k]? = some x := by
 rw [← h, List.getD_eq_getElem?_getD, List.getElem?_eq_getElem hk]; rfl
def sR (n : Nat) (x : R) : Bool := decide (x.2.1.length ≤ n) && decide (x.2.2.length ≤ n)
def sP (p : Ps) : Bool := sR 2 p.1.1 && (sR 2 p.2.1 && sR 2 p.2.2)
def sA (p : Arc) : Bool := sR 2 p.1 && sR 2 p.2
def placeC (l : List Arc) : Nat := if l.all avld then 0 else 2
def chkC (l : List Ps) (m : List Arc) : Nat := if threeC l ≠ 0 then threeC l else placeC m
theorem sR_rl {n : Nat} {x : R} (h : sR n x = true) : rl x ≤ n := by
 simp only [sR, Bool.and_eq_true, decide_eq_true_eq] at h
 exact Nat.max_le.2 h
theorem imgs_len (l : List Ps) (q : Arc) : (imgs l q).length = l.length := by unfold imgs; rw [List.length_map]
theorem imgs_take {l : List Ps} {q : Arc} {k : Nat} {p : Ps} (h : l[k]? = some p) : imgs (l.take (k + 1)) q = imgs (l.take k) q ++ [appQ (pv p) (av q)] := by
 unfold imgs; rw [List.take_add_one, h]; simp
end Go.Num
namespace Go.Abs
open Go.Num
variable {P : Program} {Γ : Nat → Spec}
def qsA (l : List V2) : AV := .one (.slice ((l.map acan).map aC))
theorem qsA_eq (l : List V2) : qsA l = .one (.slice ((l.map acan).map aC)) := eq_of_heq (HEq.refl _)
theorem onAs_m1 (k : List Arc → Prop) (a b c d e f : C) : onAs k (.one (.slice [[a, b, c, d, e, f]])) = onO (fun x => onO (fun y => WLA (x, y) ∧ k [(x, y)]) (dR d e f)) (dR a b c) := by
 refine propext ⟨fun ⟨t, h, h1⟩ => ?_, fun h => ?_⟩
 ·simp only [asA, as, AV.one.injEq, C.slice.injEq] at h
  match t, h with
  | [z], h =>
   simp only [List.map_cons, List.map_nil, aC, List.cons.injEq, and_true] at h
   obtain ⟨rfl, rfl, rfl, rfl, rfl, rfl⟩ := h
   simp only [dR_e, onO_s]
   exact ⟨h1.1 _ (by simp), h1.2⟩
 ·obtain ⟨x, h1, q1⟩ := onO_iff.1 h
  obtain ⟨y, h2, q2⟩ := onO_iff.1 q1
  obtain ⟨rfl, rfl, rfl⟩ := dR_some.1 h1
  obtain ⟨rfl, rfl, rfl⟩ := dR_some.1 h2
  exact ⟨[(x, y)], rfl, fun z hz => by rw [List.mem_singleton.1 hz]; exact q2.1, q2.2⟩
theorem onAs_m2 (k : List Arc → Prop) (a b c d e f a' b' c' d' e' f' : C) : onAs k (.one (.slice [[a, b, c, d, e, f], [a', b', c', d', e', f']])) = onO (fun x => onO (fun y => onO (fun z => onO (fun w => WLA (x, y) ∧ WLA (z, w) ∧ k [(x, y), (z, w)]) (dR d' e' f')) (dR a' b' c')) (dR d e f)) (dR a b c) := by
 refine propext ⟨fun ⟨t, h, h1⟩ => ?_, fun h => ?_⟩
 ·simp only [asA, as, AV.one.injEq, C.slice.injEq] at h
  match t, h with
  | [z, w], h =>
   simp only [List.map_cons, List.map_nil, aC, List.cons.injEq, and_true] at h
   obtain ⟨⟨rfl, rfl, rfl, rfl, rfl, rfl⟩, rfl, rfl, rfl, rfl, rfl, rfl⟩ := h
   simp only [dR_e, onO_s]
   exact ⟨h1.1 _ (by simp), h1.1 _ (by simp), h1.2⟩
 ·obtain ⟨x, h1, q1⟩ := onO_iff.1 h
  obtain ⟨y, h2, q2⟩ := onO_iff.1 q1
  obtain ⟨z, h3, q3⟩ := onO_iff.1 q2
  obtain ⟨w, h4, q4⟩ := onO_iff.1 q3
  obtain ⟨rfl, rfl, rfl⟩ := dR_some.1 h1
  obtain ⟨rfl, rfl, rfl⟩ := dR_some.1 h2
  obtain ⟨rfl, rfl, rfl⟩ := dR_some.1 h3
  obtain ⟨rfl, rfl, rfl⟩ := dR_some.1 h4
  refine ⟨[(x, y), (z, w)], rfl, fun v hv => ?_, q4.2.2⟩
  simp only [List.mem_cons, List.not_mem_nil, or_false] at hv
  rcases hv with rfl | rfl
  ·exact q4.1
  ·exact q4.2.1
theorem onRs_3 (k : List R → Prop) (a b c d e f g h i : C) : onRs k (.one (.slice [[a, b, c], [d, e, f], [g, h, i]])) = onO (fun x => onO (fun y => onO (fun z => (WLR x ∧ WLR y ∧ WLR z) ∧ k [x, y, z]) (dR g h i)) (dR d e f)) (dR a b c) := by
 refine propext ⟨fun ⟨t, h, h1⟩ => ?_, fun h => ?_⟩
 ·simp only [rsA, AV.one.injEq, C.slice.injEq] at h
  match t, h with
  | [x, y, z], h =>
   simp only [List.map_cons, List.map_nil, rC, List.cons.injEq, and_true] at h
   obtain ⟨⟨rfl, rfl, rfl⟩, ⟨rfl, rfl, rfl⟩, rfl, rfl, rfl⟩ := h
   simp only [dR_e, onO_s]
   exact ⟨⟨h1.1 _ (by simp), h1.1 _ (by simp), h1.1 _ (by simp)⟩, h1.2⟩
 ·obtain ⟨x, h1, q1⟩ := onO_iff.1 h
  obtain ⟨y, h2, q2⟩ := onO_iff.1 q1
  obtain ⟨z, h3, q3⟩ := onO_iff.1 q2
  obtain ⟨rfl, rfl, rfl⟩ := dR_some.1 h1
  obtain ⟨rfl, rfl, rfl⟩ := dR_some.1 h2
  obtain ⟨rfl, rfl, rfl⟩ := dR_some.1 h3
  refine ⟨[x, y, z], rfl, fun v hv => ?_, q3.2⟩
  simp only [List.mem_cons, List.not_mem_nil, or_false] at hv
  rcases hv with rfl | rfl | rfl
  ·exact q3.1.1
  ·exact q3.1.2.1
  ·exact q3.1.2.2
theorem onRs_5 (k : List R → Prop) (a b c d e f g h i j l m n o p : C) : onRs k (.one (.slice [[a, b, c], [d, e, f], [g, h, i], [j, l, m], [n, o, p]])) = onO (fun x => onO (fun y => onO (fun z => onO (fun u => onO (fun v => (WLR x ∧ WLR y ∧ WLR z ∧ WLR u ∧ WLR v) ∧ k [x, y, z, u, v]) (dR n o p)) (dR j l m)) (dR g h i)) (dR d e f)) (dR a b c) := by
 refine propext ⟨fun ⟨t, h, h1⟩ => ?_, fun h => ?_⟩
 ·simp only [rsA, AV.one.injEq, C.slice.injEq] at h
  match t, h with
  | [x, y, z, u, v], h =>
   simp only [List.map_cons, List.map_nil, rC, List.cons.injEq, and_true] at h
   obtain ⟨⟨rfl, rfl, rfl⟩, ⟨rfl, rfl, rfl⟩, ⟨rfl, rfl, rfl⟩, ⟨rfl, rfl, rfl⟩, rfl, rfl, rfl⟩ := h
   simp only [dR_e, onO_s]
   exact ⟨⟨h1.1 _ (by simp), h1.1 _ (by simp), h1.1 _ (by simp), h1.1 _ (by simp), h1.1 _ (by simp)⟩, h1.2⟩
 ·obtain ⟨x, h1, q1⟩ := onO_iff.1 h
  obtain ⟨y, h2, q2⟩ := onO_iff.1 q1
  obtain ⟨z, h3, q3⟩ := onO_iff.1 q2
  obtain ⟨u, h4, q4⟩ := onO_iff.1 q3
  obtain ⟨v, h5, q5⟩ := onO_iff.1 q4
  obtain ⟨rfl, rfl, rfl⟩ := dR_some.1 h1
  obtain ⟨rfl, rfl, rfl⟩ := dR_some.1 h2
  obtain ⟨rfl, rfl, rfl⟩ := dR_some.1 h3
  obtain ⟨rfl, rfl, rfl⟩ := dR_some.1 h4
  obtain ⟨rfl, rfl, rfl⟩ := dR_some.1 h5
  refine ⟨[x, y, z, u, v], rfl, fun w hw => ?_, q5.2⟩
  obtain ⟨w1, w2, w3, w4, w5⟩ := q5.1
  simp only [List.mem_cons, List.not_mem_nil, or_false] at hw
  rcases hw with rfl | rfl | rfl | rfl | rfl <;> assumption
attribute [go_sem] onAs_m1 onAs_m2 onRs_3 onRs_5 qsA_eq
attribute [go_sem ↓] onAs_m1 onAs_m2 onRs_3 onRs_5 qsA_eq
def plck_G (tE : Nat) (l : List AV) (K : AV → Prop) : Prop :=
 match l with
 | [a] => onPs (fun l => okPs 100000000 l ∧ K (errV tE (if l.all pvld = true then 0 else 2))) a
 | _ => False
theorem plck_Ge (tE : Nat) (a : AV) (K : AV → Prop) : plck_G tE [a] K = (onPs (fun l => okPs 100000000 l ∧ K (errV tE (if l.all pvld = true then 0 else 2))) a) := propext Iff.rfl
@[congr] theorem plck_Gc (tE : Nat) {K : AV → Prop} {l l' : List AV} (h : l = l') : plck_G tE l K = plck_G tE l' K := by subst h; rfl
attribute [go_sem] plck_Ge
attribute [go_sem ↓] plck_Ge
theorem plck_good (tE : Nat) : Good (plck_G tE) := good_of fun as => by
 unfold plck_G
 split
 ·exact (g_onPs fun _ => (.and fun _ => (.ret _)))
 ·exact .of fun K hk => hk.elim
def plCk_G (tE : Nat) (l : List AV) (K : AV → Prop) : Prop :=
 match l with
 | [a] => onPs (fun l => okPs 100000000 l ∧ K (errV tE (plchk l))) a
 | _ => False
theorem plCk_Ge (tE : Nat) (a : AV) (K : AV → Prop) : plCk_G tE [a] K = (onPs (fun l => okPs 100000000 l ∧ K (errV tE (plchk l))) a) := propext Iff.rfl
@[congr] theorem plCk_Gc (tE : Nat) {K : AV → Prop} {l l' : List AV} (h : l = l') : plCk_G tE l K = plCk_G tE l' K := by subst h; rfl
attribute [go_sem] plCk_Ge
attribute [go_sem ↓] plCk_Ge
theorem plCk_good (tE : Nat) : Good (plCk_G tE) := good_of fun as => by
 unfold plCk_G
 split
 ·exact (g_onPs fun _ => (.and fun _ => (.ret _)))
 ·exact .of fun K hk => hk.elim
def rplck_G (l : List AV) (K : AV → Prop) : Prop :=
 match l with
 | [a] => onPs (fun l => okPs 100000000 l ∧ K (.one (.lit (.int .i64 (plchk l : Nat))))) a
 | _ => False
theorem rplck_Ge (a : AV) (K : AV → Prop) : rplck_G [a] K = (onPs (fun l => okPs 100000000 l ∧ K (.one (.lit (.int .i64 (plchk l : Nat))))) a) := propext Iff.rfl
@[congr] theorem rplck_Gc {K : AV → Prop} {l l' : List AV} (h : l = l') : rplck_G l K = rplck_G l' K := by subst h; rfl
attribute [go_sem] rplck_Ge
attribute [go_sem ↓] rplck_Ge
theorem rplck_good : Good rplck_G := good_of fun as => by
 unfold rplck_G
 split
 ·exact (g_onPs fun _ => (.and fun _ => (.ret _)))
 ·exact .of fun K hk => hk.elim
def rthree_G (l : List AV) (K : AV → Prop) : Prop :=
 match l with
 | [a] => onPs (fun l => okPs 100000000 l ∧ K (.one (.lit (.int .i64 (threeC l : Nat))))) a
 | _ => False
theorem rthree_Ge (a : AV) (K : AV → Prop) : rthree_G [a] K = (onPs (fun l => okPs 100000000 l ∧ K (.one (.lit (.int .i64 (threeC l : Nat))))) a) := propext Iff.rfl
@[congr] theorem rthree_Gc {K : AV → Prop} {l l' : List AV} (h : l = l') : rthree_G l K = rthree_G l' K := by subst h; rfl
attribute [go_sem] rthree_Ge
attribute [go_sem ↓] rthree_Ge
theorem rthree_good : Good rthree_G := good_of fun as => by
 unfold rthree_G
 split
 ·exact (g_onPs fun _ => (.and fun _ => (.ret _)))
 ·exact .of fun K hk => hk.elim
def pimgs_G (tE : Nat) (l : List AV) (K : AV → Prop) : Prop :=
 match l with
 | [a, b] => onPs (fun l => onA (fun q => okPs 1000000 l ∧ al q ≤ 1000000 ∧ l.length ≤ 100000 ∧ K (.tup [qsA (if imgC l q = 0 then imgs l q else []), errV tE (imgC l q)])) b) a
 | _ => False
theorem pimgs_Ge (tE : Nat) (a b : AV) (K : AV → Prop) : pimgs_G tE [a, b] K = (onPs (fun l => onA (fun q => okPs 1000000 l ∧ al q ≤ 1000000 ∧ l.length ≤ 100000 ∧ K (.tup [qsA (if imgC l q = 0 then imgs l q else []), errV tE (imgC l q)])) b) a) := propext Iff.rfl
@[congr] theorem pimgs_Gc (tE : Nat) {K : AV → Prop} {l l' : List AV} (h : l = l') : pimgs_G tE l K = pimgs_G tE l' K := by subst h; rfl
attribute [go_sem] pimgs_Ge
attribute [go_sem ↓] pimgs_Ge
theorem pimgs_good (tE : Nat) : Good (pimgs_G tE) := good_of fun as => by
 unfold pimgs_G
 split
 ·exact (g_onPs fun _ => (g_onA fun _ => (.and fun _ => (.and fun _ => (.and fun _ => (.ret _))))))
 ·exact .of fun K hk => hk.elim
def rplaces_G (l : List AV) (K : AV → Prop) : Prop :=
 match l with
 | [a, b] => onPs (fun l => onA (fun q => okPs 1000000 l ∧ al q ≤ 1000000 ∧ l.length ≤ 100000 ∧ K (qsA (imgs l q))) b) a
 | _ => False
theorem rplaces_Ge (a b : AV) (K : AV → Prop) : rplaces_G [a, b] K = (onPs (fun l => onA (fun q => okPs 1000000 l ∧ al q ≤ 1000000 ∧ l.length ≤ 100000 ∧ K (qsA (imgs l q))) b) a) := propext Iff.rfl
@[congr] theorem rplaces_Gc {K : AV → Prop} {l l' : List AV} (h : l = l') : rplaces_G l K = rplaces_G l' K := by subst h; rfl
attribute [go_sem] rplaces_Ge
attribute [go_sem ↓] rplaces_Ge
theorem rplaces_good : Good rplaces_G := good_of fun as => by
 unfold rplaces_G
 split
 ·exact (g_onPs fun _ => (g_onA fun _ => (.and fun _ => (.and fun _ => (.and fun _ => (.ret _))))))
 ·exact .of fun K hk => hk.elim
def pshort_G (l : List AV) (K : AV → Prop) : Prop :=
 match l with
 | [a] => onPs (fun l => okPs 4294967296 l ∧ K (.one (.lit (.bool (l.all sP))))) a
 | _ => False
theorem pshort_Ge (a : AV) (K : AV → Prop) : pshort_G [a] K = (onPs (fun l => okPs 4294967296 l ∧ K (.one (.lit (.bool (l.all sP))))) a) := propext Iff.rfl
@[congr] theorem pshort_Gc {K : AV → Prop} {l l' : List AV} (h : l = l') : pshort_G l K = pshort_G l' K := by subst h; rfl
attribute [go_sem] pshort_Ge
attribute [go_sem ↓] pshort_Ge
theorem pshort_good : Good pshort_G := good_of fun as => by
 unfold pshort_G
 split
 ·exact (g_onPs fun _ => (.and fun _ => (.ret _)))
 ·exact .of fun K hk => hk.elim
def ashort_G (l : List AV) (K : AV → Prop) : Prop :=
 match l with
 | [a] => onAs (fun l => okAs 4294967296 l ∧ K (.one (.lit (.bool (l.all sA))))) a
 | _ => False
theorem ashort_Ge (a : AV) (K : AV → Prop) : ashort_G [a] K = (onAs (fun l => okAs 4294967296 l ∧ K (.one (.lit (.bool (l.all sA))))) a) := propext Iff.rfl
@[congr] theorem ashort_Gc {K : AV → Prop} {l l' : List AV} (h : l = l') : ashort_G l K = ashort_G l' K := by subst h; rfl
attribute [go_sem] ashort_Ge
attribute [go_sem ↓] ashort_Ge
theorem ashort_good : Good ashort_G := good_of fun as => by
 unfold ashort_G
 split
 ·exact (g_onAs fun _ => (.and fun _ => (.ret _)))
 ·exact .of fun K hk => hk.elim
def lshort_G (l : List AV) (K : AV → Prop) : Prop :=
 match l with
 | [a] => onPs (fun l => okPs 4294967296 l ∧ K (.one (.lit (.bool (decide (l.length ≤ 20) && l.all sP))))) a
 | _ => False
theorem lshort_Ge (a : AV) (K : AV → Prop) : lshort_G [a] K = (onPs (fun l => okPs 4294967296 l ∧ K (.one (.lit (.bool (decide (l.length ≤ 20) && l.all sP))))) a) := propext Iff.rfl
@[congr] theorem lshort_Gc {K : AV → Prop} {l l' : List AV} (h : l = l') : lshort_G l K = lshort_G l' K := by subst h; rfl
attribute [go_sem] lshort_Ge
attribute [go_sem ↓] lshort_Ge
theorem lshort_good : Good lshort_G := good_of fun as => by
 unfold lshort_G
 split
 ·exact (g_onPs fun _ => (.and fun _ => (.ret _)))
 ·exact .of fun K hk => hk.elim
def tchk3_G (tE : Nat) (l : List AV) (K : AV → Prop) : Prop :=
 match l with
 | [a, b] => onPs (fun l => onAs (fun m => okPs 100000000 l ∧ okAs 100000000 m ∧ K (errV tE (chkC l m))) b) a
 | _ => False
theorem tchk3_Ge (tE : Nat) (a b : AV) (K : AV → Prop) : tchk3_G tE [a, b] K = (onPs (fun l => onAs (fun m => okPs 100000000 l ∧ okAs 100000000 m ∧ K (errV tE (chkC l m))) b) a) := propext Iff.rfl
@[congr] theorem tchk3_Gc (tE : Nat) {K : AV → Prop} {l l' : List AV} (h : l = l') : tchk3_G tE l K = tchk3_G tE l' K := by subst h; rfl
attribute [go_sem] tchk3_Ge
attribute [go_sem ↓] tchk3_Ge
theorem tchk3_good (tE : Nat) : Good (tchk3_G tE) := good_of fun as => by
 unfold tchk3_G
 split
 ·exact (g_onPs fun _ => (g_onAs fun _ => (.and fun _ => (.and fun _ => (.ret _)))))
 ·exact .of fun K hk => hk.elim
def brats_G (l : List AV) (K : AV → Prop) : Prop :=
 match l with
 | [a, b] => onRs (fun l => onRs (fun m => okRs 4294967296 l ∧ K (.one (.lit (.bool (decide (l = m)))))) b) a
 | _ => False
theorem brats_Ge (a b : AV) (K : AV → Prop) : brats_G [a, b] K = (onRs (fun l => onRs (fun m => okRs 4294967296 l ∧ K (.one (.lit (.bool (decide (l = m)))))) b) a) := propext Iff.rfl
@[congr] theorem brats_Gc {K : AV → Prop} {l l' : List AV} (h : l = l') : brats_G l K = brats_G l' K := by subst h; rfl
attribute [go_sem] brats_Ge
attribute [go_sem ↓] brats_Ge
theorem brats_good : Good brats_G := good_of fun as => by
 unfold brats_G
 split
 ·exact (g_onRs fun _ => (g_onRs fun _ => (.and fun _ => (.ret _))))
 ·exact .of fun K hk => hk.elim
def ac_linkworkbase_Rats (f0 : Nat) : AC := (.seq (.ops false [.m 4 .fa])
 (.fg [0, 1] (.seq (.seq (.ops false [.m 6 (.t 0), .u 7 (.len (.t 6)), .m 8 (.t 1), .u 9 (.len (.t 8)), .u 10 (.bin .neq (.t 7) (.t 9))])
 (.fg [0, 1, 10] (.cond (.t 10) (.seq (.ops false [.m 4 .fa])
 .ret) .skip)))
 (.fg [0, 1] (.seq (.seq (.ops false [.m 5 (.i 0)])
 (.fg [0, 1, 5] (.block 0 (.loop (.seq (.seq (.ops false [.m 11 (.t 5), .m 12 (.t 0), .u 13 (.len (.t 12)), .u 14 (.bin .lss (.t 11) (.t 13))])
 (.fg [0, 1, 5, 14] (.cond (.t 14) .skip (.exit 0))))
 (.fg [0, 1, 5] (.seq (.block 1 (.seq (.ops true [.m 17 (.t 0), .m 18 (.t 5), .u 19 (.idx 3 (.t 17) (.t 18)), .u 20 (.ld none 3 true (.t 19)), .m 21 (.t 1), .m 22 (.t 5), .u 23 (.idx 3 (.t 21) (.t 22)), .u 24 (.ld none 3 true (.t 23)), .u 25 (.call f0 [(.t 20), (.t 24)]), .u 26 (.un .not (.t 25))])
 (.fg [0, 1, 5, 26] (.cond (.t 26) (.seq (.ops false [.m 4 .fa])
 .ret) .skip))))
 (.fg [0, 1, 5] (.ops false [.m 15 (.t 5), .u 16 (.bin .add (.t 15) (.i 1)), .m 5 (.t 16)])))))))))
 (.fg [] (.seq (.ops false [.m 4 .tr])
 .ret)))))))
def ac_poles_check (f0 tE : Nat) : AC := (.seq (.ops false [.m 2 (.c (.one (.lit .nilIface)))])
 (.fg [0] (.seq (.seq (.ops false [.m 5 (.t 0), .u 6 (.len (.t 5)), .m 7 (.i 0)])
 (.fg [5, 6, 7] (.block 0 (.loop (.seq (.ops false [.u 8 (.bin .lss (.t 7) (.t 6))])
 (.fg [5, 6, 7, 8] (.seq (.cond (.t 8) .skip (.exit 0))
 (.fg [5, 6, 7] (.seq (.block 1 (.seq (.ops false [.u 9 (.idx 10 (.t 5) (.t 7)), .u 10 (.ld none 10 true (.t 9)), .u 4 (.alloc [(.lit (.bool false)), .emp, .emp, (.lit (.bool false)), (.lit (.bool false)), .emp, .emp, (.lit (.bool false)), .emp, .emp]), .n (.st none 10 (.t 4) (.t 10))])
 (.fg [4, 5, 6, 7] (.seq (.ops false [.u 11 (.ld none 10 true (.t 4)), .u 12 (.call f0 [(.t 11)]), .u 13 (.un .not (.t 12))])
 (.fg [5, 6, 7, 13] (.cond (.t 13) (.seq (.ops false [.u 14 (.iface tE (.i 2)), .m 2 (.t 14)])
 .ret) .skip))))))
 (.fg [5, 6, 7] (.ops false [.u 15 (.bin .add (.t 7) (.i 1)), .m 7 (.t 15)])))))))))))
 (.fg [] (.seq (.ops false [.m 2 (.c (.one (.lit .nilIface)))])
 .ret)))))
def ac_poles_Check (f0 tE : Nat) : AC := (.seq (.ops false [.m 2 (.c (.one (.lit .nilIface)))])
 (.fg [0] (.seq (.seq (.ops false [.m 3 (.t 0), .u 4 (.len (.t 3)), .u 5 (.bin .lss (.t 4) (.i 2))])
 (.fg [0, 5] (.cond (.t 5) (.seq (.ops false [.u 6 (.iface tE (.i 10)), .m 2 (.t 6)])
 .ret) .skip)))
 (.fg [0] (.seq (.seq (.ops false [.m 7 (.t 0), .u 8 (.len (.t 7)), .u 9 (.bin .gtr (.t 8) (.i 5))])
 (.fg [0, 9] (.cond (.t 9) (.seq (.ops false [.u 10 (.iface tE (.i 4)), .m 2 (.t 10)])
 .ret) .skip)))
 (.fg [0] (.seq (.ops false [.m 11 (.t 0), .u 12 (.call f0 [(.t 11)]), .m 2 (.t 12)])
 .ret)))))))
def ac_linkworkref45_Check (f0 : Nat) : AC := (.seq (.ops false [.m 2 (.i 0)])
 (.fg [0] (.seq (.block 0 (.seq (.ops false [.m 6 (.t 0), .u 7 (.len (.t 6)), .u 8 (.bin .lss (.t 7) (.i 2)), .m 5 (.t 8)])
 (.fg [0, 5] (.cond (.t 5) (.seq (.ops false [.m 2 (.i 10)])
 .ret) (.seq (.ops false [.m 10 (.t 0), .u 11 (.len (.t 10)), .u 12 (.bin .gtr (.t 11) (.i 5)), .m 9 (.t 12)])
 (.fg [0, 9] (.cond (.t 9) (.seq (.ops false [.m 2 (.i 4)])
 .ret) .skip)))))))
 (.fg [0] (.seq (.seq (.ops false [.m 13 (.t 0), .u 14 (.len (.t 13)), .m 15 (.i 0)])
 (.fg [13, 14, 15] (.block 1 (.loop (.seq (.ops false [.u 16 (.bin .lss (.t 15) (.t 14))])
 (.fg [13, 14, 15, 16] (.seq (.cond (.t 16) .skip (.exit 1))
 (.fg [13, 14, 15] (.seq (.block 2 (.seq (.ops false [.u 17 (.idx 10 (.t 13) (.t 15)), .u 18 (.ld none 10 true (.t 17)), .u 4 (.alloc [(.lit (.bool false)), .emp, .emp, (.lit (.bool false)), (.lit (.bool false)), .emp, .emp, (.lit (.bool false)), .emp, .emp]), .n (.st none 10 (.t 4) (.t 18))])
 (.fg [4, 13, 14, 15] (.seq (.ops false [.u 19 (.ld none 10 true (.t 4)), .u 20 (.call f0 [(.t 19)]), .u 21 (.un .not (.t 20))])
 (.fg [13, 14, 15, 21] (.cond (.t 21) (.seq (.ops false [.m 2 (.i 2)])
 .ret) .skip))))))
 (.fg [13, 14, 15] (.ops false [.u 22 (.bin .add (.t 15) (.i 1)), .m 15 (.t 22)])))))))))))
 (.fg [] (.seq (.ops false [.m 2 (.i 0)])
 .ret)))))))
def ac_linkworkref46_Three (f0 : Nat) : AC := (.seq (.ops false [.m 2 (.i 0)])
 (.fg [0] (.seq (.seq (.ops false [.m 4 (.t 0), .u 5 (.call f0 [(.t 4)]), .m 3 (.t 5)])
 (.fg [0, 3] (.seq (.ops false [.m 6 (.t 3), .u 7 (.bin .neq (.t 6) (.i 0))])
 (.fg [0, 3, 7] (.cond (.t 7) (.seq (.ops false [.m 8 (.t 3), .m 2 (.t 8)])
 .ret) .skip)))))
 (.fg [0] (.seq (.seq (.ops false [.m 9 (.t 0), .u 10 (.len (.t 9)), .u 11 (.bin .neq (.t 10) (.i 3))])
 (.fg [11] (.cond (.t 11) (.seq (.ops false [.m 2 (.i 10)])
 .ret) .skip)))
 (.fg [] (.seq (.ops false [.m 2 (.i 0)])
 .ret)))))))
def ac_threepos_images (f0 : Nat) : AC := (.seq (.ops false [.u 3 (.box 6 (.t 1)), .m 4 (.c (.one .emp)), .m 5 (.c (.one (.lit .nilIface)))])
 (.fg [0, 3] (.seq (.ops false [.m 6 (.c (.one .emp))])
 (.fg [0, 3, 6] (.seq (.seq (.ops false [.m 11 (.t 0), .u 12 (.len (.t 11)), .m 13 (.i 0)])
 (.fg [3, 6, 11, 12, 13] (.block 0 (.loop (.seq (.ops false [.u 14 (.bin .lss (.t 13) (.t 12))])
 (.fg [3, 6, 11, 12, 13, 14] (.seq (.cond (.t 14) .skip (.exit 0))
 (.fg [3, 6, 11, 12, 13] (.seq (.block 1 (.seq (.ops false [.u 15 (.idx 10 (.t 11) (.t 13)), .u 16 (.ld none 10 true (.t 15)), .u 8 (.alloc [(.lit (.bool false)), .emp, .emp, (.lit (.bool false)), (.lit (.bool false)), .emp, .emp, (.lit (.bool false)), .emp, .emp]), .n (.st none 10 (.t 8) (.t 16))])
 (.fg [3, 6, 8, 11, 12, 13] (.seq (.ops false [.u 18 (.ld none 10 true (.t 8)), .u 19 (.ld none 6 true (.t 3)), .u 20 (.call f0 [(.t 18), (.t 19)]), .m 17 (.t 20), .u 21 (.ext 0 (.t 17)), .u 22 (.ext 1 (.t 17)), .u 9 (.alloc [(.lit (.bool false)), .emp, .emp, (.lit (.bool false)), .emp, .emp]), .n (.st none 6 (.t 9) (.t 21)), .m 10 (.t 22)])
 (.fg [3, 6, 9, 10, 11, 12, 13] (.seq (.seq (.ops false [.m 23 (.t 10), .u 24 (.binn .neq (.t 23) (.c (.one (.lit .nilIface))))])
 (.fg [3, 6, 9, 10, 11, 12, 13, 24] (.cond (.t 24) (.seq (.ops false [.m 25 (.t 10), .m 4 (.c (.one .emp)), .m 5 (.t 25)])
 .ret) .skip)))
 (.fg [3, 6, 9, 11, 12, 13] (.ops false [.m 26 (.t 6), .u 27 (.ld none 6 true (.t 9)), .u 28 (.row 6 [[.x 6 (.t 27)]]), .u 29 (.app 6 (.t 26) (.t 28)), .m 6 (.t 29)]))))))))
 (.fg [3, 6, 11, 12, 13] (.ops false [.u 30 (.bin .add (.t 13) (.i 1)), .m 13 (.t 30)])))))))))))
 (.fg [6] (.seq (.ops false [.m 31 (.t 6), .m 4 (.t 31), .m 5 (.c (.one (.lit .nilIface)))])
 .ret)))))))
def ac_linkworkref17_Places (f0 : Nat) : AC := (.seq (.ops false [.u 3 (.box 6 (.t 1)), .m 4 (.c (.one .emp))])
 (.fg [0, 3] (.seq (.ops false [.m 5 (.c (.one .emp))])
 (.fg [0, 3, 5] (.seq (.seq (.ops false [.m 8 (.t 0), .u 9 (.len (.t 8)), .m 10 (.i 0)])
 (.fg [3, 5, 8, 9, 10] (.block 0 (.loop (.seq (.ops false [.u 11 (.bin .lss (.t 10) (.t 9))])
 (.fg [3, 5, 8, 9, 10, 11] (.seq (.cond (.t 11) .skip (.exit 0))
 (.fg [3, 5, 8, 9, 10] (.seq (.block 1 (.seq (.ops false [.u 12 (.idx 10 (.t 8) (.t 10)), .u 13 (.ld none 10 true (.t 12)), .u 7 (.alloc [(.lit (.bool false)), .emp, .emp, (.lit (.bool false)), (.lit (.bool false)), .emp, .emp, (.lit (.bool false)), .emp, .emp]), .n (.st none 10 (.t 7) (.t 13))])
 (.fg [3, 5, 7, 8, 9, 10] (.ops false [.m 14 (.t 5), .u 15 (.ld none 10 true (.t 7)), .u 16 (.ld none 6 true (.t 3)), .u 17 (.call f0 [(.t 15), (.t 16)]), .u 18 (.row 6 [[.x 6 (.t 17)]]), .u 19 (.app 6 (.t 14) (.t 18)), .m 5 (.t 19)]))))
 (.fg [3, 5, 8, 9, 10] (.ops false [.u 20 (.bin .add (.t 10) (.i 1)), .m 10 (.t 20)])))))))))))
 (.fg [5] (.seq (.ops false [.m 21 (.t 5), .m 4 (.t 21)])
 .ret)))))))
def ac_linkworkref17_Short : AC := (.seq (.ops false [.m 2 .fa])
 (.fg [0] (.seq (.seq (.ops false [.m 7 (.t 0), .u 8 (.len (.t 7)), .m 9 (.i 0)])
 (.fg [7, 8, 9] (.block 0 (.loop (.seq (.ops false [.u 10 (.bin .lss (.t 9) (.t 8))])
 (.fg [7, 8, 9, 10] (.seq (.cond (.t 10) .skip (.exit 0))
 (.fg [7, 8, 9] (.seq (.block 1 (.seq (.ops false [.u 11 (.idx 10 (.t 7) (.t 9)), .u 12 (.ld none 10 true (.t 11)), .u 4 (.alloc [(.lit (.bool false)), .emp, .emp, (.lit (.bool false)), (.lit (.bool false)), .emp, .emp, (.lit (.bool false)), .emp, .emp]), .n (.st none 10 (.t 4) (.t 12))])
 (.fg [4, 7, 8, 9] (.seq (.ops false [.u 13 (.fa 0 (.t 4)), .u 14 (.fa 0 (.t 13)), .u 15 (.ld none 3 true (.t 14)), .u 16 (.fa 4 (.t 4)), .u 17 (.fa 0 (.t 16)), .u 18 (.ld none 3 true (.t 17)), .u 19 (.fa 4 (.t 4)), .u 20 (.fa 3 (.t 19)), .u 21 (.ld none 3 true (.t 20)), .u 22 (.row 3 [[.x 3 (.t 15)], [.x 3 (.t 18)], [.x 3 (.t 21)]]), .u 23 (.len (.t 22)), .m 24 (.i 0)])
 (.fg [7, 8, 9, 22, 23, 24] (.block 2 (.loop (.seq (.ops false [.u 25 (.bin .lss (.t 24) (.t 23))])
 (.fg [7, 8, 9, 22, 23, 24, 25] (.seq (.cond (.t 25) .skip (.exit 2))
 (.fg [7, 8, 9, 22, 23, 24] (.seq (.block 3 (.seq (.ops false [.u 26 (.idx 3 (.t 22) (.t 24)), .u 27 (.ld none 3 true (.t 26)), .u 6 (.alloc [(.lit (.bool false)), .emp, .emp]), .n (.st none 3 (.t 6) (.t 27))])
 (.fg [6, 7, 8, 9, 22, 23, 24] (.seq (.ops false [.u 28 (.fa 1 (.t 6)), .u 29 (.ld none 1 false (.t 28)), .u 30 (.len (.t 29)), .u 31 (.bin .gtr (.t 30) (.i 2)), .m 32 (.t 31), .w 33 32 false (.fa 2 (.t 6)), .w 34 32 false (.ld none 1 false (.t 33)), .w 35 32 false (.len (.t 34)), .w 36 32 false (.bin .gtr (.t 35) (.i 2)), .u 37 (.pick (.t 32) .tr (.t 36))])
 (.fg [7, 8, 9, 22, 23, 24, 37] (.cond (.t 37) (.seq (.ops false [.m 2 .fa])
 .ret) .skip))))))
 (.fg [7, 8, 9, 22, 23, 24] (.ops false [.u 38 (.bin .add (.t 24) (.i 1)), .m 24 (.t 38)]))))))))))))))
 (.fg [7, 8, 9] (.ops false [.u 39 (.bin .add (.t 9) (.i 1)), .m 9 (.t 39)])))))))))))
 (.fg [] (.seq (.ops false [.m 2 .tr])
 .ret)))))
def ac_linkworkref17_ShortPlace : AC := (.seq (.ops false [.m 2 .fa])
 (.fg [0] (.seq (.seq (.ops false [.m 7 (.t 0), .u 8 (.len (.t 7)), .m 9 (.i 0)])
 (.fg [7, 8, 9] (.block 0 (.loop (.seq (.ops false [.u 10 (.bin .lss (.t 9) (.t 8))])
 (.fg [7, 8, 9, 10] (.seq (.cond (.t 10) .skip (.exit 0))
 (.fg [7, 8, 9] (.seq (.block 1 (.seq (.ops false [.u 11 (.idx 6 (.t 7) (.t 9)), .u 12 (.ld none 6 true (.t 11)), .u 4 (.alloc [(.lit (.bool false)), .emp, .emp, (.lit (.bool false)), .emp, .emp]), .n (.st none 6 (.t 4) (.t 12))])
 (.fg [4, 7, 8, 9] (.seq (.ops false [.u 13 (.fa 0 (.t 4)), .u 14 (.ld none 3 true (.t 13)), .u 15 (.fa 3 (.t 4)), .u 16 (.ld none 3 true (.t 15)), .u 17 (.row 3 [[.x 3 (.t 14)], [.x 3 (.t 16)]]), .u 18 (.len (.t 17)), .m 19 (.i 0)])
 (.fg [7, 8, 9, 17, 18, 19] (.block 2 (.loop (.seq (.ops false [.u 20 (.bin .lss (.t 19) (.t 18))])
 (.fg [7, 8, 9, 17, 18, 19, 20] (.seq (.cond (.t 20) .skip (.exit 2))
 (.fg [7, 8, 9, 17, 18, 19] (.seq (.block 3 (.seq (.ops false [.u 21 (.idx 3 (.t 17) (.t 19)), .u 22 (.ld none 3 true (.t 21)), .u 6 (.alloc [(.lit (.bool false)), .emp, .emp]), .n (.st none 3 (.t 6) (.t 22))])
 (.fg [6, 7, 8, 9, 17, 18, 19] (.seq (.ops false [.u 23 (.fa 1 (.t 6)), .u 24 (.ld none 1 false (.t 23)), .u 25 (.len (.t 24)), .u 26 (.bin .gtr (.t 25) (.i 2)), .m 27 (.t 26), .w 28 27 false (.fa 2 (.t 6)), .w 29 27 false (.ld none 1 false (.t 28)), .w 30 27 false (.len (.t 29)), .w 31 27 false (.bin .gtr (.t 30) (.i 2)), .u 32 (.pick (.t 27) .tr (.t 31))])
 (.fg [7, 8, 9, 17, 18, 19, 32] (.cond (.t 32) (.seq (.ops false [.m 2 .fa])
 .ret) .skip))))))
 (.fg [7, 8, 9, 17, 18, 19] (.ops false [.u 33 (.bin .add (.t 19) (.i 1)), .m 19 (.t 33)]))))))))))))))
 (.fg [7, 8, 9] (.ops false [.u 34 (.bin .add (.t 9) (.i 1)), .m 9 (.t 34)])))))))))))
 (.fg [] (.seq (.ops false [.m 2 .tr])
 .ret)))))
def ac_linkworklaw46_short (f0 : Nat) : AC := (.seq (.ops false [.m 2 .fa])
 (.fg [0] (.seq (.ops false [.m 3 (.t 0), .u 4 (.len (.t 3)), .u 5 (.bin .leq (.t 4) (.i 20)), .m 6 (.t 5), .w 7 6 true (.mv (.t 0)), .w 8 6 true (.call f0 [(.t 7)]), .u 9 (.pick (.t 6) (.t 8) .fa), .m 2 (.t 9)])
 .ret)))
def ac_threepos_check (f0 f1 tE : Nat) : AC := (.seq (.ops false [.m 4 (.c (.one (.lit .nilIface)))])
 (.fg [0, 1] (.seq (.seq (.ops false [.m 8 (.t 0), .u 9 (.call f0 [(.t 8)]), .m 5 (.t 9)])
 (.fg [0, 1, 5] (.seq (.ops false [.m 10 (.t 5), .u 11 (.binn .neq (.t 10) (.c (.one (.lit .nilIface))))])
 (.fg [0, 1, 5, 11] (.cond (.t 11) (.seq (.ops false [.m 12 (.t 5), .m 4 (.t 12)])
 .ret) .skip)))))
 (.fg [0, 1] (.seq (.seq (.ops false [.m 13 (.t 0), .u 14 (.len (.t 13)), .u 15 (.bin .neq (.t 14) (.i 3))])
 (.fg [1, 15] (.cond (.t 15) (.seq (.ops false [.u 16 (.iface tE (.i 10)), .m 4 (.t 16)])
 .ret) .skip)))
 (.fg [1] (.seq (.seq (.ops false [.m 17 (.t 1), .u 18 (.len (.t 17)), .m 19 (.i 0)])
 (.fg [17, 18, 19] (.block 0 (.loop (.seq (.ops false [.u 20 (.bin .lss (.t 19) (.t 18))])
 (.fg [17, 18, 19, 20] (.seq (.cond (.t 20) .skip (.exit 0))
 (.fg [17, 18, 19] (.seq (.block 1 (.seq (.ops false [.u 21 (.idx 6 (.t 17) (.t 19)), .u 22 (.ld none 6 true (.t 21)), .u 7 (.alloc [(.lit (.bool false)), .emp, .emp, (.lit (.bool false)), .emp, .emp]), .n (.st none 6 (.t 7) (.t 22))])
 (.fg [7, 17, 18, 19] (.seq (.ops false [.u 23 (.ld none 6 true (.t 7)), .u 24 (.call f1 [(.t 23)]), .u 25 (.un .not (.t 24))])
 (.fg [17, 18, 19, 25] (.cond (.t 25) (.seq (.ops false [.u 26 (.iface tE (.i 2)), .m 4 (.t 26)])
 .ret) .skip))))))
 (.fg [17, 18, 19] (.ops false [.u 27 (.bin .add (.t 19) (.i 1)), .m 19 (.t 27)])))))))))))
 (.fg [] (.seq (.ops false [.m 4 (.c (.one (.lit .nilIface)))])
 .ret)))))))))
theorem plck_sound (hΓ : Holds P Γ) {f fv tE : Nat} (hv : Γ fv = .dat true pvld_G) (hc : check P f = some (16, (ac_poles_check fv tE).strip, [.tmp 2])) : Sound P f (.dat false (plck_G tE)) := by
 refine sound_dat hc (plck_good tE) hΓ (fun args K hcl hfi hG => ?_)
 match args, hG with
 | [a], hG =>
  obtain ⟨l, rfl, hwl, hok, hK⟩ := hG
  refine ⟨by simp, ?_⟩
  simp only [go_sem, ac_poles_check, hv]
  intro _
  refine wpA_loop (fun k : Nat => ⟨mkV [(5, psA l), (6, .one (.lit (.int .i64 l.length))), (7, .one (.lit (.int .i64 k)))], mkH []⟩) (fun k => k ≤ l.length ∧ (l.take k).all pvld = true) (fun k => l.length - k) 0 ?_ ?_ ?_
  ·exact weak_lit (by simp [okS, okV, okC, okL, okH, okB, okE, mkV_cons, mkV_nil, mkH_cons, mkH_nil, wsA, ws, psA, psC]) trivial
  ·exact ⟨Nat.zero_le _, rfl⟩
  ·rintro k ⟨hk, hall⟩
   by_cases hlt : k < l.length
   ·obtain ⟨p, hp⟩ : ∃ p, l.getD k p0 = p := ⟨_, rfl⟩
    have hp0 := getD_get hlt hp
    obtain ⟨hp1, hp2⟩ := hok p (List.mem_of_getElem? hp0)
    cases hb : pvld p with
    | true =>
     simp only [go_sem, hlt, hp, hv, hb, pC_eq]
     exact ⟨hp1, hp2, by omega, k + 1, weak_lit (by simp [okS, okV, okC, okL, okH, okB, okE, mkV_cons, mkV_nil, mkH_cons, mkH_nil, wsA, ws, psA, psC]) trivial, ⟨by omega, all_step hp0 hall hb⟩, by omega⟩
    | false =>
     rw [all_f hp0 hb, if_neg (by decide), errV_s tE (by decide)] at hK
     simp only [go_sem, hlt, hp, hv, hb, pC_eq]
     exact ⟨hp1, hp2, hK⟩
   ·rw [List.take_of_length_le (by omega)] at hall
    rw [hall, if_pos rfl, errV_0] at hK
    simp only [go_sem, hlt]
    exact hK
theorem plCk_sound (hΓ : Holds P Γ) {f fk tE : Nat} (hk : Γ fk = .dat false (plck_G tE)) (hc : check P f = some (13, (ac_poles_Check fk tE).strip, [.tmp 2])) : Sound P f (.dat false (plCk_G tE)) := by
 refine sound_dat hc (plCk_good tE) hΓ (fun args K hcl hfi hG => ?_)
 match args, hG with
 | [a], hG =>
  obtain ⟨l, rfl, hwl, hok, hK⟩ := hG
  refine ⟨by simp, ?_⟩
  simp only [go_sem, ac_poles_Check, hk]
  unfold plchk at hK
  refine fun _ => ⟨fun h => ?_, fun h _ => ⟨fun h' => ?_, fun h' => ⟨hwl, hok, ?_⟩⟩⟩
  ·rw [if_pos (by omega), errV_s tE (by decide)] at hK; exact hK
  ·rw [if_neg (by omega), if_pos (by omega), errV_s tE (by decide)] at hK; exact hK
  ·rw [if_neg (by omega), if_neg (by omega)] at hK; exact hK
theorem rplck_sound (hΓ : Holds P Γ) {f fv : Nat} (hv : Γ fv = .dat true pvld_G) (hc : check P f = some (23, (ac_linkworkref45_Check fv).strip, [.tmp 2])) : Sound P f (.dat true rplck_G) := by
 refine sound_dat hc rplck_good hΓ (fun args K hcl hfi hG => ?_)
 match args, hG with
 | [a], hG =>
  obtain ⟨l, rfl, hwl, hok, hK⟩ := hG
  refine ⟨by simp, ?_⟩
  simp only [go_sem, ac_linkworkref45_Check, hv]
  unfold plchk at hK
  refine fun _ => ⟨fun h => ?_, fun h _ => ⟨fun h' => ?_, fun h' _ => ?_⟩⟩
  ·rw [if_pos (by omega)] at hK; exact hK
  ·rw [if_neg (by omega), if_pos (by omega)] at hK; exact hK
  rw [if_neg (by omega), if_neg (by omega)] at hK
  refine wpA_loop (fun k : Nat => ⟨mkV [(13, psA l), (14, .one (.lit (.int .i64 l.length))), (15, .one (.lit (.int .i64 k)))], mkH []⟩) (fun k => k ≤ l.length ∧ (l.take k).all pvld = true) (fun k => l.length - k) 0 ?_ ?_ ?_
  ·exact weak_lit (by simp [okS, okV, okC, okL, okH, okB, okE, mkV_cons, mkV_nil, mkH_cons, mkH_nil, wsA, ws, psA, psC]) trivial
  ·exact ⟨Nat.zero_le _, rfl⟩
  ·rintro k ⟨hk, hall⟩
   by_cases hlt : k < l.length
   ·obtain ⟨p, hp⟩ : ∃ p, l.getD k p0 = p := ⟨_, rfl⟩
    have hp0 := getD_get hlt hp
    obtain ⟨hp1, hp2⟩ := hok p (List.mem_of_getElem? hp0)
    cases hb : pvld p with
    | true =>
     simp only [go_sem, hlt, hp, hv, hb, pC_eq]
     exact ⟨hp1, hp2, by omega, k + 1, weak_lit (by simp [okS, okV, okC, okL, okH, okB, okE, mkV_cons, mkV_nil, mkH_cons, mkH_nil, wsA, ws, psA, psC]) trivial, ⟨by omega, all_step hp0 hall hb⟩, by omega⟩
    | false =>
     rw [all_f hp0 hb, if_neg (by decide)] at hK
     simp only [go_sem, hlt, hp, hv, hb, pC_eq]
     exact ⟨hp1, hp2, hK⟩
   ·rw [List.take_of_length_le (by omega)] at hall
    rw [hall, if_pos rfl] at hK
    simp only [go_sem, hlt]
    exact hK
theorem rthree_sound (hΓ : Holds P Γ) {f fk : Nat} (hk : Γ fk = .dat true rplck_G) (hc : check P f = some (12, (ac_linkworkref46_Three fk).strip, [.tmp 2])) : Sound P f (.dat true rthree_G) := by
 refine sound_dat hc rthree_good hΓ (fun args K hcl hfi hG => ?_)
 match args, hG with
 | [a], hG =>
  obtain ⟨l, rfl, hwl, hok, hK⟩ := hG
  refine ⟨by simp, ?_⟩
  simp only [go_sem, ac_linkworkref46_Three, hk]
  unfold threeC at hK
  refine ⟨hwl, hok, fun h _ => ⟨fun h' => ?_, fun h' => ?_⟩, fun h => ?_⟩
  ·rw [if_neg (by omega), if_pos (by omega)] at hK; exact hK
  ·rw [if_neg (by omega), if_neg (by omega)] at hK; exact hK
  ·rw [if_pos (by omega)] at hK; exact hK
theorem tchk3_sound (hΓ : Holds P Γ) {f fk fv tE : Nat} (hk : Γ fk = .dat false (plCk_G tE)) (hv : Γ fv = .dat true pvalid_G) (hc : check P f = some (28, (ac_threepos_check fk fv tE).strip, [.tmp 4])) : Sound P f (.dat false (tchk3_G tE)) := by
 refine sound_dat hc (tchk3_good tE) hΓ (fun args K hcl hfi hG => ?_)
 match args, hG with
 | [a, b], hG =>
  obtain ⟨l, rfl, hwl, m, rfl, hwm, hok, hom, hK⟩ := hG
  refine ⟨by simp, ?_⟩
  by_cases h0 : plchk l = 0
  ·have e3 : threeC l = if l.length = 3 then 0 else 10 := by unfold threeC; rw [if_neg (by omega)]
   unfold chkC at hK
   simp only [go_sem, ac_threepos_check, hk, hv, h0, errV_0]
   refine ⟨hwl, hok, fun _ => ⟨fun h3 => ?_, fun h3 => ?_⟩⟩
   rotate_left
   ·rw [if_neg (by omega)] at e3
    rw [e3, if_pos (by decide), errV_s tE (by decide)] at hK
    exact hK
   rw [if_pos (by omega)] at e3
   rw [e3, if_neg (by decide)] at hK
   unfold placeC at hK
   intro _
   refine wpA_loop (fun k : Nat => ⟨mkV [(17, asA m), (18, .one (.lit (.int .i64 m.length))), (19, .one (.lit (.int .i64 k)))], mkH []⟩) (fun k => k ≤ m.length ∧ (m.take k).all avld = true) (fun k => m.length - k) 0 ?_ ?_ ?_
   ·exact weak_lit (by simp [okS, okV, okC, okL, okH, okB, okE, mkV_cons, mkV_nil, mkH_cons, mkH_nil, wsA, ws, asA, as]) trivial
   ·exact ⟨Nat.zero_le _, rfl⟩
   ·rintro k ⟨hk, hall⟩
    by_cases hlt : k < m.length
    ·obtain ⟨p, hp⟩ : ∃ p, m.getD k a0 = p := ⟨_, rfl⟩
     have hp0 := getD_get hlt hp
     obtain ⟨hp1, hp2⟩ := hom p (List.mem_of_getElem? hp0)
     cases hb : avld p with
     | true =>
      simp only [go_sem, hlt, hp, hv, hb, aC_eq]
      exact ⟨hp1, hp2, by omega, k + 1, weak_lit (by simp [okS, okV, okC, okL, okH, okB, okE, mkV_cons, mkV_nil, mkH_cons, mkH_nil, wsA, ws, asA, as]) trivial, ⟨by omega, all_step hp0 hall hb⟩, by omega⟩
     | false =>
      rw [all_f hp0 hb, if_neg (by decide), errV_s tE (by decide)] at hK
      simp only [go_sem, hlt, hp, hv, hb, aC_eq]
      exact ⟨hp1, hp2, hK⟩
    ·rw [List.take_of_length_le (by omega)] at hall
     rw [hall, if_pos rfl, errV_0] at hK
     simp only [go_sem, hlt]
     exact hK
  ·have e3 : threeC l = plchk l := by unfold threeC; rw [if_pos h0]
   unfold chkC at hK
   rw [e3, if_pos h0, errV_s tE h0] at hK
   simp only [go_sem, ac_threepos_check, hk, hv, errV_s tE h0]
   exact ⟨hwl, hok, hK⟩
theorem okP_al {b : Nat} {p : Ps} (h : okP b p) : rl p.1.1 ≤ b ∧ al p.2 ≤ b := ⟨Nat.le_trans (Nat.le_max_left _ _) h.2, Nat.le_trans (Nat.le_max_right _ _) h.2⟩
theorem rplaces_sound (hΓ : Holds P Γ) {f fa : Nat} (ha : Γ fa = .dat false rapp_G) (hc : check P f = some (22, (ac_linkworkref17_Places fa).strip, [.tmp 4])) : Sound P f (.dat false rplaces_G) := by
 refine sound_dat hc rplaces_good hΓ (fun args K hcl hfi hG => ?_)
 match args, hG with
 | [a, b], hG =>
  obtain ⟨l, rfl, hwl, q, rfl, hwq, hok, hq, hlen, hK⟩ := hG
  refine ⟨by simp, ?_⟩
  rw [qsA_eq] at hK
  simp only [go_sem, ac_linkworkref17_Places, ha]
  intro _
  refine wpA_loop (fun k : Nat => if k = 0 then ⟨mkV [(3, .one (.ptr 3 1 0 0)), (5, .one .emp), (8, psA l), (9, .one (.lit (.int .i64 l.length))), (10, .one (.lit (.int .i64 k)))], mkH [(3, ⟨1, some ⟨[aC q], 6, true⟩⟩)]⟩ else ⟨mkV [(3, .one (.ptr 3 1 0 0)), (5, .one (.own 19 1 6 0 k)), (8, psA l), (9, .one (.lit (.int .i64 l.length))), (10, .one (.lit (.int .i64 k)))], mkH [(3, ⟨1, some ⟨[aC q], 6, true⟩⟩), (19, ⟨1, some ⟨((imgs (l.take k) q).map acan).map aC, 6, true⟩⟩)]⟩) (fun k => k ≤ l.length) (fun k => l.length - k) 0 ?_ ?_ ?_
  ·exact weak_lit (by simp [okS, okV, okC, okL, okH, okB, okE, mkV_cons, mkV_nil, mkH_cons, mkH_nil, wsA, ws, psA, psC]) ⟨okB_a (l' := [q]) rfl, trivial⟩
  ·exact Nat.zero_le _
  ·intro k hk
   by_cases hlt : k < l.length
   ·obtain ⟨p, hp⟩ : ∃ p, l.getD k p0 = p := ⟨_, rfl⟩
    have hp0 := getD_get hlt hp
    obtain ⟨hp1, hp2⟩ := hok p (List.mem_of_getElem? hp0)
    have hil := imgs_len (l.take k) q
    rw [List.length_take, Nat.min_eq_left hk] at hil
    have hit := imgs_take (q := q) hp0
    have e1 : acan (appQ (pv p) (av q)) = (rcan (appQ (pv p) (av q)).1, rcan (appQ (pv p) (av q)).2) := rfl
    by_cases hk0 : k = 0
    ·subst hk0
     rw [List.take_zero] at hit
     simp only [go_sem, hlt, hp, ha, pC_eq, aC_eq, mk_eta]
     refine ⟨hp1, hwq, hp2, hq, fun e he => by rw [List.mem_singleton.1 he]; rfl, by omega, 1, ?_, by omega, by omega⟩
     rw [if_neg (by decide)]
     exact weak_lit (by simp [okS, okV, okC, okL, okH, okB, okE, mkV_cons, mkV_nil, mkH_cons, mkH_nil, wsA, ws, psA, psC]) ⟨okB_a (l' := [q]) rfl, okB_a (by rw [hit]; rfl), trivial⟩
    ·have ht : ((imgs (l.take k) q).map acan).take k = (imgs (l.take k) q).map acan := List.take_of_length_le (by rw [List.length_map, hil]; exact Nat.le_refl _)
     simp only [go_sem, hlt, hp, ha, pC_eq, aC_eq, hk0, mk_eta, List.length_map, hil, ht]
     refine ⟨hp1, hwq, hp2, hq, fun e he => by rw [List.mem_singleton.1 he]; rfl, by omega, by omega, k + 1, ?_, by omega, by omega⟩
     rw [if_neg (by omega)]
     exact weak_lit (by simp [okS, okV, okC, okL, okH, okB, okE, mkV_cons, mkV_nil, mkH_cons, mkH_nil, wsA, ws, psA, psC]) ⟨okB_a (l' := [q]) rfl, okB_a (by rw [hit, List.map_append, List.map_append]; rfl), trivial⟩
   ·rw [List.take_of_length_le (by omega)]
    by_cases hk0 : k = 0
    ·subst hk0
     have hl0 : l = [] := List.length_eq_zero_iff.1 (by omega)
     subst hl0
     simp only [go_sem, hlt]
     exact hK
    ·have hil := imgs_len l q
     simp only [go_sem, hlt, hk0, List.length_map, hil]
     have : k = l.length := by omega
     subst this
     have ht : ((imgs l q).map acan).take l.length = (imgs l q).map acan := List.take_of_length_le (by rw [List.length_map, hil]; exact Nat.le_refl _)
     simp only [go_sem, ht]
     exact hK
theorem pimgs_sound (hΓ : Holds P Γ) {f fa tE : Nat} (ha : Γ fa = .dat false (papp_G tE)) (hc : check P f = some (32, (ac_threepos_images fa).strip, [.tmp 4, .tmp 5])) : Sound P f (.dat false (pimgs_G tE)) := by
 refine sound_dat hc (pimgs_good tE) hΓ (fun args K hcl hfi hG => ?_)
 match args, hG with
 | [a, b], hG =>
  obtain ⟨l, rfl, hwl, q, rfl, hwq, hok, hq, hlen, hK⟩ := hG
  refine ⟨by simp, ?_⟩
  rw [qsA_eq] at hK
  have e8 : errV tE 2 = .one (.lit (.iface tE (.int .i64 2))) := errV_s tE (by decide)
  simp only [go_sem, ac_threepos_images, ha]
  intro _
  refine wpA_loop (fun k : Nat => if k = 0 then ⟨mkV [(3, .one (.ptr 3 1 0 0)), (6, .one .emp), (11, psA l), (12, .one (.lit (.int .i64 l.length))), (13, .one (.lit (.int .i64 k)))], mkH [(3, ⟨1, some ⟨[aC q], 6, true⟩⟩)]⟩ else ⟨mkV [(3, .one (.ptr 3 1 0 0)), (6, .one (.own 29 1 6 0 k)), (11, psA l), (12, .one (.lit (.int .i64 l.length))), (13, .one (.lit (.int .i64 k)))], mkH [(3, ⟨1, some ⟨[aC q], 6, true⟩⟩), (29, ⟨1, some ⟨((imgs (l.take k) q).map acan).map aC, 6, true⟩⟩)]⟩) (fun k => k ≤ l.length ∧ (l.take k).all (fun p => aok p q) = true) (fun k => l.length - k) 0 ?_ ?_ ?_
  ·exact weak_lit (by simp [okS, okV, okC, okL, okH, okB, okE, mkV_cons, mkV_nil, mkH_cons, mkH_nil, wsA, ws, psA, psC]) ⟨okB_a (l' := [q]) rfl, trivial⟩
  ·exact ⟨Nat.zero_le _, rfl⟩
  ·rintro k ⟨hk, hall⟩
   by_cases hlt : k < l.length
   ·obtain ⟨p, hp⟩ : ∃ p, l.getD k p0 = p := ⟨_, rfl⟩
    have hp0 := getD_get hlt hp
    obtain ⟨hp1, hp2⟩ := hok p (List.mem_of_getElem? hp0)
    have hil := imgs_len (l.take k) q
    rw [List.length_take, Nat.min_eq_left hk] at hil
    have hit := imgs_take (q := q) hp0
    cases hb : aok p q with
    | false =>
     have e0 : imgC l q = 2 := by unfold imgC; rw [all_f hp0 hb, if_neg (by decide)]
     rw [e0, if_neg (by decide), e8] at hK
     have e9 : errV tE (if aok p q = true then 0 else 2) = .one (.lit (.iface tE (.int .i64 2))) := by rw [hb, if_neg (by decide)]; exact e8
     by_cases hk0 : k = 0
     ·subst hk0
      simp only [go_sem, hlt, hp, ha, pC_eq, aC_eq, mk_eta, e9]
      exact ⟨hp1, hwq, hp2, hq, hK⟩
     ·simp only [go_sem, hlt, hp, ha, pC_eq, aC_eq, mk_eta, e9, hk0]
      exact ⟨hp1, hwq, hp2, hq, hK⟩
    | true =>
     have e9 : errV tE (if aok p q = true then 0 else 2) = .one (.lit .nilIface) := by rw [hb, if_pos rfl]; exact errV_0 tE
     have e7 : (if aok p q = true then appQ (pv p) (av q) else (0, 0)) = appQ (pv p) (av q) := if_pos hb
     have hall' := all_step (f := fun p => aok p q) hp0 hall hb
     by_cases hk0 : k = 0
     ·subst hk0
      rw [List.take_zero] at hit
      simp only [go_sem, hlt, hp, ha, pC_eq, aC_eq, mk_eta, e9, e7]
      refine ⟨hp1, hwq, hp2, hq, fun e he => by rw [List.mem_singleton.1 he]; rfl, by omega, 1, ?_, ⟨by omega, hall'⟩, by omega⟩
      rw [if_neg (by decide)]
      exact weak_lit (by simp [okS, okV, okC, okL, okH, okB, okE, mkV_cons, mkV_nil, mkH_cons, mkH_nil, wsA, ws, psA, psC]) ⟨okB_a (l' := [q]) rfl, okB_a (by rw [hit]; rfl), trivial⟩
     ·have ht : ((imgs (l.take k) q).map acan).take k = (imgs (l.take k) q).map acan := List.take_of_length_le (by rw [List.length_map, hil]; exact Nat.le_refl _)
      simp only [go_sem, hlt, hp, ha, pC_eq, aC_eq, hk0, mk_eta, List.length_map, hil, ht, e9, e7]
      refine ⟨hp1, hwq, hp2, hq, fun e he => by rw [List.mem_singleton.1 he]; rfl, by omega, by omega, k + 1, ?_, ⟨by omega, hall'⟩, by omega⟩
      rw [if_neg (by omega)]
      exact weak_lit (by simp [okS, okV, okC, okL, okH, okB, okE, mkV_cons, mkV_nil, mkH_cons, mkH_nil, wsA, ws, psA, psC]) ⟨okB_a (l' := [q]) rfl, okB_a (by rw [hit, List.map_append, List.map_append]; rfl), trivial⟩
   ·rw [List.take_of_length_le (by omega)] at hall
    have e0 : imgC l q = 0 := by unfold imgC; rw [hall, if_pos rfl]
    rw [e0, if_pos rfl, errV_0] at hK
    rw [List.take_of_length_le (by omega)]
    by_cases hk0 : k = 0
    ·subst hk0
     have hl0 : l = [] := List.length_eq_zero_iff.1 (by omega)
     subst hl0
     simp only [go_sem, hlt]
     exact hK
    ·have hil := imgs_len l q
     have : k = l.length := by omega
     subst this
     have ht : ((imgs l q).map acan).take l.length = (imgs l q).map acan := List.take_of_length_le (by rw [List.length_map, hil]; exact Nat.le_refl _)
     simp only [go_sem, hlt, hk0, List.length_map, hil, ht]
     exact hK
theorem lshort_sound (hΓ : Holds P Γ) {f fs : Nat} (hs : Γ fs = .dat true pshort_G) (hc : check P f = some (10, (ac_linkworklaw46_short fs).strip, [.tmp 2])) : Sound P f (.dat true lshort_G) := by
 refine sound_dat hc lshort_good hΓ (fun args K hcl hfi hG => ?_)
 match args, hG with
 | [a], hG =>
  obtain ⟨l, rfl, hwl, hok, hK⟩ := hG
  refine ⟨by simp, ?_⟩
  simp only [go_sem, ac_linkworklaw46_short, hs]
  refine fun _ => ⟨fun h => ⟨hwl, hok, ?_⟩, fun h => ?_⟩
  ·rw [decide_eq_true (by omega : l.length ≤ 20), Bool.true_and] at hK; exact hK
  ·rw [decide_eq_false (by omega : ¬ l.length ≤ 20), Bool.false_and] at hK; exact hK
theorem pshort_sound (hΓ : Holds P Γ) {f : Nat} (hc : check P f = some (40, ac_linkworkref17_Short.strip, [.tmp 2])) : Sound P f (.dat true pshort_G) := by
 refine sound_dat hc pshort_good hΓ (fun args K hcl hfi hG => ?_)
 match args, hG with
 | [a], hG =>
  obtain ⟨l, rfl, hwl, hok, hK⟩ := hG
  refine ⟨by simp, ?_⟩
  simp only [go_sem, ac_linkworkref17_Short]
  intro _
  refine wpA_loop (fun k : Nat => ⟨mkV [(7, psA l), (8, .one (.lit (.int .i64 l.length))), (9, .one (.lit (.int .i64 k)))], mkH []⟩) (fun k => k ≤ l.length ∧ (l.take k).all sP = true) (fun k => l.length - k) 0 ?_ ?_ ?_
  ·exact weak_lit (by simp [okS, okV, okC, okL, okH, okB, okE, mkV_cons, mkV_nil, mkH_cons, mkH_nil, wsA, ws, psA, psC]) trivial
  ·exact ⟨Nat.zero_le _, rfl⟩
  ·rintro k ⟨hk, hall⟩
   by_cases hlt : k < l.length
   ·obtain ⟨p, hp⟩ : ∃ p, l.getD k p0 = p := ⟨_, rfl⟩
    have hp0 := getD_get hlt hp
    obtain ⟨hp1, hp2⟩ := hok p (List.mem_of_getElem? hp0)
    obtain ⟨xs, hxs⟩ : ∃ xs : List R, xs = [p.1.1, p.2.1, p.2.2] := ⟨_, rfl⟩
    have hlx : xs.length = 3 := by rw [hxs]; rfl
    have hwx : ∀ x ∈ xs, rl x ≤ 4294967296 := by
     intro x hx
     rw [hxs] at hx
     simp only [List.mem_cons, List.not_mem_nil, or_false] at hx
     obtain ⟨l1, l2⟩ := okP_al ⟨hp1, hp2⟩
     obtain ⟨l3, l4⟩ := al1 l2
     rcases hx with rfl | rfl | rfl <;> assumption
    have hex : xs.all (sR 2) = sP p := by rw [hxs]; simp only [List.all_cons, List.all_nil, Bool.and_true]; rfl
    simp only [go_sem, hlt, hp, pC_eq]
    refine wpA_loop (fun j : Nat => ⟨mkV [(7, psA l), (8, .one (.lit (.int .i64 l.length))), (9, .one (.lit (.int .i64 k))), (22, .one (.full (xs.map rC))), (23, .one (.lit (.int .i64 3))), (24, .one (.lit (.int .i64 j)))], mkH []⟩) (fun j => j ≤ 3 ∧ (xs.take j).all (sR 2) = true) (fun j => 3 - j) 0 ?_ ?_ ?_
    ·exact weak_lit (by rw [hxs]; simp [okS, okV, okC, okL, okH, okB, okE, mkV_cons, mkV_nil, mkH_cons, mkH_nil, wsA, ws, psA, psC, rC]) trivial
    ·exact ⟨Nat.zero_le _, rfl⟩
    ·rintro j ⟨hj, hallj⟩
     by_cases hltj : j < 3
     ·obtain ⟨x, hx⟩ : ∃ x, xs.getD j (rcan 0) = x := ⟨_, rfl⟩
      have hx0 := getD_get (by omega : j < xs.length) hx
      have hxr := hwx x (List.mem_of_getElem? hx0)
      have hjx : j < xs.length := by omega
      obtain ⟨b, n, d⟩ := x
      have w1 : n.length ≤ 4294967296 := Nat.le_trans (Nat.le_max_left _ _) hxr
      have w2 : d.length ≤ 4294967296 := Nat.le_trans (Nat.le_max_right _ _) hxr
      have bad : ¬ (sR 2 (b, n, d) = true) → K (.one (.lit (.bool false))) := by
       intro hb
       have e1 : sP p = false := by rw [← hex]; exact all_f hx0 (by simpa using hb)
       rw [all_f hp0 e1] at hK; exact hK
      have hsr : sR 2 (b, n, d) = true ↔ n.length ≤ 2 ∧ d.length ≤ 2 := by simp [sR]
      simp only [go_sem, hltj, hjx, hx, rC_eq, cb, cn, cd, ws, hlx]
      exact ⟨fun _ _ => ⟨fun h => bad (fun e => by have := hsr.1 e; omega), fun h _ => ⟨fun h' => bad (fun e => by have := hsr.1 e; omega), fun h' => ⟨by omega, j + 1, weak_lit (by simp [okS, okV, okC, okL, okH, okB, okE, mkV_cons, mkV_nil, mkH_cons, mkH_nil, wsA, ws, psA, psC]) trivial, ⟨by omega, all_step hx0 hallj (hsr.2 ⟨by omega, by omega⟩)⟩, by omega⟩⟩⟩, fun h => absurd (by omega) h⟩
     ·rw [List.take_of_length_le (by omega), hex] at hallj
      simp only [go_sem, hltj]
      exact ⟨fun h => absurd h (by omega), fun _ => ⟨by omega, k + 1, weak_lit (by simp [okS, okV, okC, okL, okH, okB, okE, mkV_cons, mkV_nil, mkH_cons, mkH_nil, wsA, ws, psA, psC]) trivial, ⟨by omega, all_step hp0 hall hallj⟩, by omega⟩⟩
   ·rw [List.take_of_length_le (by omega)] at hall
    rw [hall] at hK
    simp only [go_sem, hlt]
    exact hK
theorem ashort_sound (hΓ : Holds P Γ) {f : Nat} (hc : check P f = some (35, ac_linkworkref17_ShortPlace.strip, [.tmp 2])) : Sound P f (.dat true ashort_G) := by
 refine sound_dat hc ashort_good hΓ (fun args K hcl hfi hG => ?_)
 match args, hG with
 | [a], hG =>
  obtain ⟨l, rfl, hwl, hok, hK⟩ := hG
  refine ⟨by simp, ?_⟩
  simp only [go_sem, ac_linkworkref17_ShortPlace]
  intro _
  refine wpA_loop (fun k : Nat => ⟨mkV [(7, asA l), (8, .one (.lit (.int .i64 l.length))), (9, .one (.lit (.int .i64 k)))], mkH []⟩) (fun k => k ≤ l.length ∧ (l.take k).all sA = true) (fun k => l.length - k) 0 ?_ ?_ ?_
  ·exact weak_lit (by simp [okS, okV, okC, okL, okH, okB, okE, mkV_cons, mkV_nil, mkH_cons, mkH_nil, wsA, ws, asA, as]) trivial
  ·exact ⟨Nat.zero_le _, rfl⟩
  ·rintro k ⟨hk, hall⟩
   by_cases hlt : k < l.length
   ·obtain ⟨p, hp⟩ : ∃ p, l.getD k a0 = p := ⟨_, rfl⟩
    have hp0 := getD_get hlt hp
    obtain ⟨hp1, hp2⟩ := hok p (List.mem_of_getElem? hp0)
    obtain ⟨xs, hxs⟩ : ∃ xs : List R, xs = [p.1, p.2] := ⟨_, rfl⟩
    have hlx : xs.length = 2 := by rw [hxs]; rfl
    have hwx : ∀ x ∈ xs, rl x ≤ 4294967296 := by
     intro x hx
     rw [hxs] at hx
     simp only [List.mem_cons, List.not_mem_nil, or_false] at hx
     obtain ⟨l3, l4⟩ := al1 hp2
     rcases hx with rfl | rfl <;> assumption
    have hex : xs.all (sR 2) = sA p := by rw [hxs]; simp only [List.all_cons, List.all_nil, Bool.and_true]; rfl
    simp only [go_sem, hlt, hp, aC_eq]
    refine wpA_loop (fun j : Nat => ⟨mkV [(7, asA l), (8, .one (.lit (.int .i64 l.length))), (9, .one (.lit (.int .i64 k))), (17, .one (.full (xs.map rC))), (18, .one (.lit (.int .i64 2))), (19, .one (.lit (.int .i64 j)))], mkH []⟩) (fun j => j ≤ 2 ∧ (xs.take j).all (sR 2) = true) (fun j => 2 - j) 0 ?_ ?_ ?_
    ·exact weak_lit (by rw [hxs]; simp [okS, okV, okC, okL, okH, okB, okE, mkV_cons, mkV_nil, mkH_cons, mkH_nil, wsA, ws, asA, as, rC]) trivial
    ·exact ⟨Nat.zero_le _, rfl⟩
    ·rintro j ⟨hj, hallj⟩
     by_cases hltj : j < 2
     ·obtain ⟨x, hx⟩ : ∃ x, xs.getD j (rcan 0) = x := ⟨_, rfl⟩
      have hx0 := getD_get (by omega : j < xs.length) hx
      have hxr := hwx x (List.mem_of_getElem? hx0)
      have hjx : j < xs.length := by omega
      obtain ⟨b, n, d⟩ := x
      have w1 : n.length ≤ 4294967296 := Nat.le_trans (Nat.le_max_left _ _) hxr
      have w2 : d.length ≤ 4294967296 := Nat.le_trans (Nat.le_max_right _ _) hxr
      have bad : ¬ (sR 2 (b, n, d) = true) → K (.one (.lit (.bool false))) := by
       intro hb
       have e1 : sA p = false := by rw [← hex]; exact all_f hx0 (by simpa using hb)
       rw [all_f hp0 e1] at hK; exact hK
      have hsr : sR 2 (b, n, d) = true ↔ n.length ≤ 2 ∧ d.length ≤ 2 := by simp [sR]
      simp only [go_sem, hltj, hjx, hx, rC_eq, cb, cn, cd, ws, hlx]
      exact ⟨fun _ _ => ⟨fun h => bad (fun e => by have := hsr.1 e; omega), fun h _ => ⟨fun h' => bad (fun e => by have := hsr.1 e; omega), fun h' => ⟨by omega, j + 1, weak_lit (by simp [okS, okV, okC, okL, okH, okB, okE, mkV_cons, mkV_nil, mkH_cons, mkH_nil, wsA, ws, asA, as]) trivial, ⟨by omega, all_step hx0 hallj (hsr.2 ⟨by omega, by omega⟩)⟩, by omega⟩⟩⟩, fun h => absurd (by omega) h⟩
     ·rw [List.take_of_length_le (by omega), hex] at hallj
      simp only [go_sem, hltj]
      exact ⟨fun h => absurd h (by omega), fun _ => ⟨by omega, k + 1, weak_lit (by simp [okS, okV, okC, okL, okH, okB, okE, mkV_cons, mkV_nil, mkH_cons, mkH_nil, wsA, ws, asA, as]) trivial, ⟨by omega, all_step hp0 hall hallj⟩, by omega⟩⟩
   ·rw [List.take_of_length_le (by omega)] at hall
    rw [hall] at hK
    simp only [go_sem, hlt]
    exact hK
theorem brats_sound (hΓ : Holds P Γ) {f fr : Nat} (hr : Γ fr = .dat true brat_G) (hc : check P f = some (27, (ac_linkworkbase_Rats fr).strip, [.tmp 4])) : Sound P f (.dat true brats_G) := by
 refine sound_dat hc brats_good hΓ (fun args K hcl hfi hG => ?_)
 match args, hG with
 | [a, b], hG =>
  obtain ⟨x, rfl, hx, y, rfl, hy, hxl, hK⟩ := hG
  refine ⟨by simp, ?_⟩
  simp only [go_sem, ac_linkworkbase_Rats, hr]
  intro h1 h2
  refine ⟨fun hl => ?_, fun hne => ?_⟩
  rotate_left
  ·rw [decide_eq_false (fun h => hne (by rw [h]))] at hK; exact hK
  refine wpA_loop (fun n : Nat => ⟨mkV [(0, rsA x), (1, rsA y), (5, .one (.lit (.int .i64 n)))], mkH []⟩) (fun n => n ≤ x.length ∧ x.take n = y.take n) (fun n => x.length - n) 0 ?_ ?_ ?_
  ·exact weak_lit (by simp [okS, okV, okC, okL, okH, okB, okE, mkV_cons, mkV_nil, mkH_cons, mkH_nil, wsA, ws, rsA]) trivial
  ·exact ⟨Nat.zero_le _, rfl⟩
  ·rintro n ⟨hn, hd⟩
   by_cases hlt : n < x.length
   ·have hlt' : n < y.length := by omega
    obtain ⟨u, hu⟩ : ∃ u, x.getD n (rcan 0) = u := ⟨_, rfl⟩
    obtain ⟨v, hv⟩ : ∃ v, y.getD n (rcan 0) = v := ⟨_, rfl⟩
    have hu0 := getD_get hlt hu
    have hv0 := getD_get hlt' hv
    obtain ⟨u1, u2⟩ := hxl u (List.mem_of_getElem? hu0)
    have v1 := hy v (List.mem_of_getElem? hv0)
    by_cases he : u = v
    ·simp only [go_sem, hr, hlt, hlt', hu, hv, rC_eq, decide_eq_true he]
     exact fun _ => ⟨u1, v1, u2, by omega, n + 1, weak_lit (by simp [okS, okV, okC, okL, okH, okB, okE, mkV_cons, mkV_nil, mkH_cons, mkH_nil, wsA, ws, rsA]) trivial, ⟨by omega, by rw [List.take_add_one, List.take_add_one, hu0, hv0, hd, he]⟩, by omega⟩
    ·have hne : decide (x = y) = false := decide_eq_false fun h => by
      subst h; rw [hu0] at hv0; exact he (Option.some.inj hv0)
     rw [hne] at hK
     simp only [go_sem, hr, hlt, hlt', hu, hv, rC_eq, decide_eq_false he]
     exact fun _ => ⟨u1, v1, u2, hK⟩
   ·simp only [go_sem, hlt]
    rw [List.take_of_length_le (by omega), List.take_of_length_le (by omega)] at hd
    rw [decide_eq_true hd] at hK
    exact fun _ => hK
end Go.Abs
end
section
set_option linter.unusedVariables false
set_option linter.unusedSimpArgs false
set_option maxRecDepth 100000
namespace Go.Num
open Go.Abs
def ctrQ (p u v : V2) : V2 := (p.1 + (sqQ u * v.2 - sqQ v * u.2) / (2 * crossQ u v), p.2 + (sqQ v * u.1 - sqQ u * v.1) / (2 * crossQ u v))
def ciQ (p u v : V2) : V2 := if crossQ u v = 0 then (0, 0) else ctrQ p u v
def ciL (l : List Arc) : V2 := ciQ (av (l.getD 0 a0)) (subQ (av (l.getD 1 a0)) (av (l.getD 0 a0))) (subQ (av (l.getD 2 a0)) (av (l.getD 0 a0)))
def crL (l : List Arc) : Rat := crossQ (subQ (av (l.getD 1 a0)) (av (l.getD 0 a0))) (subQ (av (l.getD 2 a0)) (av (l.getD 0 a0)))
theorem ctr_ref (p u v : V2) : addQ p (1 / (crossQ u v + crossQ u v) * (sqQ u * v.2 - sqQ v * u.2), 1 / (crossQ u v + crossQ u v) * (sqQ v * u.1 - sqQ u * v.1)) = ctrQ p u v := by
 unfold addQ ctrQ
 have e : crossQ u v + crossQ u v = 2 * crossQ u v := by grind
 rw [e]
 simp only [Rat.div_def, Rat.one_mul, Prod.mk.injEq]
 constructor <;> rw [Rat.mul_comm (2 * crossQ u v)⁻¹]
end Go.Num
namespace Go.Abs
open Go.Num
variable {P : Program} {Γ : Nat → Spec}
def pcirc_G (tE : Nat) (l : List AV) (K : AV → Prop) : Prop :=
 match l with
 | [a] => onAs (fun l => okAs 1000000 l ∧ 3 ≤ l.length ∧ K (.tup [pQ (ciL l), errV tE (if crL l = 0 then 8 else 0)])) a
 | _ => False
theorem pcirc_Ge (tE : Nat) (a : AV) (K : AV → Prop) : pcirc_G tE [a] K = (onAs (fun l => okAs 1000000 l ∧ 3 ≤ l.length ∧ K (.tup [pQ (ciL l), errV tE (if crL l = 0 then 8 else 0)])) a) := propext Iff.rfl
@[congr] theorem pcirc_Gc (tE : Nat) {K : AV → Prop} {l l' : List AV} (h : l = l') : pcirc_G tE l K = pcirc_G tE l' K := by subst h; rfl
attribute [go_sem] pcirc_Ge
attribute [go_sem ↓] pcirc_Ge
theorem pcirc_good (tE : Nat) : Good (pcirc_G tE) := good_of fun as => by
 unfold pcirc_G
 split
 ·exact (g_onAs fun _ => (.and fun _ => (.and fun _ => (.ret _))))
 ·exact .of fun K hk => hk.elim
def rcirc_G (l : List AV) (K : AV → Prop) : Prop :=
 match l with
 | [a] => onAs (fun l => okAs 1000000 l ∧ 3 ≤ l.length ∧ K (.tup [pQ (ciL l), .one (.lit (.bool (decide (crL l ≠ 0))))])) a
 | _ => False
theorem rcirc_Ge (a : AV) (K : AV → Prop) : rcirc_G [a] K = (onAs (fun l => okAs 1000000 l ∧ 3 ≤ l.length ∧ K (.tup [pQ (ciL l), .one (.lit (.bool (decide (crL l ≠ 0))))])) a) := propext Iff.rfl
@[congr] theorem rcirc_Gc {K : AV → Prop} {l l' : List AV} (h : l = l') : rcirc_G l K = rcirc_G l' K := by subst h; rfl
attribute [go_sem] rcirc_Ge
attribute [go_sem ↓] rcirc_Ge
theorem rcirc_good : Good rcirc_G := good_of fun as => by
 unfold rcirc_G
 split
 ·exact (g_onAs fun _ => (.and fun _ => (.and fun _ => (.ret _))))
 ·exact .of fun K hk => hk.elim
def ac_threepos_circumcentre (f0 f1 f2 f3 f4 f5 f6 f7 f8 tE : Nat) : AC := (.seq (.ops false [.u 2 (.alloc [(.lit (.bool false)), .emp, .emp, (.lit (.bool false)), .emp, .emp]), .m 3 (.c (.one (.lit .nilIface)))])
 (.fg [0, 2] (.seq (.ops true [.m 12 (.t 0), .u 13 (.idx 6 (.t 12) (.i 1)), .u 14 (.ld none 6 true (.t 13)), .m 15 (.t 0), .u 16 (.idx 6 (.t 15) (.i 0)), .u 17 (.ld none 6 true (.t 16)), .u 18 (.call f0 [(.t 14), (.t 17)]), .m 19 (.t 0), .u 20 (.idx 6 (.t 19) (.i 2)), .u 21 (.ld none 6 true (.t 20)), .m 22 (.t 0), .u 23 (.idx 6 (.t 22) (.i 0)), .u 24 (.ld none 6 true (.t 23)), .u 25 (.call f0 [(.t 21), (.t 24)]), .u 4 (.alloc [(.lit (.bool false)), .emp, .emp, (.lit (.bool false)), .emp, .emp]), .u 5 (.alloc [(.lit (.bool false)), .emp, .emp, (.lit (.bool false)), .emp, .emp]), .n (.st none 6 (.t 4) (.t 18)), .n (.st none 6 (.t 5) (.t 25))])
 (.fg [0, 2, 4, 5] (.seq (.ops true [.u 26 (.call f1 [(.i 2)]), .u 27 (.ld none 6 true (.t 4)), .u 28 (.ld none 6 true (.t 5)), .u 29 (.call f2 [(.t 27), (.t 28)]), .u 30 (.call f3 [(.t 26), (.t 29)]), .u 6 (.alloc [(.lit (.bool false)), .emp, .emp]), .n (.st none 3 (.t 6) (.t 30))])
 (.fg [0, 2, 4, 5, 6] (.seq (.seq (.ops false [.u 31 (.ld none 3 true (.t 6)), .u 32 (.call f4 [(.t 31)]), .u 33 (.bin .eql (.t 32) (.i 0))])
 (.fg [0, 2, 4, 5, 6, 33] (.cond (.t 33) (.seq (.ops false [.u 34 (.build [.z [(.lit (.bool false)), .emp, .emp, (.lit (.bool false)), .emp, .emp]]), .u 35 (.iface tE (.i 8)), .n (.st none 6 (.t 2) (.t 34)), .m 3 (.t 35)])
 .ret) .skip)))
 (.fg [0, 2, 4, 5, 6] (.seq (.ops true [.u 36 (.ld none 6 true (.t 4)), .u 37 (.call f5 [(.t 36)]), .u 38 (.ld none 6 true (.t 5)), .u 39 (.call f5 [(.t 38)]), .u 7 (.alloc [(.lit (.bool false)), .emp, .emp]), .u 8 (.alloc [(.lit (.bool false)), .emp, .emp]), .n (.st none 3 (.t 7) (.t 37)), .n (.st none 3 (.t 8) (.t 39))])
 (.fg [0, 2, 4, 5, 6, 7, 8] (.seq (.ops true [.u 41 (.ld none 3 true (.t 7)), .u 42 (.fa 3 (.t 5)), .u 43 (.ld none 3 true (.t 42)), .u 44 (.call f3 [(.t 41), (.t 43)]), .u 45 (.ld none 3 true (.t 8)), .u 46 (.fa 3 (.t 4)), .u 47 (.ld none 3 true (.t 46)), .u 48 (.call f3 [(.t 45), (.t 47)]), .u 49 (.call f6 [(.t 44), (.t 48)]), .u 50 (.ld none 3 true (.t 6)), .u 51 (.call f7 [(.t 49), (.t 50)]), .m 40 (.t 51), .u 52 (.ext 0 (.t 40)), .u 53 (.ext 1 (.t 40)), .u 9 (.alloc [(.lit (.bool false)), .emp, .emp]), .n (.st none 3 (.t 9) (.t 52)), .m 10 (.t 53)])
 (.fg [0, 2, 4, 5, 6, 7, 8, 9, 10] (.seq (.seq (.ops false [.m 54 (.t 10), .u 55 (.binn .neq (.t 54) (.c (.one (.lit .nilIface))))])
 (.fg [0, 2, 4, 5, 6, 7, 8, 9, 10, 55] (.cond (.t 55) (.seq (.ops false [.u 56 (.build [.z [(.lit (.bool false)), .emp, .emp, (.lit (.bool false)), .emp, .emp]]), .m 57 (.t 10), .n (.st none 6 (.t 2) (.t 56)), .m 3 (.t 57)])
 .ret) .skip)))
 (.fg [0, 2, 4, 5, 6, 7, 8, 9] (.seq (.ops true [.u 59 (.ld none 3 true (.t 8)), .u 60 (.fa 0 (.t 4)), .u 61 (.ld none 3 true (.t 60)), .u 62 (.call f3 [(.t 59), (.t 61)]), .u 63 (.ld none 3 true (.t 7)), .u 64 (.fa 0 (.t 5)), .u 65 (.ld none 3 true (.t 64)), .u 66 (.call f3 [(.t 63), (.t 65)]), .u 67 (.call f6 [(.t 62), (.t 66)]), .u 68 (.ld none 3 true (.t 6)), .u 69 (.call f7 [(.t 67), (.t 68)]), .m 58 (.t 69), .u 70 (.ext 0 (.t 58)), .u 71 (.ext 1 (.t 58)), .u 11 (.alloc [(.lit (.bool false)), .emp, .emp]), .n (.st none 3 (.t 11) (.t 70)), .m 10 (.t 71)])
 (.fg [0, 2, 9, 10, 11] (.seq (.seq (.ops false [.m 72 (.t 10), .u 73 (.binn .neq (.t 72) (.c (.one (.lit .nilIface))))])
 (.fg [0, 2, 9, 10, 11, 73] (.cond (.t 73) (.seq (.ops false [.u 74 (.build [.z [(.lit (.bool false)), .emp, .emp, (.lit (.bool false)), .emp, .emp]]), .m 75 (.t 10), .n (.st none 6 (.t 2) (.t 74)), .m 3 (.t 75)])
 .ret) .skip)))
 (.fg [0, 2, 9, 11] (.seq (.ops true [.m 76 (.t 0), .u 77 (.idx 6 (.t 76) (.i 0)), .u 78 (.fa 0 (.t 77)), .u 79 (.ld none 3 true (.t 78)), .u 80 (.ld none 3 true (.t 9)), .u 81 (.call f8 [(.t 79), (.t 80)]), .m 82 (.t 0), .u 83 (.idx 6 (.t 82) (.i 0)), .u 84 (.fa 3 (.t 83)), .u 85 (.ld none 3 true (.t 84)), .u 86 (.ld none 3 true (.t 11)), .u 87 (.call f8 [(.t 85), (.t 86)]), .u 88 (.build [.x 3 (.t 81), .x 3 (.t 87)]), .n (.st none 6 (.t 2) (.t 88)), .m 3 (.c (.one (.lit .nilIface)))])
 .ret)))))))))))))))))))
def ac_linkworkref46_Circle (f0 f1 f2 f3 f4 f5 f6 f7 f8 f9 : Nat) : AC := (.seq (.ops false [.u 2 (.alloc [(.lit (.bool false)), .emp, .emp, (.lit (.bool false)), .emp, .emp]), .m 3 .fa])
 (.fg [0, 2] (.seq (.ops true [.m 12 (.t 0), .u 13 (.idx 6 (.t 12) (.i 1)), .u 14 (.ld none 6 true (.t 13)), .m 15 (.t 0), .u 16 (.idx 6 (.t 15) (.i 0)), .u 17 (.ld none 6 true (.t 16)), .u 18 (.call f0 [(.t 14), (.t 17)]), .m 19 (.t 0), .u 20 (.idx 6 (.t 19) (.i 2)), .u 21 (.ld none 6 true (.t 20)), .m 22 (.t 0), .u 23 (.idx 6 (.t 22) (.i 0)), .u 24 (.ld none 6 true (.t 23)), .u 25 (.call f0 [(.t 21), (.t 24)]), .u 4 (.alloc [(.lit (.bool false)), .emp, .emp, (.lit (.bool false)), .emp, .emp]), .u 5 (.alloc [(.lit (.bool false)), .emp, .emp, (.lit (.bool false)), .emp, .emp]), .n (.st none 6 (.t 4) (.t 18)), .n (.st none 6 (.t 5) (.t 25))])
 (.fg [0, 2, 4, 5] (.seq (.ops false [.u 26 (.ld none 6 true (.t 4)), .u 27 (.ld none 6 true (.t 5)), .u 28 (.call f1 [(.t 26), (.t 27)]), .u 6 (.alloc [(.lit (.bool false)), .emp, .emp]), .n (.st none 3 (.t 6) (.t 28))])
 (.fg [0, 2, 4, 5, 6] (.seq (.seq (.ops false [.u 29 (.ld none 3 true (.t 6)), .u 30 (.call f2 [(.t 29)])])
 (.fg [0, 2, 4, 5, 6, 30] (.cond (.t 30) (.seq (.ops false [.u 31 (.build [.z [(.lit (.bool false)), .emp, .emp, (.lit (.bool false)), .emp, .emp]]), .n (.st none 6 (.t 2) (.t 31)), .m 3 .fa])
 .ret) .skip)))
 (.fg [0, 2, 4, 5, 6] (.seq (.ops true [.u 32 (.ld none 6 true (.t 4)), .u 33 (.call f3 [(.t 32)]), .u 34 (.ld none 6 true (.t 5)), .u 35 (.call f3 [(.t 34)]), .u 7 (.alloc [(.lit (.bool false)), .emp, .emp]), .u 8 (.alloc [(.lit (.bool false)), .emp, .emp]), .n (.st none 3 (.t 7) (.t 33)), .n (.st none 3 (.t 8) (.t 35))])
 (.fg [0, 2, 4, 5, 6, 7, 8] (.seq (.ops true [.u 37 (.call f4 [(.i 1)]), .u 38 (.ld none 3 true (.t 6)), .u 39 (.ld none 3 true (.t 6)), .u 40 (.call f5 [(.t 38), (.t 39)]), .u 41 (.call f6 [(.t 37), (.t 40)]), .m 36 (.t 41), .u 42 (.ext 0 (.t 36)), .u 43 (.ext 1 (.t 36)), .u 9 (.alloc [(.lit (.bool false)), .emp, .emp]), .n (.st none 3 (.t 9) (.t 42)), .m 10 (.t 43)])
 (.fg [0, 2, 4, 5, 7, 8, 9] (.seq (.ops true [.u 44 (.ld none 3 true (.t 9)), .u 45 (.ld none 3 true (.t 7)), .u 46 (.fa 3 (.t 5)), .u 47 (.ld none 3 true (.t 46)), .u 48 (.call f7 [(.t 45), (.t 47)]), .u 49 (.ld none 3 true (.t 8)), .u 50 (.fa 3 (.t 4)), .u 51 (.ld none 3 true (.t 50)), .u 52 (.call f7 [(.t 49), (.t 51)]), .u 53 (.call f8 [(.t 48), (.t 52)]), .u 54 (.call f7 [(.t 44), (.t 53)]), .u 55 (.ld none 3 true (.t 9)), .u 56 (.ld none 3 true (.t 8)), .u 57 (.fa 0 (.t 4)), .u 58 (.ld none 3 true (.t 57)), .u 59 (.call f7 [(.t 56), (.t 58)]), .u 60 (.ld none 3 true (.t 7)), .u 61 (.fa 0 (.t 5)), .u 62 (.ld none 3 true (.t 61)), .u 63 (.call f7 [(.t 60), (.t 62)]), .u 64 (.call f8 [(.t 59), (.t 63)]), .u 65 (.call f7 [(.t 55), (.t 64)]), .u 66 (.build [.x 3 (.t 54), .x 3 (.t 65)]), .u 11 (.alloc [(.lit (.bool false)), .emp, .emp, (.lit (.bool false)), .emp, .emp]), .n (.st none 6 (.t 11) (.t 66))])
 (.fg [0, 2, 11] (.seq (.ops true [.m 67 (.t 0), .u 68 (.idx 6 (.t 67) (.i 0)), .u 69 (.ld none 6 true (.t 68)), .u 70 (.ld none 6 true (.t 11)), .u 71 (.call f9 [(.t 69), (.t 70)]), .n (.st none 6 (.t 2) (.t 71)), .m 3 .tr])
 .ret)))))))))))))))
theorem pcirc_sound (hΓ : Holds P Γ) {f fs fo fc fm fg fq fb fd fa tE : Nat} (hs : Γ fs = .dat false pless_G) (ho : Γ fo = .dat false rof_G) (hx : Γ fc = .dat false pcross_G) (hm : Γ fm = .dat false rmul_G) (hg : Γ fg = .dat true rsign_G) (hq' : Γ fq = .dat false psq_G) (hb : Γ fb = .dat false rsub_G) (hd : Γ fd = .dat false (rdivE_G tE)) (ha : Γ fa = .dat false radd_G) (hc : check P f = some (89, (ac_threepos_circumcentre fs fo fc fm fg fq fb fd fa tE).strip, [.cell 2 6 true, .tmp 3])) : Sound P f (.dat false (pcirc_G tE)) := by
 refine sound_dat hc (pcirc_good tE) hΓ (fun args K hcl hfi hG => ?_)
 match args, hG with
 | [a], hG =>
  obtain ⟨l, rfl, hwl, hok, hlen, hK⟩ := hG
  refine ⟨by simp, ?_⟩
  obtain ⟨p, hp⟩ : ∃ p, l.getD 0 a0 = p := ⟨_, rfl⟩
  obtain ⟨q, hq⟩ : ∃ q, l.getD 1 a0 = q := ⟨_, rfl⟩
  obtain ⟨r, hr⟩ : ∃ r, l.getD 2 a0 = r := ⟨_, rfl⟩
  have g0 : 0 < l.length := by omega
  have g1 : 1 < l.length := by omega
  have g2 : 2 < l.length := by omega
  obtain ⟨p1, p2⟩ := hok p (List.mem_of_getElem? (getD_get g0 hp))
  obtain ⟨q1, q2⟩ := hok q (List.mem_of_getElem? (getD_get g1 hq))
  obtain ⟨r1, r2⟩ := hok r (List.mem_of_getElem? (getD_get g2 hr))
  have z0 := av_le p1
  have z1 := av_le q1
  have z2 := av_le r1
  have zu := zq_sub (av q) (av p)
  have zv := zq_sub (av r) (av p)
  obtain ⟨u, hu⟩ : ∃ u, subQ (av q) (av p) = u := ⟨_, rfl⟩
  obtain ⟨v, hv⟩ : ∃ v, subQ (av r) (av p) = v := ⟨_, rfl⟩
  rw [hu] at zu
  rw [hv] at zv
  have zd := rz_cross u v
  have su := rz_sq u
  have sv := rz_sq v
  have u1 : rz u.1 ≤ zq u := Nat.le_max_left _ _
  have u2 : rz u.2 ≤ zq u := Nat.le_max_right _ _
  have v1 : rz v.1 ≤ zq v := Nat.le_max_left _ _
  have v2 : rz v.2 ≤ zq v := Nat.le_max_right _ _
  have w1 : rz (av p).1 ≤ zq (av p) := Nat.le_max_left _ _
  have w2 : rz (av p).2 ≤ zq (av p) := Nat.le_max_right _ _
  have m1 := rz_mul (sqQ u) v.2
  have m2 := rz_mul (sqQ v) u.2
  have m3 := rz_mul (sqQ v) u.1
  have m4 := rz_mul (sqQ u) v.1
  have s1 := rz_sub (sqQ u * v.2) (sqQ v * u.2)
  have s2 := rz_sub (sqQ v * u.1) (sqQ u * v.1)
  have i1 := rz_1
  unfold ciL crL at hK
  rw [hp, hq, hr, hu, hv] at hK
  have c1 : al (rcan u.1, rcan u.2) = zq u := rfl
  have c2 : al (rcan v.1, rcan v.2) = zq v := rfl
  have p3 := p1.1
  have p4 := p1.2
  obtain ⟨p5, p6⟩ := al1 p2
  have e2 : (((2 : Int)) : Rat) = 2 := rfl
  have zt := rz_int 2
  have zt2 : zs 2 ≤ 2 := zs_of (by decide)
  rw [e2] at zt
  have md := rz_mul 2 (crossQ u v)
  by_cases h0 : crossQ u v = 0
  ·have h1 : ordQ (2 * crossQ u v) 0 = 0 := by rw [ordQ_eq0, h0]; exact Rat.mul_zero 2
   rw [if_pos h0, errV_s tE (by decide)] at hK
   unfold ciQ at hK
   rw [if_pos h0, pQ_eq, rcan_zero] at hK
   simp only [go_sem, ac_threepos_circumcentre, hs, ho, hx, hm, hg, g0, g1, g2, hp, hq, hr, aC_eq, mk_eta, av_mk, rv_rcan, hu, hv, h1, e2, c1, c2]
   repeat (first | (refine And.intro (by omega) ?_) | (refine And.intro (by assumption) ?_) | (refine And.intro rfl ?_) | (refine And.intro ⟨rfl, by omega⟩ ?_) | (refine And.intro ⟨rfl, by omega, by omega⟩ ?_) | (intro _))
   exact hK
  ·have h1 : ¬ ordQ (2 * crossQ u v) 0 = 0 := by rw [ordQ_eq0]; intro h; exact h0 (by grind)
   have hn : ¬ 2 * crossQ u v = 0 := by intro h; exact h0 (by grind)
   rw [if_neg h0, errV_0] at hK
   unfold ciQ at hK
   rw [if_neg h0] at hK
   obtain ⟨d, hdd⟩ : ∃ d, 2 * crossQ u v = d := ⟨_, rfl⟩
   unfold ctrQ at hK
   rw [hdd] at hK h1 hn md
   have d1 := rz_div (sqQ u * v.2 - sqQ v * u.2) d
   have d2 := rz_div (sqQ v * u.1 - sqQ u * v.1) d
   simp only [go_sem, ac_threepos_circumcentre, hs, ho, hx, hm, hg, hq', hb, hd, ha, g0, g1, g2, hp, hq, hr, aC_eq, mk_eta, av_mk, rv_rcan, hu, hv, h1, e2, hdd, hn, errV_0, c1, c2]
   repeat (first | (refine And.intro (by omega) ?_) | (refine And.intro (by assumption) ?_) | (refine And.intro rfl ?_) | (refine And.intro ⟨rfl, by omega⟩ ?_) | (refine And.intro ⟨rfl, by omega, by omega⟩ ?_) | (intro _))
   exact hK
theorem rcirc_sound (hΓ : Holds P Γ) {f fs fc fz fq fo fa fd fm fb fp : Nat} (hs : Γ fs = .dat false pless_G) (hx : Γ fc = .dat false pcross_G) (hz : Γ fz = .dat true rzero_G) (hq' : Γ fq = .dat false psq_G) (ho : Γ fo = .dat false rof_G) (ha : Γ fa = .dat false radd_G) (hd : Γ fd = .dat false rdivN_G) (hm : Γ fm = .dat false rmul_G) (hb : Γ fb = .dat false rsub_G) (hp' : Γ fp = .dat false pplus_G) (hc : check P f = some (72, (ac_linkworkref46_Circle fs fc fz fq fo fa fd fm fb fp).strip, [.cell 2 6 true, .tmp 3])) : Sound P f (.dat false rcirc_G) := by
 refine sound_dat hc rcirc_good hΓ (fun args K hcl hfi hG => ?_)
 match args, hG with
 | [a], hG =>
  obtain ⟨l, rfl, hwl, hok, hlen, hK⟩ := hG
  refine ⟨by simp, ?_⟩
  obtain ⟨p, hp⟩ : ∃ p, l.getD 0 a0 = p := ⟨_, rfl⟩
  obtain ⟨q, hq⟩ : ∃ q, l.getD 1 a0 = q := ⟨_, rfl⟩
  obtain ⟨r, hr⟩ : ∃ r, l.getD 2 a0 = r := ⟨_, rfl⟩
  have g0 : 0 < l.length := by omega
  have g1 : 1 < l.length := by omega
  have g2 : 2 < l.length := by omega
  obtain ⟨p1, p2⟩ := hok p (List.mem_of_getElem? (getD_get g0 hp))
  obtain ⟨q1, q2⟩ := hok q (List.mem_of_getElem? (getD_get g1 hq))
  obtain ⟨r1, r2⟩ := hok r (List.mem_of_getElem? (getD_get g2 hr))
  have z0 := av_le p1
  have z1 := av_le q1
  have z2 := av_le r1
  have zu := zq_sub (av q) (av p)
  have zv := zq_sub (av r) (av p)
  obtain ⟨u, hu⟩ : ∃ u, subQ (av q) (av p) = u := ⟨_, rfl⟩
  obtain ⟨v, hv⟩ : ∃ v, subQ (av r) (av p) = v := ⟨_, rfl⟩
  rw [hu] at zu
  rw [hv] at zv
  have zd := rz_cross u v
  have su := rz_sq u
  have sv := rz_sq v
  have u1 : rz u.1 ≤ zq u := Nat.le_max_left _ _
  have u2 : rz u.2 ≤ zq u := Nat.le_max_right _ _
  have v1 : rz v.1 ≤ zq v := Nat.le_max_left _ _
  have v2 : rz v.2 ≤ zq v := Nat.le_max_right _ _
  have w1 : rz (av p).1 ≤ zq (av p) := Nat.le_max_left _ _
  have w2 : rz (av p).2 ≤ zq (av p) := Nat.le_max_right _ _
  have m1 := rz_mul (sqQ u) v.2
  have m2 := rz_mul (sqQ v) u.2
  have m3 := rz_mul (sqQ v) u.1
  have m4 := rz_mul (sqQ u) v.1
  have s1 := rz_sub (sqQ u * v.2) (sqQ v * u.2)
  have s2 := rz_sub (sqQ v * u.1) (sqQ u * v.1)
  have i1 := rz_1
  unfold ciL crL at hK
  rw [hp, hq, hr, hu, hv] at hK
  have c1 : al (rcan u.1, rcan u.2) = zq u := rfl
  have c2 : al (rcan v.1, rcan v.2) = zq v := rfl
  have p3 := p1.1
  have p4 := p1.2
  obtain ⟨p5, p6⟩ := al1 p2
  have e2 : (((1 : Int)) : Rat) = 1 := rfl
  by_cases h0 : crossQ u v = 0
  ·rw [decide_eq_false (by simp [h0])] at hK
   unfold ciQ at hK
   rw [if_pos h0, pQ_eq, rcan_zero] at hK
   have h1 : decide (crossQ u v = 0) = true := decide_eq_true h0
   simp only [go_sem, ac_linkworkref46_Circle, hs, ho, hx, hm, hz, g0, g1, g2, hp, hq, hr, aC_eq, mk_eta, av_mk, rv_rcan, hu, hv, h1, e2, c1, c2]
   repeat (first | (refine And.intro (by omega) ?_) | (refine And.intro (by assumption) ?_) | (refine And.intro rfl ?_) | (refine And.intro ⟨rfl, by omega⟩ ?_) | (refine And.intro ⟨rfl, by omega, by omega⟩ ?_) | (intro _))
   exact hK
  ·have h1 : decide (crossQ u v = 0) = false := decide_eq_false h0
   have hn : ¬ (crossQ u v + crossQ u v = 0) := by intro h; exact h0 (by grind)
   rw [decide_eq_true h0] at hK
   unfold ciQ at hK
   rw [if_neg h0, ← ctr_ref] at hK
   have md := rz_add (crossQ u v) (crossQ u v)
   obtain ⟨d, hdd⟩ : ∃ d, crossQ u v + crossQ u v = d := ⟨_, rfl⟩
   rw [hdd] at hK hn md
   have d1 := rz_div 1 d
   obtain ⟨k, hkk⟩ : ∃ k, 1 / d = k := ⟨_, rfl⟩
   rw [hkk] at hK d1
   have t1 := rz_mul k (sqQ u * v.2 - sqQ v * u.2)
   have t2 := rz_mul k (sqQ v * u.1 - sqQ u * v.1)
   have c3 : al (rcan (k * (sqQ u * v.2 - sqQ v * u.2)), rcan (k * (sqQ v * u.1 - sqQ u * v.1))) ≤ 100000000 := by
    rw [al_can]; omega
   simp only [go_sem, ac_linkworkref46_Circle, hs, ho, hx, hm, hz, hq', ha, hd, hb, hp', g0, g1, g2, hp, hq, hr, aC_eq, mk_eta, av_mk, rv_rcan, hu, hv, h1, e2, hdd, hn, hkk, c1, c2]
   repeat (first | (refine And.intro (by omega) ?_) | (refine And.intro (by assumption) ?_) | (refine And.intro rfl ?_) | (refine And.intro ⟨rfl, by omega⟩ ?_) | (refine And.intro ⟨rfl, by omega, by omega⟩ ?_) | (intro _))
   exact hK
end Go.Abs
end
section
set_option linter.unusedVariables false
set_option linter.unusedSimpArgs false
set_option maxRecDepth 100000
namespace Go.Abs
open Go.Num
variable {P : Program} {Γ : Nat → Spec}
theorem okB_w {h h' : Nat → HB} {z : Nat} {b : Bool} {w : W} : okB h h' (some ⟨[[zb w, zm w]], z, b⟩) (some ⟨[[zb w, zm w]], z, b⟩) :=
 ⟨⟨rfl, rfl⟩, .inl ⟨rfl, fun e he c hc => by
  rw [List.mem_singleton.1 he] at hc
  simp only [List.mem_cons, List.not_mem_nil, or_false] at hc
  rcases hc with rfl | rfl
  ·exact of_eq_true (clean_zb _)
  ·exact of_eq_true (clean_zm _)⟩⟩
def ssmall_G (l : List AV) (K : AV → Prop) : Prop :=
 match l with
 | [a] => asInt (fun k n => k = .i64 ∧ n = 1 ∧ K (.one (.lit (.string ⟨#[49]⟩)))) a
 | _ => False
theorem ssmall_Ge (a : AV) (K : AV → Prop) : ssmall_G [a] K = (asInt (fun k n => k = .i64 ∧ n = 1 ∧ K (.one (.lit (.string ⟨#[49]⟩)))) a) := propext Iff.rfl
@[congr] theorem ssmall_Gc {K : AV → Prop} {l l' : List AV} (h : l = l') : ssmall_G l K = ssmall_G l' K := by subst h; rfl
attribute [go_sem] ssmall_Ge
attribute [go_sem ↓] ssmall_Ge
theorem ssmall_good : Good ssmall_G := good_of fun as => by
 unfold ssmall_G
 split
 ·exact (g_asInt (fun _ _ => (.and fun _ => (.and fun _ => (.ret _)))) _)
 ·exact .of fun K hk => hk.elim
def sform_G (l : List AV) (K : AV → Prop) : Prop :=
 match l with
 | [a, b] => asInt (fun k n => k = .i64 ∧ n = 1 ∧ asInt (fun k m => k = .i64 ∧ m = 10 ∧ K (.one (.lit (.string ⟨#[49]⟩)))) b) a
 | _ => False
theorem sform_Ge (a b : AV) (K : AV → Prop) : sform_G [a, b] K = (asInt (fun k n => k = .i64 ∧ n = 1 ∧ asInt (fun k m => k = .i64 ∧ m = 10 ∧ K (.one (.lit (.string ⟨#[49]⟩)))) b) a) := propext Iff.rfl
@[congr] theorem sform_Gc {K : AV → Prop} {l l' : List AV} (h : l = l') : sform_G l K = sform_G l' K := by subst h; rfl
attribute [go_sem] sform_Ge
attribute [go_sem ↓] sform_Ge
theorem sform_good : Good sform_G := good_of fun as => by
 unfold sform_G
 split
 ·exact (g_asInt (fun _ _ => (.and fun _ => (.and fun _ => (g_asInt (fun _ _ => (.and fun _ => (.and fun _ => (.ret _)))) _)))) _)
 ·exact .of fun K hk => hk.elim
def sitoa_G (l : List AV) (K : AV → Prop) : Prop :=
 match l with
 | [a] => asInt (fun k n => k = .i64 ∧ n = 1 ∧ K (.one (.lit (.string ⟨#[49]⟩)))) a
 | _ => False
theorem sitoa_Ge (a : AV) (K : AV → Prop) : sitoa_G [a] K = (asInt (fun k n => k = .i64 ∧ n = 1 ∧ K (.one (.lit (.string ⟨#[49]⟩)))) a) := propext Iff.rfl
@[congr] theorem sitoa_Gc {K : AV → Prop} {l l' : List AV} (h : l = l') : sitoa_G l K = sitoa_G l' K := by subst h; rfl
attribute [go_sem] sitoa_Ge
attribute [go_sem ↓] sitoa_Ge
theorem sitoa_good : Good sitoa_G := good_of fun as => by
 unfold sitoa_G
 split
 ·exact (g_asInt (fun _ _ => (.and fun _ => (.and fun _ => (.ret _)))) _)
 ·exact .of fun K hk => hk.elim
def sjoin_G (l : List AV) (K : AV → Prop) : Prop :=
 match l with
 | [a, b] => a = .one (.slice [[.lit (.string ⟨#[49]⟩)]]) ∧ b = .one (.lit (.string ⟨#[]⟩)) ∧ K (.one (.lit (.string ⟨#[49]⟩)))
 | _ => False
theorem sjoin_Ge (a b : AV) (K : AV → Prop) : sjoin_G [a, b] K = (a = .one (.slice [[.lit (.string ⟨#[49]⟩)]]) ∧ b = .one (.lit (.string ⟨#[]⟩)) ∧ K (.one (.lit (.string ⟨#[49]⟩)))) := propext Iff.rfl
@[congr] theorem sjoin_Gc {K : AV → Prop} {l l' : List AV} (h : l = l') : sjoin_G l K = sjoin_G l' K := by subst h; rfl
attribute [go_sem] sjoin_Ge
attribute [go_sem ↓] sjoin_Ge
theorem sjoin_good : Good sjoin_G := good_of fun as => by
 unfold sjoin_G
 split
 ·exact (.and fun _ => (.and fun _ => (.ret _)))
 ·exact .of fun K hk => hk.elim
def ztext_G (l : List AV) (K : AV → Prop) : Prop :=
 match l with
 | [a] => onW (fun w => zv w = 1 ∧ K (.one (.lit (.string ⟨#[49]⟩)))) a
 | _ => False
theorem ztext_Ge (a : AV) (K : AV → Prop) : ztext_G [a] K = (onW (fun w => zv w = 1 ∧ K (.one (.lit (.string ⟨#[49]⟩)))) a) := propext Iff.rfl
@[congr] theorem ztext_Gc {K : AV → Prop} {l l' : List AV} (h : l = l') : ztext_G l K = ztext_G l' K := by subst h; rfl
attribute [go_sem] ztext_Ge
attribute [go_sem ↓] ztext_Ge
theorem ztext_good : Good ztext_G := good_of fun as => by
 unfold ztext_G
 split
 ·exact (g_onW fun _ => (.and fun _ => (.ret _)))
 ·exact .of fun K hk => hk.elim
def rtext_G (l : List AV) (K : AV → Prop) : Prop :=
 match l with
 | [a] => onR (fun x => rv x = 1 ∧ rl x ≤ 4294967296 ∧ K (.one (.lit (.string ⟨#[49]⟩)))) a
 | _ => False
theorem rtext_Ge (a : AV) (K : AV → Prop) : rtext_G [a] K = (onR (fun x => rv x = 1 ∧ rl x ≤ 4294967296 ∧ K (.one (.lit (.string ⟨#[49]⟩)))) a) := propext Iff.rfl
@[congr] theorem rtext_Gc {K : AV → Prop} {l l' : List AV} (h : l = l') : rtext_G l K = rtext_G l' K := by subst h; rfl
attribute [go_sem] rtext_Ge
attribute [go_sem ↓] rtext_Ge
theorem rtext_good : Good rtext_G := good_of fun as => by
 unfold rtext_G
 split
 ·exact (g_onR fun _ => (.and fun _ => (.and fun _ => (.ret _))))
 ·exact .of fun K hk => hk.elim
def ac_internal_strconv_small : AC := (.seq (.ops false [.m 2 (.c (.one (.lit (.string ⟨#[]⟩))))])
 (.fg [0] (.seq (.seq (.ops false [.m 3 (.t 0), .u 4 (.bin .lss (.t 3) (.i 10))])
 (.fg [0, 4] (.cond (.t 4) (.seq (.ops false [.m 5 (.t 0), .m 6 (.t 0), .u 7 (.bin .add (.t 6) (.i 1)), .u 8 (.sop 0 [(.c (.one (.lit (.string ⟨#[48, 49, 50, 51, 52, 53, 54, 55, 56, 57, 97, 98, 99, 100, 101, 102, 103, 104, 105, 106, 107, 108, 109, 110, 111, 112, 113, 114, 115, 116, 117, 118, 119, 120, 121, 122]⟩)))), (.t 5), (.t 7)]), .m 2 (.t 8)])
 .ret) .skip)))
 (.fg [0] (.seq (.ops false [.m 9 (.t 0), .u 10 (.bin .mul (.t 9) (.i 2)), .m 11 (.t 0), .u 12 (.bin .mul (.t 11) (.i 2)), .u 13 (.bin .add (.t 12) (.i 2)), .u 14 (.sop 0 [(.c (.one (.lit (.string ⟨#[48, 48, 48, 49, 48, 50, 48, 51, 48, 52, 48, 53, 48, 54, 48, 55, 48, 56, 48, 57, 49, 48, 49, 49, 49, 50, 49, 51, 49, 52, 49, 53, 49, 54, 49, 55, 49, 56, 49, 57, 50, 48, 50, 49, 50, 50, 50, 51, 50, 52, 50, 53, 50, 54, 50, 55, 50, 56, 50, 57, 51, 48, 51, 49, 51, 50, 51, 51, 51, 52, 51, 53, 51, 54, 51, 55, 51, 56, 51, 57, 52, 48, 52, 49, 52, 50, 52, 51, 52, 52, 52, 53, 52, 54, 52, 55, 52, 56, 52, 57, 53, 48, 53, 49, 53, 50, 53, 51, 53, 52, 53, 53, 53, 54, 53, 55, 53, 56, 53, 57, 54, 48, 54, 49, 54, 50, 54, 51, 54, 52, 54, 53, 54, 54, 54, 55, 54, 56, 54, 57, 55, 48, 55, 49, 55, 50, 55, 51, 55, 52, 55, 53, 55, 54, 55, 55, 55, 56, 55, 57, 56, 48, 56, 49, 56, 50, 56, 51, 56, 52, 56, 53, 56, 54, 56, 55, 56, 56, 56, 57, 57, 48, 57, 49, 57, 50, 57, 51, 57, 52, 57, 53, 57, 54, 57, 55, 57, 56, 57, 57]⟩)))), (.t 10), (.t 13)]), .m 2 (.t 14)])
 .ret)))))
def ac_internal_strconv_FormatInt (f0 f1 f2 f3 : Nat) : AC := (.seq (.ops false [.m 4 (.c (.one (.lit (.string ⟨#[]⟩))))])
 (.fg [0, 1] (.seq (.seq (.ops false [.m 10 (.t 1), .u 11 (.bin .eql (.t 10) (.i 10))])
 (.fg [0, 1, 11] (.cond (.t 11) (.seq (.seq (.ops false [.m 12 (.t 0), .u 13 (.bin .leq (.i 0) (.t 12)), .m 14 (.t 13), .w 15 14 true (.mv (.t 0)), .w 16 14 true (.bin .lss (.t 15) (.i 100)), .u 17 (.pick (.t 14) (.t 16) .fa)])
 (.fg [0, 17] (.cond (.t 17) (.seq (.ops false [.m 18 (.t 0), .u 19 (.call f0 [(.t 18)]), .m 4 (.t 19)])
 .ret) .skip)))
 (.fg [0] (.seq (.ops false [.u 5 (.alloc [(.lit (.int .u8 0)), (.lit (.int .u8 0)), (.lit (.int .u8 0)), (.lit (.int .u8 0)), (.lit (.int .u8 0)), (.lit (.int .u8 0)), (.lit (.int .u8 0)), (.lit (.int .u8 0)), (.lit (.int .u8 0)), (.lit (.int .u8 0)), (.lit (.int .u8 0)), (.lit (.int .u8 0)), (.lit (.int .u8 0)), (.lit (.int .u8 0)), (.lit (.int .u8 0)), (.lit (.int .u8 0)), (.lit (.int .u8 0)), (.lit (.int .u8 0)), (.lit (.int .u8 0)), (.lit (.int .u8 0)), (.lit (.int .u8 0)), (.lit (.int .u8 0)), (.lit (.int .u8 0)), (.lit (.int .u8 0))])])
 (.fg [0, 5] (.seq (.ops false [.m 20 (.t 0), .u 21 (.conv .u64 (.t 20)), .m 6 (.t 21)])
 (.fg [0, 5, 6] (.seq (.seq (.ops false [.m 22 (.t 0), .u 23 (.bin .lss (.t 22) (.i 0))])
 (.fg [0, 5, 6, 23] (.cond (.t 23) (.ops false [.m 24 (.t 6), .u 25 (.un .neg (.t 24)), .m 6 (.t 25)]) .skip)))
 (.fg [0, 5, 6] (.seq (.ops false [.m 26 (.t 6), .u 27 (.call f1 [(.t 26)]), .m 7 (.t 27)])
 (.fg [0, 5, 6, 7] (.seq (.ops false [.m 28 (.t 7), .u 29 (.bin .add (.i 1) (.t 28)), .u 30 (.bad), .m 31 (.t 6), .u 32 (.call f2 [(.t 30), (.t 31)])])
 (.fg [0, 5, 7] (.seq (.seq (.ops false [.m 33 (.t 0), .u 34 (.bin .lss (.t 33) (.i 0))])
 (.fg [5, 7, 34] (.cond (.t 34) (.seq (.ops false [.u 35 (.ai 1 24 (.t 5) (.i 0)), .n (.st none 1 (.t 35) (.c (.one (.lit (.int .u8 45)))))])
 (.fg [7] (.seq (.ops false [.m 36 (.t 7), .u 37 (.bin .add (.i 1) (.t 36)), .u 38 (.bad), .u 39 (.bad), .m 4 (.t 39)])
 .ret))) .skip)))
 (.fg [7] (.seq (.ops false [.m 40 (.t 7), .u 41 (.bin .add (.i 1) (.t 40)), .u 42 (.bad), .u 43 (.bad), .m 4 (.t 43)])
 .ret))))))))))))))) .skip)))
 (.fg [0, 1] (.seq (.ops false [.m 45 (.t 0), .u 46 (.conv .u64 (.t 45)), .m 47 (.t 1), .m 48 (.t 0), .u 49 (.bin .lss (.t 48) (.i 0)), .u 50 (.call f3 [(.c (.one .emp)), (.t 46), (.t 47), (.t 49), .fa]), .m 44 (.t 50), .u 51 (.ext 0 (.t 44)), .u 52 (.ext 1 (.t 44)), .m 8 (.t 51), .m 9 (.t 52)])
 (.fg [9] (.seq (.ops false [.m 53 (.t 9), .m 4 (.t 53)])
 .ret)))))))
def ac_internal_strconv_Itoa (f0 : Nat) : AC := (.seq (.ops false [.m 2 (.c (.one (.lit (.string ⟨#[]⟩))))])
 (.fg [0] (.seq (.ops false [.m 3 (.t 0), .u 4 (.call f0 [(.t 3), (.i 10)]), .m 2 (.t 4)])
 .ret)))
def ac_strconv_Itoa (f0 : Nat) : AC := (.seq (.ops false [.m 2 (.c (.one (.lit (.string ⟨#[]⟩))))])
 (.fg [0] (.seq (.ops false [.m 3 (.t 0), .u 4 (.call f0 [(.t 3)]), .m 2 (.t 4)])
 .ret)))
def ac_strings_Join (f0 f1 f2 : Nat) : AC := (.seq (.ops false [.m 4 (.c (.one (.lit (.string ⟨#[]⟩))))])
 (.fg [0, 1] (.seq (.seq (.ops false [.m 11 (.t 0), .u 12 (.len (.t 11))])
 (.fg [0, 1, 12] (.block 0 (.seq (.ops false [.u 14 (.bin .eql (.t 12) (.i 0)), .m 13 (.t 14)])
 (.fg [0, 1, 12, 13] (.cond (.t 13) (.seq (.ops false [.m 4 (.c (.one (.lit (.string ⟨#[]⟩))))])
 .ret) (.seq (.ops false [.u 16 (.bin .eql (.t 12) (.i 1)), .m 15 (.t 16)])
 (.fg [0, 1, 15] (.cond (.t 15) (.seq (.ops false [.m 17 (.t 0), .u 18 (.idx 1 (.t 17) (.i 0)), .u 19 (.ld none 1 false (.t 18)), .m 4 (.t 19)])
 .ret) .skip)))))))))
 (.fg [0, 1] (.seq (.ops false [.m 5 (.i 0)])
 (.fg [0, 1, 5] (.seq (.seq (.ops false [.m 20 (.t 1), .u 21 (.bad), .u 22 (.bin .gtr (.t 21) (.i 0))])
 (.fg [0, 1, 5, 22] (.cond (.t 22) (.seq (.seq (.ops false [.m 23 (.t 1), .u 24 (.bad), .m 25 (.t 0), .u 26 (.len (.t 25)), .u 27 (.bin .sub (.t 26) (.i 1)), .u 28 (.bin .quo (.i 9223372036854775807) (.t 27)), .u 29 (.bin .geq (.t 24) (.t 28))])
 (.fg [0, 1, 5, 29] (.cond (.t 29) (.ops false [.u 30 (.bad), .n (.bad)]) .skip)))
 (.fg [0, 1, 5] (.ops false [.m 31 (.t 5), .m 32 (.t 1), .u 33 (.bad), .m 34 (.t 0), .u 35 (.len (.t 34)), .u 36 (.bin .sub (.t 35) (.i 1)), .u 37 (.bin .mul (.t 33) (.t 36)), .u 38 (.bin .add (.t 31) (.t 37)), .m 5 (.t 38)]))) .skip)))
 (.fg [0, 1, 5] (.seq (.seq (.ops false [.m 39 (.t 0), .u 40 (.len (.t 39)), .m 41 (.i 0)])
 (.fg [0, 1, 5, 39, 40, 41] (.block 1 (.loop (.seq (.ops false [.u 42 (.bin .lss (.t 41) (.t 40))])
 (.fg [0, 1, 5, 39, 40, 41, 42] (.seq (.cond (.t 42) .skip (.exit 1))
 (.fg [0, 1, 5, 39, 40, 41] (.seq (.block 2 (.seq (.ops false [.u 43 (.idx 1 (.t 39) (.t 41)), .u 44 (.ld none 1 false (.t 43)), .m 7 (.t 44)])
 (.fg [0, 1, 5, 7, 39, 40, 41] (.seq (.seq (.ops false [.m 45 (.t 7), .u 46 (.bad), .m 47 (.t 5), .u 48 (.bin .sub (.i 9223372036854775807) (.t 47)), .u 49 (.bin .gtr (.t 46) (.t 48))])
 (.fg [0, 1, 5, 7, 39, 40, 41, 49] (.cond (.t 49) (.ops false [.u 50 (.bad), .n (.bad)]) .skip)))
 (.fg [0, 1, 5, 7, 39, 40, 41] (.ops false [.m 51 (.t 5), .m 52 (.t 7), .u 53 (.bad), .u 54 (.bin .add (.t 51) (.t 53)), .m 5 (.t 54)]))))))
 (.fg [0, 1, 5, 39, 40, 41] (.ops false [.u 55 (.bin .add (.t 41) (.i 1)), .m 41 (.t 55)])))))))))))
 (.fg [0, 1, 5] (.seq (.ops false [.u 8 (.alloc [(.lit (.pointer none)), .emp])])
 (.fg [0, 1, 5, 8] (.seq (.ops false [.m 56 (.t 5), .u 57 (.call f0 [(.t 8), (.t 56)])])
 (.fg [0, 1, 8] (.seq (.ops false [.m 58 (.t 0), .u 59 (.idx 1 (.t 58) (.i 0)), .u 60 (.ld none 1 false (.t 59)), .u 61 (.call f1 [(.t 8), (.t 60)])])
 (.fg [0, 1, 8] (.seq (.seq (.ops false [.m 62 (.t 0), .u 63 (.sl 1 (.t 62) (some (.i 1)) none), .u 64 (.len (.t 63)), .m 65 (.i 0)])
 (.fg [1, 8, 63, 64, 65] (.block 3 (.loop (.seq (.ops false [.u 66 (.bin .lss (.t 65) (.t 64))])
 (.fg [1, 8, 63, 64, 65, 66] (.seq (.cond (.t 66) .skip (.exit 3))
 (.fg [1, 8, 63, 64, 65] (.seq (.block 4 (.seq (.ops false [.u 67 (.idx 1 (.t 63) (.t 65)), .u 68 (.ld none 1 false (.t 67)), .m 10 (.t 68)])
 (.fg [1, 8, 10, 63, 64, 65] (.seq (.ops false [.m 69 (.t 1), .u 70 (.call f1 [(.t 8), (.t 69)])])
 (.fg [1, 8, 10, 63, 64, 65] (.ops false [.m 71 (.t 10), .u 72 (.call f1 [(.t 8), (.t 71)])]))))))
 (.fg [1, 8, 63, 64, 65] (.ops false [.u 73 (.bin .add (.t 65) (.i 1)), .m 65 (.t 73)])))))))))))
 (.fg [8] (.seq (.ops false [.u 74 (.call f2 [(.t 8)]), .m 4 (.t 74)])
 .ret)))))))))))))))))))
def ac_integer_Text (f0 f1 f2 f3 f4 f5 : Nat) : AC := (.seq (.ops false [.u 1 (.box 2 (.t 0)), .m 2 (.c (.one (.lit (.string ⟨#[]⟩))))])
 (.fg [1] (.seq (.ops false [.u 8 (.ld none 2 true (.t 1)), .u 9 (.call f0 [(.t 8)]), .m 3 (.t 9)])
 (.fg [1, 3] (.seq (.seq (.ops false [.m 10 (.t 3), .u 11 (.len (.t 10)), .u 12 (.bin .eql (.t 11) (.i 0))])
 (.fg [1, 3, 12] (.cond (.t 12) (.seq (.ops false [.m 2 (.c (.one (.lit (.string ⟨#[48]⟩))))])
 .ret) .skip)))
 (.fg [1, 3] (.seq (.ops false [.m 4 (.c (.one .emp))])
 (.fg [1, 3, 4] (.seq (.block 0 (.loop (.seq (.seq (.ops false [.m 13 (.t 3), .u 14 (.len (.t 13)), .u 15 (.bin .gtr (.t 14) (.i 0))])
 (.fg [1, 3, 4, 15] (.cond (.t 15) .skip (.exit 0))))
 (.fg [1, 3, 4] (.block 1 (.seq (.ops false [.m 5 (.c (.one (.lit (.int .u32 0))))])
 (.fg [1, 3, 4] (.seq (.ops false [.m 17 (.t 3), .u 18 (.call f1 [(.t 17), (.c (.one (.lit (.int .u32 1000000000))))]), .m 16 (.t 18), .u 19 (.ext 0 (.t 16)), .u 20 (.ext 1 (.t 16)), .m 3 (.t 19), .m 5 (.t 20)])
 (.fg [1, 3, 4, 5] (.seq (.ops false [.m 21 (.t 5), .u 22 (.conv .i64 (.t 21)), .u 23 (.call f2 [(.t 22)]), .m 6 (.t 23)])
 (.fg [1, 3, 4, 6] (.seq (.seq (.ops false [.m 24 (.t 3), .u 25 (.len (.t 24)), .u 26 (.bin .gtr (.t 25) (.i 0))])
 (.fg [1, 3, 4, 6, 26] (.cond (.t 26) (.ops false [.m 27 (.t 6), .u 28 (.bad), .u 29 (.bin .sub (.i 9) (.t 28)), .u 30 (.call f3 [(.c (.one (.lit (.string ⟨#[48]⟩)))), (.t 29)]), .m 31 (.t 6), .u 32 (.sop 2 [(.t 30), (.t 31)]), .m 6 (.t 32)]) .skip)))
 (.fg [1, 3, 4, 6] (.ops false [.m 33 (.t 6), .u 34 (.row 1 [[.x 1 (.t 33)]]), .m 35 (.t 4), .u 36 (.app 1 (.t 34) (.t 35)), .m 4 (.t 36)]))))))))))))))
 (.fg [1, 4] (.seq (.ops false [.m 37 (.t 4), .u 38 (.call f4 [(.t 37), (.c (.one (.lit (.string ⟨#[]⟩))))]), .m 7 (.t 38)])
 (.fg [1, 7] (.seq (.seq (.ops false [.u 39 (.ld none 2 true (.t 1)), .u 40 (.call f5 [(.t 39)])])
 (.fg [7, 40] (.cond (.t 40) (.ops false [.m 41 (.t 7), .u 42 (.sop 2 [(.c (.one (.lit (.string ⟨#[45]⟩)))), (.t 41)]), .m 7 (.t 42)]) .skip)))
 (.fg [7] (.seq (.ops false [.m 43 (.t 7), .m 2 (.t 43)])
 .ret)))))))))))))))
def ac_fraction_Text (f0 f1 f2 f3 : Nat) : AC := (.seq (.ops false [.u 1 (.box 3 (.t 0)), .m 2 (.c (.one (.lit (.string ⟨#[]⟩))))])
 (.fg [1] (.seq (.ops false [.u 6 (.ld none 3 true (.t 1)), .u 7 (.call f0 [(.t 6)]), .m 5 (.t 7), .u 8 (.ext 0 (.t 5)), .u 9 (.ext 1 (.t 5)), .u 3 (.alloc [(.lit (.bool false)), .emp]), .u 4 (.alloc [(.lit (.bool false)), .emp]), .n (.st none 2 (.t 3) (.t 8)), .n (.st none 2 (.t 4) (.t 9))])
 (.fg [3, 4] (.seq (.seq (.ops true [.u 10 (.ld none 2 true (.t 4)), .u 11 (.call f1 []), .u 12 (.call f2 [(.t 10), (.t 11)]), .u 13 (.bin .eql (.t 12) (.i 0))])
 (.fg [3, 4, 13] (.cond (.t 13) (.seq (.ops false [.u 14 (.ld none 2 true (.t 3)), .u 15 (.call f3 [(.t 14)]), .m 2 (.t 15)])
 .ret) .skip)))
 (.fg [3, 4] (.seq (.ops true [.u 16 (.ld none 2 true (.t 3)), .u 17 (.call f3 [(.t 16)]), .u 18 (.sop 2 [(.t 17), (.c (.one (.lit (.string ⟨#[47]⟩))))]), .u 19 (.ld none 2 true (.t 4)), .u 20 (.call f3 [(.t 19)]), .u 21 (.sop 2 [(.t 18), (.t 20)]), .m 2 (.t 21)])
 .ret)))))))
theorem ssmall_sound (hΓ : Holds P Γ) {f : Nat} (hc : check P f = some (15, (ac_internal_strconv_small).strip, [.tmp 2])) : Sound P f (.dat false ssmall_G) := by
 refine sound_dat hc ssmall_good hΓ (fun args K hcl hfi hG => ?_)
 match args, hG with
 | [a], hG =>
  obtain ⟨k, n, rfl, rfl, rfl, hK⟩ := asInt_inv hG
  refine ⟨by simp, ?_⟩
  simp only [go_sem, ac_internal_strconv_small]
  refine ⟨fun _ => ⟨by decide, ⟨by decide, by decide, by decide⟩, ?_⟩, fun h => absurd (by decide) h⟩
  exact hK
theorem sform_sound (hΓ : Holds P Γ) {f fs fn fb fi : Nat} (hs : Γ fs = .dat false ssmall_G) (hc : check P f = some (54, (ac_internal_strconv_FormatInt fs fn fb fi).strip, [.tmp 4])) : Sound P f (.dat false sform_G) := by
 refine sound_dat hc sform_good hΓ (fun args K hcl hfi hG => ?_)
 match args, hG with
 | [a, b], hG =>
  rw [sform_Ge] at hG
  obtain ⟨k, n, rfl, rfl, rfl, hG'⟩ := asInt_inv hG
  obtain ⟨k', n', rfl, rfl, rfl, hK⟩ := asInt_inv hG'
  clear hG hG'
  refine ⟨by simp, ?_⟩
  have a1 : (0 : Int) ≤ 1 := by decide
  have a2 : (1 : Int) < 100 := by decide
  simp only [go_sem, ac_internal_strconv_FormatInt, hs, a1, a2]
  exact hK
theorem sitoa_sound (hΓ : Holds P Γ) {f fs : Nat} (hs : Γ fs = .dat false sform_G) (hc : check P f = some (5, (ac_internal_strconv_Itoa fs).strip, [.tmp 2])) : Sound P f (.dat false sitoa_G) := by
 refine sound_dat hc sitoa_good hΓ (fun args K hcl hfi hG => ?_)
 match args, hG with
 | [a], hG =>
  obtain ⟨k, n, rfl, rfl, rfl, hK⟩ := asInt_inv hG
  refine ⟨by simp, ?_⟩
  simp only [go_sem, ac_internal_strconv_Itoa, hs]
  exact hK
theorem sitoa2_sound (hΓ : Holds P Γ) {f fs : Nat} (hs : Γ fs = .dat false sitoa_G) (hc : check P f = some (5, (ac_strconv_Itoa fs).strip, [.tmp 2])) : Sound P f (.dat false sitoa_G) := by
 refine sound_dat hc sitoa_good hΓ (fun args K hcl hfi hG => ?_)
 match args, hG with
 | [a], hG =>
  obtain ⟨k, n, rfl, rfl, rfl, hK⟩ := asInt_inv hG
  refine ⟨by simp, ?_⟩
  simp only [go_sem, ac_strconv_Itoa, hs]
  exact hK
theorem sjoin_sound (hΓ : Holds P Γ) {f fg fw fs : Nat} (hc : check P f = some (75, (ac_strings_Join fg fw fs).strip, [.tmp 4])) : Sound P f (.dat false sjoin_G) := by
 refine sound_dat hc sjoin_good hΓ (fun args K hcl hfi hG => ?_)
 match args, hG with
 | [a, b], hG =>
  obtain ⟨rfl, rfl, hK⟩ := hG
  refine ⟨by simp, ?_⟩
  simp only [go_sem, ac_strings_Join]
  exact ⟨fun _ => ⟨by decide, hK⟩, fun h => absurd rfl h⟩
theorem ztext_sound (hΓ : Holds P Γ) {f fm fs fi fr fj fn : Nat} (hm : Γ fm = .dat false zmag_G) (hs : Γ fs = .dat false short_G) (hi : Γ fi = .dat false sitoa_G) (hj : Γ fj = .dat false sjoin_G) (hn : Γ fn = .dat true znegp_G) (hc : check P f = some (44, (ac_integer_Text fm fs fi fr fj fn).strip, [.tmp 2])) : Sound P f (.dat false ztext_G) := by
 refine sound_dat hc ztext_good hΓ (fun args K hcl hfi hG => ?_)
 match args, hG with
 | [a], hG =>
  obtain ⟨w, rfl, hw, h1, hK⟩ := hG
  refine ⟨by simp, ?_⟩
  have d1 : digs 1 = [1] := by rw [digs_pos (by decide), show 1 / 4294967296 = 0 from rfl, digs_zero]
  have d0 := digs_zero
  have v1 : val [1] / 1000000000 = 0 := by decide
  have v2 : val [1] % 1000000000 = 1 := by decide
  simp only [go_sem, ac_integer_Text, hm, hs, hi, hj, hn, hw, h1, Int.natAbs_one, d1]
  refine wpA_loop (fun k : Nat => if k = 0 then ⟨mkV [(1, .one (.ptr 1 1 0 0)), (3, wsA [1]), (4, .one .emp)], mkH [(1, ⟨1, some ⟨[[zb w, zm w]], 2, true⟩⟩)]⟩ else ⟨mkV [(1, .one (.ptr 1 1 0 0)), (3, wsA []), (4, .one (.full [[.lit (.string ⟨#[49]⟩)]]))], mkH [(1, ⟨1, some ⟨[[zb w, zm w]], 2, true⟩⟩)]⟩) (fun _ => True) (fun k => 1 - k) 0 ?_ trivial ?_
  ·rw [if_pos rfl]; exact weak_lit (by simp [okS, okV, okC, okL, okH, okB, okE, mkV_cons, mkV_nil, mkH_cons, mkH_nil, wsA, ws, wc]) ⟨okB_w, trivial⟩
  ·intro k _
   by_cases hk : k = 0
   ·subst hk
    rw [if_pos rfl]
    simp only [go_sem, hs, hi, v1, v2, d0]
    refine ⟨WL_cons.2 ⟨by decide, WL_nil⟩, by decide, by decide, by decide, rfl, fun e he => by simp at he, 1, ?_, by decide⟩
    rw [if_neg (by decide)]
    exact weak_lit (by simp [okS, okV, okC, okL, okH, okB, okE, mkV_cons, mkV_nil, mkH_cons, mkH_nil, wsA, ws, wc]) ⟨okB_w, trivial⟩
   ·rw [if_neg hk]
    simp only [go_sem, hj, hn, hw, h1]
    exact ⟨fun h => absurd h (by decide), fun _ => hK⟩
theorem rtext_sound (hΓ : Holds P Γ) {f fp fo fc ft : Nat} (hp : Γ fp = .dat false rparts_G) (ho : Γ fo = .dat false rone_G) (hc' : Γ fc = .dat true zcmp_G) (ht : Γ ft = .dat false ztext_G) (hc : check P f = some (22, (ac_fraction_Text fp fo fc ft).strip, [.tmp 2])) : Sound P f (.dat false rtext_G) := by
 refine sound_dat hc rtext_good hΓ (fun args K hcl hfi hG => ?_)
 match args, hG with
 | [a], hG =>
  obtain ⟨x, rfl, hx, h1, hl, hK⟩ := hG
  refine ⟨by simp, ?_⟩
  simp only [go_sem, ac_fraction_Text, hp, ho, hc', ht, hx, h1]
  have e1 : ordI ((Rat.den 1 : Nat) : Int) 1 = 0 := by decide
  exact ⟨hl, fun _ => ⟨rfl, hK⟩, fun h => absurd e1 h⟩
end Go.Abs
end
section
set_option linter.unusedVariables false
set_option linter.unusedSimpArgs false
set_option maxRecDepth 100000
namespace Go.Num
open Go.Abs
def pt (i : Nat) (A : List V2) : V2 := A.getD i (0, 0)
theorem getD_can (A : List V2) (i : Nat) : (A.map acan).getD i a0 = acan (pt i A) := by
 unfold pt
 rw [List.getD_eq_getElem?_getD, List.getD_eq_getElem?_getD, List.getElem?_map]
 cases A[i]? with
 | none => simp only [Option.map_none, Option.getD_none, acan, a0, rcan_zero]
 | some x => rfl
theorem acan_mk (a : V2) : acan a = (rcan a.1, rcan a.2) := rfl
def ciV (A : List V2) : V2 := ciQ (pt 0 A) (subQ (pt 1 A) (pt 0 A)) (subQ (pt 2 A) (pt 0 A))
def crV (A : List V2) : Rat := crossQ (subQ (pt 1 A) (pt 0 A)) (subQ (pt 2 A) (pt 0 A))
theorem ciL_can (A : List V2) : ciL (A.map acan) = ciV A := by unfold ciL ciV; simp only [getD_can, av_can]
theorem crL_can (A : List V2) : crL (A.map acan) = crV A := by unfold crL crV; simp only [getD_can, av_can]
def othV (A : List V2) : V2 := if pt 0 A = pt 1 A then pt 2 A else pt 1 A
def lnC (A : List V2) : Nat := if pt 0 A = othV A then 8 else if crV A ≠ 0 then 21 else 0
def lnA (A : List V2) : Rat := if lnC A = 0 then (pt 0 A).2 - (othV A).2 else 0
def lnB (A : List V2) : Rat := if lnC A = 0 then (othV A).1 - (pt 0 A).1 else 0
def lnK (A : List V2) : Rat := if lnC A = 0 then ((pt 0 A).2 - (othV A).2) * (pt 0 A).1 + ((othV A).1 - (pt 0 A).1) * (pt 0 A).2 else 0
abbrev DyQ := V2 × V2 × Rat
def dl (d : Dy) : Nat := max (al d.1) (max (al d.2.1) (rl d.2.2))
def dvld (d : Dy) : Bool := avld d.1 && (avld d.2.1 && vldR d.2.2)
def d0 : DyQ := ((0, 0), (0, 0), 0)
def cenC (l : List Ps) (m : Arc) : Nat := if chkC l [m] ≠ 0 then chkC l [m] else if crV (imgs l m) = 0 then 8 else 0
def cenQ (A : List V2) (m : V2) : DyQ := (ciV A, m, sqQ (subQ (pt 0 A) (ciV A)))
def lineC (l : List Ps) (m : Arc) : Nat := if chkC l [m] ≠ 0 then chkC l [m] else lnC (imgs l m)
def psnC (l : List Ps) (d : Dy) : Nat := if plchk l ≠ 0 then plchk l else if dvld d then 0 else 2
def psnB (l : List Ps) (d : Dy) : Bool := (imgs l d.2.1).all fun x => decide (sqQ (subQ x (av d.1)) = rv d.2.2)
theorem chk_0 {l : List Ps} {m : Arc} (h : chkC l [m] = 0) : l.length = 3 ∧ l.all pvld = true ∧ avld m = true ∧ imgC l m = 0 := by
 unfold chkC at h
 by_cases h1 : threeC l = 0
 ·rw [if_neg (by omega)] at h
  have h2 : l.length = 3 ∧ l.all pvld = true := by
   unfold threeC plchk at h1
   repeat' split at h1
   all_goals first | contradiction | (try omega)
   rename_i h5
   exact ⟨by omega, by assumption⟩
  have h3 : avld m = true := by
   unfold placeC at h
   split at h
   ·rename_i h4; simpa using h4
   ·contradiction
  refine ⟨h2.1, h2.2, h3, ?_⟩
  unfold imgC
  rw [if_pos]
  rw [List.all_eq_true] at h2 ⊢
  intro p hp
  simp only [aok, h2.2 p hp, h3, Bool.and_self]
 ·rw [if_pos h1] at h; contradiction
theorem zq_pt {l : List Ps} {m : Arc} {b c : Nat} (h : okPs b l) (hw : WLA m) (hm : al m ≤ c) (i : Nat) : zq (pt i (imgs l m)) ≤ 9 * b + 2 * c + 48 := by
 unfold pt
 rw [List.getD_eq_getElem?_getD]
 unfold imgs
 rw [List.getElem?_map]
 cases hg : l[i]? with
 | none =>
  have : zq (0, 0) = 0 := by unfold zq; rw [rz_0]; rfl
  simp only [Option.map_none, Option.getD_none, this]; omega
 | some p =>
  obtain ⟨h1, h2⟩ := h p (List.mem_of_getElem? hg)
  have e := zq_app (pv p) (av m)
  have e1 : rz (pv p).1.1 ≤ rl p.1.1 := rz_rv h1.1
  have e2 : zq (pv p).2 ≤ al p.2 := av_le h1.2
  have e3 := av_le hw
  have e4 : rl p.1.1 ≤ b := Nat.le_trans (Nat.le_max_left _ _) h2
  have e5 : al p.2 ≤ b := Nat.le_trans (Nat.le_max_right _ _) h2
  simp only [Option.map_some, Option.getD_some]; omega
theorem okAs_imgs {l : List Ps} {m : Arc} {b c : Nat} (h : okPs b l) (hw : WLA m) (hm : al m ≤ c) : okAs (9 * b + 2 * c + 48) ((imgs l m).map acan) := by
 intro z hz
 obtain ⟨x, hx, rfl⟩ := List.mem_map.1 hz
 obtain ⟨i, hi, rfl⟩ := List.mem_iff_getElem.1 hx
 refine ⟨WLA_can _, ?_⟩
 have := zq_pt h hw hm i
 unfold pt at this
 rw [List.getD_eq_getElem?_getD, List.getElem?_eq_getElem hi] at this
 exact this
theorem zq_ci {p u v : V2} {b : Nat} (hu : zq u ≤ b) (hv : zq v ≤ b) : zq (ciQ p u v) ≤ zq p + 14 * b + 32 := by
 unfold ciQ
 split
 ·have : zq (0, 0) = 0 := by unfold zq; rw [rz_0]; rfl
  omega
 ·have u1 : rz u.1 ≤ zq u := Nat.le_max_left _ _
  have u2 : rz u.2 ≤ zq u := Nat.le_max_right _ _
  have v1 : rz v.1 ≤ zq v := Nat.le_max_left _ _
  have v2 : rz v.2 ≤ zq v := Nat.le_max_right _ _
  have p1 : rz p.1 ≤ zq p := Nat.le_max_left _ _
  have p2 : rz p.2 ≤ zq p := Nat.le_max_right _ _
  have su := rz_sq u
  have sv := rz_sq v
  have zc := rz_cross u v
  have zt := rz_int 2
  have zt2 : zs 2 ≤ 2 := zs_of (by decide)
  have e2 : (((2 : Int)) : Rat) = 2 := rfl
  rw [e2] at zt
  have md := rz_mul 2 (crossQ u v)
  have m1 := rz_mul (sqQ u) v.2
  have m2 := rz_mul (sqQ v) u.2
  have m3 := rz_mul (sqQ v) u.1
  have m4 := rz_mul (sqQ u) v.1
  have s1 := rz_sub (sqQ u * v.2) (sqQ v * u.2)
  have s2 := rz_sub (sqQ v * u.1) (sqQ u * v.1)
  have d1 := rz_div (sqQ u * v.2 - sqQ v * u.2) (2 * crossQ u v)
  have d2 := rz_div (sqQ v * u.1 - sqQ u * v.1) (2 * crossQ u v)
  have a1 := rz_add p.1 ((sqQ u * v.2 - sqQ v * u.2) / (2 * crossQ u v))
  have a2 := rz_add p.2 ((sqQ v * u.1 - sqQ u * v.1) / (2 * crossQ u v))
  have g : zq (ctrQ p u v) = max (rz (p.1 + (sqQ u * v.2 - sqQ v * u.2) / (2 * crossQ u v))) (rz (p.2 + (sqQ v * u.1 - sqQ u * v.1) / (2 * crossQ u v))) := rfl
  rw [g]
  exact Nat.max_le.2 ⟨by omega, by omega⟩
theorem zq_ciV {A : List V2} {c : Nat} (h0 : zq (pt 0 A) ≤ c) (h1 : zq (pt 1 A) ≤ c) (h2 : zq (pt 2 A) ≤ c) : zq (ciV A) ≤ 29 * c + 60 := by
 have u := zq_sub (pt 1 A) (pt 0 A)
 have v := zq_sub (pt 2 A) (pt 0 A)
 have := zq_ci (p := pt 0 A) (u := subQ (pt 1 A) (pt 0 A)) (v := subQ (pt 2 A) (pt 0 A)) (b := 2 * c + 2) (by omega) (by omega)
 unfold ciV; omega
theorem okAs_mono' {b c : Nat} {l : List Arc} (h : okAs b l) (hb : b ≤ c) : okAs c l := fun p hp => ⟨(h p hp).1, Nat.le_trans (h p hp).2 hb⟩
theorem okPs_mono {b c : Nat} {l : List Ps} (h : okPs b l) (hb : b ≤ c) : okPs c l := fun p hp => ⟨(h p hp).1, Nat.le_trans (h p hp).2 hb⟩
end Go.Num
namespace Go.Abs
open Go.Num
variable {P : Program} {Γ : Nat → Spec}
def dqA (d : DyQ) : AV := .agg [cb (rcan d.1.1), cn (rcan d.1.1), cd (rcan d.1.1), cb (rcan d.1.2), cn (rcan d.1.2), cd (rcan d.1.2), cb (rcan d.2.1.1), cn (rcan d.2.1.1), cd (rcan d.2.1.1), cb (rcan d.2.1.2), cn (rcan d.2.1.2), cd (rcan d.2.1.2), cb (rcan d.2.2), cn (rcan d.2.2), cd (rcan d.2.2)]
theorem dqA_eq (d : DyQ) : dqA d = .agg [cb (rcan d.1.1), cn (rcan d.1.1), cd (rcan d.1.1), cb (rcan d.1.2), cn (rcan d.1.2), cd (rcan d.1.2), cb (rcan d.2.1.1), cn (rcan d.2.1.1), cd (rcan d.2.1.1), cb (rcan d.2.1.2), cn (rcan d.2.1.2), cd (rcan d.2.1.2), cb (rcan d.2.2), cn (rcan d.2.2), cd (rcan d.2.2)] := eq_of_heq (HEq.refl _)
attribute [go_sem] dqA_eq
attribute [go_sem ↓] dqA_eq
def tline_G (tE : Nat) (l : List AV) (K : AV → Prop) : Prop :=
 match l with
 | [a, b] => onPs (fun l => onA (fun m => okPs 1000 l ∧ al m ≤ 10000 ∧ K (.tup [rQ (if lineC l m = 0 then lnA (imgs l m) else 0), rQ (if lineC l m = 0 then lnB (imgs l m) else 0), rQ (if lineC l m = 0 then lnK (imgs l m) else 0), errV tE (lineC l m)])) b) a
 | _ => False
theorem tline_Ge (tE : Nat) (a b : AV) (K : AV → Prop) : tline_G tE [a, b] K = (onPs (fun l => onA (fun m => okPs 1000 l ∧ al m ≤ 10000 ∧ K (.tup [rQ (if lineC l m = 0 then lnA (imgs l m) else 0), rQ (if lineC l m = 0 then lnB (imgs l m) else 0), rQ (if lineC l m = 0 then lnK (imgs l m) else 0), errV tE (lineC l m)])) b) a) := propext Iff.rfl
@[congr] theorem tline_Gc (tE : Nat) {K : AV → Prop} {l l' : List AV} (h : l = l') : tline_G tE l K = tline_G tE l' K := by subst h; rfl
attribute [go_sem] tline_Ge
attribute [go_sem ↓] tline_Ge
def rline_G (l : List AV) (K : AV → Prop) : Prop :=
 match l with
 | [a, b] => onPs (fun l => onA (fun m => okPs 1000 l ∧ al m ≤ 10000 ∧ l.length = 3 ∧ K (.tup [rQ (lnA (imgs l m)), rQ (lnB (imgs l m)), rQ (lnK (imgs l m)), .one (.lit (.int .i64 (lnC (imgs l m) : Nat)))])) b) a
 | _ => False
theorem rline_Ge (a b : AV) (K : AV → Prop) : rline_G [a, b] K = (onPs (fun l => onA (fun m => okPs 1000 l ∧ al m ≤ 10000 ∧ l.length = 3 ∧ K (.tup [rQ (lnA (imgs l m)), rQ (lnB (imgs l m)), rQ (lnK (imgs l m)), .one (.lit (.int .i64 (lnC (imgs l m) : Nat)))])) b) a) := propext Iff.rfl
@[congr] theorem rline_Gc {K : AV → Prop} {l l' : List AV} (h : l = l') : rline_G l K = rline_G l' K := by subst h; rfl
attribute [go_sem] rline_Ge
attribute [go_sem ↓] rline_Ge
def tcentre_G (tE : Nat) (l : List AV) (K : AV → Prop) : Prop :=
 match l with
 | [a, b] => onPs (fun l => onA (fun m => okPs 1000 l ∧ al m ≤ 10000 ∧ K (.tup [dqA (if cenC l m = 0 then cenQ (imgs l m) (av m) else d0), errV tE (cenC l m)])) b) a
 | _ => False
theorem tcentre_Ge (tE : Nat) (a b : AV) (K : AV → Prop) : tcentre_G tE [a, b] K = (onPs (fun l => onA (fun m => okPs 1000 l ∧ al m ≤ 10000 ∧ K (.tup [dqA (if cenC l m = 0 then cenQ (imgs l m) (av m) else d0), errV tE (cenC l m)])) b) a) := propext Iff.rfl
@[congr] theorem tcentre_Gc (tE : Nat) {K : AV → Prop} {l l' : List AV} (h : l = l') : tcentre_G tE l K = tcentre_G tE l' K := by subst h; rfl
attribute [go_sem] tcentre_Ge
attribute [go_sem ↓] tcentre_Ge
theorem tcentre_good (tE : Nat) : Good (tcentre_G tE) := good_of fun as => by
 unfold tcentre_G
 split
 ·exact (g_onPs fun _ => (g_onA fun _ => (.and fun _ => (.and fun _ => (.ret _)))))
 ·exact .of fun K hk => hk.elim
def tpasses_G (tE : Nat) (l : List AV) (K : AV → Prop) : Prop :=
 match l with
 | [a, b] => onPs (fun l => onDy (fun d => okPs 1000 l ∧ dl d ≤ 100000 ∧ K (.tup [.one (.lit (.bool (decide (psnC l d = 0) && psnB l d))), errV tE (psnC l d)])) b) a
 | _ => False
theorem tpasses_Ge (tE : Nat) (a b : AV) (K : AV → Prop) : tpasses_G tE [a, b] K = (onPs (fun l => onDy (fun d => okPs 1000 l ∧ dl d ≤ 100000 ∧ K (.tup [.one (.lit (.bool (decide (psnC l d = 0) && psnB l d))), errV tE (psnC l d)])) b) a) := propext Iff.rfl
@[congr] theorem tpasses_Gc (tE : Nat) {K : AV → Prop} {l l' : List AV} (h : l = l') : tpasses_G tE l K = tpasses_G tE l' K := by subst h; rfl
attribute [go_sem] tpasses_Ge
attribute [go_sem ↓] tpasses_Ge
theorem tpasses_good (tE : Nat) : Good (tpasses_G tE) := good_of fun as => by
 unfold tpasses_G
 split
 ·exact (g_onPs fun _ => (g_onDy fun _ => (.and fun _ => (.and fun _ => (.ret _)))))
 ·exact .of fun K hk => hk.elim
def ac_threepos_Centre (f0 f1 f2 f3 f4 f5 : Nat) : AC := (.seq (.ops false [.u 3 (.box 6 (.t 1)), .u 4 (.alloc [(.lit (.bool false)), .emp, .emp, (.lit (.bool false)), .emp, .emp, (.lit (.bool false)), .emp, .emp, (.lit (.bool false)), .emp, .emp, (.lit (.bool false)), .emp, .emp]), .m 5 (.c (.one (.lit .nilIface)))])
 (.fg [0, 3, 4] (.seq (.seq (.ops false [.m 10 (.t 0), .u 11 (.ld none 6 true (.t 3)), .u 12 (.row 6 [[.x 6 (.t 11)]]), .u 13 (.call f0 [(.t 10), (.t 12)]), .m 6 (.t 13)])
 (.fg [0, 3, 4, 6] (.seq (.ops false [.m 14 (.t 6), .u 15 (.binn .neq (.t 14) (.c (.one (.lit .nilIface))))])
 (.fg [0, 3, 4, 6, 15] (.cond (.t 15) (.seq (.ops false [.u 16 (.build [.z [(.lit (.bool false)), .emp, .emp, (.lit (.bool false)), .emp, .emp, (.lit (.bool false)), .emp, .emp, (.lit (.bool false)), .emp, .emp, (.lit (.bool false)), .emp, .emp]]), .m 17 (.t 6), .n (.st none 15 (.t 4) (.t 16)), .m 5 (.t 17)])
 .ret) .skip)))))
 (.fg [0, 3, 4] (.seq (.ops false [.m 19 (.t 0), .u 20 (.ld none 6 true (.t 3)), .u 21 (.call f1 [(.t 19), (.t 20)]), .m 18 (.t 21), .u 22 (.ext 0 (.t 18)), .u 23 (.ext 1 (.t 18)), .m 7 (.t 22), .m 8 (.t 23)])
 (.fg [3, 4, 7, 8] (.seq (.seq (.ops false [.m 24 (.t 8), .u 25 (.binn .neq (.t 24) (.c (.one (.lit .nilIface))))])
 (.fg [3, 4, 7, 8, 25] (.cond (.t 25) (.seq (.ops false [.u 26 (.build [.z [(.lit (.bool false)), .emp, .emp, (.lit (.bool false)), .emp, .emp, (.lit (.bool false)), .emp, .emp, (.lit (.bool false)), .emp, .emp, (.lit (.bool false)), .emp, .emp]]), .m 27 (.t 8), .n (.st none 15 (.t 4) (.t 26)), .m 5 (.t 27)])
 .ret) .skip)))
 (.fg [3, 4, 7] (.seq (.ops false [.m 29 (.t 7), .u 30 (.call f2 [(.t 29)]), .m 28 (.t 30), .u 31 (.ext 0 (.t 28)), .u 32 (.ext 1 (.t 28)), .u 9 (.alloc [(.lit (.bool false)), .emp, .emp, (.lit (.bool false)), .emp, .emp]), .n (.st none 6 (.t 9) (.t 31)), .m 8 (.t 32)])
 (.fg [3, 4, 7, 8, 9] (.seq (.seq (.ops false [.m 33 (.t 8), .u 34 (.binn .neq (.t 33) (.c (.one (.lit .nilIface))))])
 (.fg [3, 4, 7, 8, 9, 34] (.cond (.t 34) (.seq (.ops false [.u 35 (.build [.z [(.lit (.bool false)), .emp, .emp, (.lit (.bool false)), .emp, .emp, (.lit (.bool false)), .emp, .emp, (.lit (.bool false)), .emp, .emp, (.lit (.bool false)), .emp, .emp]]), .m 36 (.t 8), .n (.st none 15 (.t 4) (.t 35)), .m 5 (.t 36)])
 .ret) .skip)))
 (.fg [3, 4, 7, 9] (.seq (.ops true [.u 37 (.ld none 6 true (.t 9)), .u 38 (.ld none 6 true (.t 3)), .u 39 (.call f3 [(.t 38)]), .m 40 (.t 7), .u 41 (.idx 6 (.t 40) (.i 0)), .u 42 (.ld none 6 true (.t 41)), .u 43 (.ld none 6 true (.t 9)), .u 44 (.call f4 [(.t 42), (.t 43)]), .u 45 (.call f5 [(.t 44)]), .u 46 (.build [.x 6 (.t 37), .x 6 (.t 39), .x 3 (.t 45)]), .n (.st none 15 (.t 4) (.t 46)), .m 5 (.c (.one (.lit .nilIface)))])
 .ret)))))))))))))
def ac_threepos_Passes (f0 f1 f2 f3 f4 f5 f6 tE : Nat) : AC := (.seq (.ops false [.u 3 (.box 15 (.t 1)), .m 4 .fa, .m 5 (.c (.one (.lit .nilIface)))])
 (.fg [0, 3] (.seq (.seq (.ops false [.m 11 (.t 0), .u 12 (.call f0 [(.t 11)]), .m 6 (.t 12)])
 (.fg [0, 3, 6] (.seq (.ops false [.m 13 (.t 6), .u 14 (.binn .neq (.t 13) (.c (.one (.lit .nilIface))))])
 (.fg [0, 3, 6, 14] (.cond (.t 14) (.seq (.ops false [.m 15 (.t 6), .m 4 .fa, .m 5 (.t 15)])
 .ret) .skip)))))
 (.fg [0, 3] (.seq (.seq (.ops false [.u 16 (.fa 0 (.t 3)), .u 17 (.ld none 6 true (.t 16)), .u 18 (.call f1 [(.t 17)]), .u 19 (.un .not (.t 18)), .m 20 (.t 19), .w 21 20 false (.fa 6 (.t 3)), .w 22 20 false (.ld none 6 true (.t 21)), .w 23 20 false (.call f1 [(.t 22)]), .w 24 20 false (.un .not (.t 23)), .u 25 (.pick (.t 20) .tr (.t 24)), .m 26 (.t 25), .w 27 26 false (.fa 12 (.t 3)), .w 28 26 false (.ld none 3 true (.t 27)), .w 29 26 false (.call f2 [(.t 28)]), .w 30 26 false (.un .not (.t 29)), .u 31 (.pick (.t 26) .tr (.t 30))])
 (.fg [0, 3, 31] (.cond (.t 31) (.seq (.ops false [.u 32 (.iface tE (.i 2)), .m 4 .fa, .m 5 (.t 32)])
 .ret) .skip)))
 (.fg [0, 3] (.seq (.ops false [.m 34 (.t 0), .u 35 (.fa 6 (.t 3)), .u 36 (.ld none 6 true (.t 35)), .u 37 (.call f3 [(.t 34), (.t 36)]), .m 33 (.t 37), .u 38 (.ext 0 (.t 33)), .u 39 (.ext 1 (.t 33)), .m 7 (.t 38), .m 8 (.t 39)])
 (.fg [3, 7, 8] (.seq (.seq (.ops false [.m 40 (.t 8), .u 41 (.binn .neq (.t 40) (.c (.one (.lit .nilIface))))])
 (.fg [3, 7, 8, 41] (.cond (.t 41) (.seq (.ops false [.m 42 (.t 8), .m 4 .fa, .m 5 (.t 42)])
 .ret) .skip)))
 (.fg [3, 7] (.seq (.seq (.ops false [.m 43 (.t 7), .u 44 (.len (.t 43)), .m 45 (.i 0)])
 (.fg [3, 43, 44, 45] (.block 0 (.loop (.seq (.ops false [.u 46 (.bin .lss (.t 45) (.t 44))])
 (.fg [3, 43, 44, 45, 46] (.seq (.cond (.t 46) .skip (.exit 0))
 (.fg [3, 43, 44, 45] (.seq (.block 1 (.seq (.ops false [.u 47 (.idx 6 (.t 43) (.t 45)), .u 48 (.ld none 6 true (.t 47)), .u 10 (.alloc [(.lit (.bool false)), .emp, .emp, (.lit (.bool false)), .emp, .emp]), .n (.st none 6 (.t 10) (.t 48))])
 (.fg [3, 10, 43, 44, 45] (.seq (.ops true [.u 49 (.ld none 6 true (.t 10)), .u 50 (.fa 0 (.t 3)), .u 51 (.ld none 6 true (.t 50)), .u 52 (.call f4 [(.t 49), (.t 51)]), .u 53 (.call f5 [(.t 52)]), .u 54 (.fa 12 (.t 3)), .u 55 (.ld none 3 true (.t 54)), .u 56 (.call f6 [(.t 53), (.t 55)]), .u 57 (.bin .neq (.t 56) (.i 0))])
 (.fg [3, 43, 44, 45, 57] (.cond (.t 57) (.seq (.ops false [.m 4 .fa, .m 5 (.c (.one (.lit .nilIface)))])
 .ret) .skip))))))
 (.fg [3, 43, 44, 45] (.ops false [.u 58 (.bin .add (.t 45) (.i 1)), .m 45 (.t 58)])))))))))))
 (.fg [] (.seq (.ops false [.m 4 .tr, .m 5 (.c (.one (.lit .nilIface)))])
 .ret)))))))))))))
theorem rcmpW_sound (hΓ : Holds P Γ) {f fp fm fc : Nat} (hp : Γ fp = .dat false rparts_G) (hm : Γ fm = .dat false zmul_G) (hc' : Γ fc = .dat true zcmp_G) (hc : check P f = some (26, (ac_fraction_Cmp fp fm fc).strip, [.tmp 4])) : Sound P f (.dat true rcmp02_G) := by
 refine sound_dat hc rcmp02_good hΓ (fun args K hcl hfi hG => ?_)
 match args, hG with
 | [a, b], hG =>
  obtain ⟨x, rfl, hx, y, rfl, hy, hl, hl', hK⟩ := hG
  refine ⟨by simp, ?_⟩
  simp only [go_sem, ac_fraction_Cmp, hp, hm, hc', hx, hy]
  have n1 := num_le hx
  have d1 := den_le hx
  have n2 := num_le hy
  have d2 := den_le hy
  rw [← ordQ_eq]
  exact ⟨by omega, by omega, by omega, by omega, by omega, by omega, hK⟩
theorem tcentre_sound (hΓ : Holds P Γ) {f fk fi fc fn fs fq tE : Nat} (hk : Γ fk = .dat false (tchk3_G tE)) (hi : Γ fi = .dat false (pimgs_G tE)) (hx : Γ fc = .dat false (pcirc_G tE)) (hn : Γ fn = .dat false pclone_G) (hs : Γ fs = .dat false pless_G) (hq' : Γ fq = .dat false psq_G) (hc : check P f = some (47, (ac_threepos_Centre fk fi fc fn fs fq).strip, [.cell 4 15 true, .tmp 5])) : Sound P f (.dat false (tcentre_G tE)) := by
 refine sound_dat hc (tcentre_good tE) hΓ (fun args K hcl hfi hG => ?_)
 match args, hG with
 | [a, b], hG =>
  obtain ⟨l, rfl, hwl, m, rfl, hwm, hok, hm, hK⟩ := hG
  refine ⟨by simp, ?_⟩
  have ok1 := okPs_mono hok (by decide : 1000 ≤ 100000000)
  have ok2 := okPs_mono hok (by decide : 1000 ≤ 1000000)
  have om : okAs 100000000 [(m.1, m.2)] := fun z hz => by rw [List.mem_singleton.1 hz]; exact ⟨hwm, by have e : al (m.1, m.2) = al m := rfl; omega⟩
  have hm2 : al (m.1, m.2) ≤ 1000000 := by have e : al (m.1, m.2) = al m := rfl; omega
  have hm1 : al m ≤ 1000000 := by omega
  have hm3 : al m ≤ 100000000 := by omega
  have om1 : okAs 100000000 [m] := om
  by_cases h0 : chkC l [m] = 0
  ·obtain ⟨h3, hv, ha, hi0⟩ := chk_0 h0
   have hA := okAs_imgs hok hwm hm
   have hz0 := zq_pt hok hwm hm 0
   have hz1 := zq_pt hok hwm hm 1
   have hz2 := zq_pt hok hwm hm 2
   have hla := imgs_len l m
   have hle : l.length ≤ 100000 := by omega
   have hwA := WLA_cans (imgs l m)
   have hA1 := okAs_mono' hA (by decide : _ ≤ 1000000)
   have hci := zq_ciV hz0 hz1 hz2
   have ec : cenC l m = if crV (imgs l m) = 0 then 8 else 0 := by unfold cenC; rw [if_neg (by omega)]
   rw [ec] at hK
   obtain ⟨A, hAA⟩ : ∃ A, imgs l m = A := ⟨_, rfl⟩
   rw [hAA] at hK hA hz0 hz1 hz2 hla hwA hA1 hci
   have g4 : 3 ≤ A.length := by omega
   have e1 : (if imgC l m = 0 then A else []) = A := if_pos hi0
   have g3 : 3 ≤ (A.map acan).length := by rw [List.length_map]; omega
   have g0 : 0 < A.length := by omega
   by_cases hcr : crV A = 0
   ·rw [if_pos hcr, if_neg (by decide), errV_s tE (by decide), dqA_eq] at hK
    unfold d0 at hK
    rw [rcan_zero] at hK
    simp only [go_sem, ac_threepos_Centre, hk, hi, hx, hn, hs, hq', aC_eq, mk_eta, h0, hi0, hAA, e1, errV_0, crL_can, ciL_can, hcr, errV_s tE (by decide : 8 ≠ 0)]
    repeat (first | (refine And.intro (by omega) ?_) | (refine And.intro (by assumption) ?_) | (refine And.intro rfl ?_) | (refine And.intro ⟨rfl, by omega⟩ ?_) | (refine And.intro ⟨rfl, by omega, by omega⟩ ?_) | (intro _))
    exact hK
   ·rw [if_neg hcr, if_pos rfl, errV_0] at hK
    simp only [go_sem, ac_threepos_Centre, hk, hi, hx, hn, hs, hq', aC_eq, mk_eta, h0, hi0, hAA, e1, errV_0, crL_can, ciL_can, hcr, List.length_map, g0, getD_can, acan_mk, av_mk, rv_rcan]
    have c1 : al (rcan (pt 0 A).1, rcan (pt 0 A).2) = zq (pt 0 A) := rfl
    have c2 : al (rcan (ciV A).1, rcan (ciV A).2) = zq (ciV A) := rfl
    have c3 : al (rcan (subQ (pt 0 A) (ciV A)).1, rcan (subQ (pt 0 A) (ciV A)).2) = zq (subQ (pt 0 A) (ciV A)) := rfl
    have c4 := zq_sub (pt 0 A) (ciV A)
    rw [c1, c2, c3]
    repeat (first | (refine And.intro (by omega) ?_) | (refine And.intro (by assumption) ?_) | (refine And.intro rfl ?_) | (refine And.intro ⟨rfl, by omega⟩ ?_) | (refine And.intro ⟨rfl, by omega, by omega⟩ ?_) | (intro _))
    exact hK
  ·have ec : cenC l m = chkC l [m] := by unfold cenC; rw [if_pos h0]
   rw [ec, if_neg h0, errV_s tE h0, dqA_eq] at hK
   unfold d0 at hK
   rw [rcan_zero] at hK
   simp only [go_sem, ac_threepos_Centre, hk, aC_eq, mk_eta, errV_s tE h0]
   repeat (first | (refine And.intro (by omega) ?_) | (refine And.intro (by assumption) ?_) | (refine And.intro rfl ?_) | (refine And.intro ⟨rfl, by omega⟩ ?_) | (refine And.intro ⟨rfl, by omega, by omega⟩ ?_) | (intro _))
   exact hK
theorem okB_d {h h' : Nat → HB} {z : Nat} {b : Bool} {d : Dy} : okB h h' (some ⟨[dC d], z, b⟩) (some ⟨[dC d], z, b⟩) :=
 ⟨⟨rfl, rfl⟩, .inl ⟨rfl, fun e he c hc => by
  rw [List.mem_singleton.1 he] at hc
  simp only [dC, List.mem_cons, List.not_mem_nil, or_false] at hc
  rcases hc with rfl | rfl | rfl | rfl | rfl | rfl | rfl | rfl | rfl | rfl | rfl | rfl | rfl | rfl | rfl
  all_goals first | exact of_eq_true (clean_cb _) | exact of_eq_true (clean_cn _) | exact of_eq_true (clean_cd _)⟩⟩
theorem tpasses_sound (hΓ : Holds P Γ) {f fk fv fw fi fs fq fc tE : Nat} (hk : Γ fk = .dat false (plCk_G tE)) (hv : Γ fv = .dat true pvalid_G) (hw : Γ fw = .dat true rvalid_G) (hi : Γ fi = .dat false (pimgs_G tE)) (hs : Γ fs = .dat false pless_G) (hq' : Γ fq = .dat false psq_G) (hcm : Γ fc = .dat true rcmp02_G) (hc : check P f = some (59, (ac_threepos_Passes fk fv fw fi fs fq fc tE).strip, [.tmp 4, .tmp 5])) : Sound P f (.dat false (tpasses_G tE)) := by
 refine sound_dat hc (tpasses_good tE) hΓ (fun args K hcl hfi hG => ?_)
 match args, hG with
 | [a, b], hG =>
  obtain ⟨l, rfl, hwl, d, rfl, hwd, hok, hd, hK⟩ := hG
  refine ⟨by simp, ?_⟩
  obtain ⟨c, m, r⟩ := d
  obtain ⟨hwc, hwm, hwr⟩ := hwd
  have dc : al c ≤ 100000 := Nat.le_trans (Nat.le_max_left _ _) hd
  have dm : al m ≤ 100000 := Nat.le_trans (Nat.le_trans (Nat.le_max_left _ _) (Nat.le_max_right _ _)) hd
  have dr : rl r ≤ 100000 := Nat.le_trans (Nat.le_trans (Nat.le_max_right _ _) (Nat.le_max_right _ _)) hd
  simp only at hwc hwm hwr
  have ok1 := okPs_mono hok (by decide : 1000 ≤ 100000000)
  have ok2 := okPs_mono hok (by decide : 1000 ≤ 1000000)
  by_cases h0 : plchk l = 0
  ·cases hdv : dvld (c, m, r) with
   | false =>
    have ec : psnC l (c, m, r) = 2 := by unfold psnC; rw [if_neg (by omega), hdv, if_neg (by decide)]
    rw [ec, errV_s tE (by decide)] at hK
    have p0 : decide (2 = 0) = false := rfl
    rw [p0, Bool.false_and] at hK
    unfold dvld at hdv
    simp only at hdv
    cases h1 : avld c with
    | false =>
     simp only [go_sem, ac_threepos_Passes, hk, hv, hw, h0, errV_0, dA, dC, mk_eta, h1]
     repeat (first | (refine And.intro (by omega) ?_) | (refine And.intro (by assumption) ?_) | (refine And.intro rfl ?_) | (refine And.intro ⟨rfl, by omega⟩ ?_) | (refine And.intro ⟨rfl, by omega, by omega⟩ ?_) | (intro _))
     exact hK
    | true =>
     cases h2 : avld m with
     | false =>
      simp only [go_sem, ac_threepos_Passes, hk, hv, hw, h0, errV_0, dA, dC, mk_eta, h1, h2]
      repeat (first | (refine And.intro (by omega) ?_) | (refine And.intro (by assumption) ?_) | (refine And.intro rfl ?_) | (refine And.intro ⟨rfl, by omega⟩ ?_) | (refine And.intro ⟨rfl, by omega, by omega⟩ ?_) | (intro _))
      exact hK
     | true =>
      have h4 : vldR r = false := by rw [h1, h2, Bool.true_and, Bool.true_and] at hdv; exact hdv
      simp only [go_sem, ac_threepos_Passes, hk, hv, hw, h0, errV_0, dA, dC, mk_eta, h1, h2, h4]
      repeat (first | (refine And.intro (by omega) ?_) | (refine And.intro (by assumption) ?_) | (refine And.intro rfl ?_) | (refine And.intro ⟨rfl, by omega⟩ ?_) | (refine And.intro ⟨rfl, by omega, by omega⟩ ?_) | (intro _))
      exact hK
   | true =>
    have ec : psnC l (c, m, r) = 0 := by unfold psnC; rw [if_neg (by omega), hdv, if_pos rfl]
    have p0 : decide (0 = 0) = true := rfl
    rw [ec, p0, Bool.true_and, errV_0] at hK
    unfold dvld at hdv
    simp only [Bool.and_eq_true] at hdv
    obtain ⟨h1, h2, h4⟩ := hdv
    have hall : l.all pvld = true := by
     unfold plchk at h0
     repeat' split at h0
     all_goals first | contradiction | assumption
    have hi0 : imgC l m = 0 := by
     unfold imgC
     rw [if_pos]
     rw [List.all_eq_true] at hall ⊢
     intro p hp
     simp only [aok, hall p hp, h2, Bool.and_self]
    have hlen : l.length ≤ 5 := by
     unfold plchk at h0
     repeat' split at h0
     all_goals first | contradiction | omega
    have hA := okAs_imgs hok hwm dm
    have hla := imgs_len l m
    have hzz := zq_pt hok hwm dm
    have hwA := WLA_cans (imgs l m)
    unfold psnB at hK
    obtain ⟨A, hAA⟩ : ∃ A, imgs l m = A := ⟨_, rfl⟩
    simp only at hK
    rw [hAA] at hK hA hla hzz hwA
    have e1 : (if imgC l m = 0 then A else []) = A := if_pos hi0
    have dm1 : al m ≤ 1000000 := by omega
    have hl1 : l.length ≤ 100000 := by omega
    simp only [go_sem, ac_threepos_Passes, hk, hv, hw, hi, h0, errV_0, dA, dC, mk_eta, h1, h2, h4, hi0, hAA, e1]
    repeat (first | (refine And.intro (by omega) ?_) | (refine And.intro (by assumption) ?_) | (refine And.intro rfl ?_) | (refine And.intro ⟨rfl, by omega⟩ ?_) | (refine And.intro ⟨rfl, by omega, by omega⟩ ?_) | (intro _))
    refine wpA_loop (fun k : Nat => ⟨mkV [(3, .one (.ptr 3 1 0 0)), (43, qsA A), (44, .one (.lit (.int .i64 (A.map acan).length))), (45, .one (.lit (.int .i64 k)))], mkH [(3, ⟨1, some ⟨[dC (c, m, r)], 15, true⟩⟩)]⟩) (fun k => k ≤ A.length ∧ (A.take k).all (fun x => decide (sqQ (subQ x (av c)) = rv r)) = true) (fun k => A.length - k) 0 ?_ ?_ ?_
    ·exact weak_lit (by simp [okS, okV, okC, okL, okH, okB, okE, mkV_cons, mkV_nil, mkH_cons, mkH_nil, wsA, ws, qsA]) ⟨okB_d (d := (c, m, r)), trivial⟩
    ·exact ⟨Nat.zero_le _, rfl⟩
    ·rintro k ⟨hkl, hal⟩
     by_cases hlt : k < A.length
     ·have hx0 : A[k]? = some (pt k A) := getD_get hlt rfl
      have hzx := hzz k
      obtain ⟨x, hx⟩ : ∃ x, pt k A = x := ⟨_, rfl⟩
      rw [hx] at hx0 hzx
      have c1 : al (rcan x.1, rcan x.2) = zq x := rfl
      have c2 : al (rcan (subQ x (av c)).1, rcan (subQ x (av c)).2) = zq (subQ x (av c)) := rfl
      have c3 := zq_sub x (av c)
      have c4 := av_le hwc
      have c5 := rz_sq (subQ x (av c))
      cases hb : decide (sqQ (subQ x (av c)) = rv r) with
      | true =>
       have ho : ordQ (sqQ (subQ x (av c))) (rv r) = 0 := ordQ_eq0.2 (of_decide_eq_true hb)
       simp only [go_sem, hs, hq', hcm, hlt, dC, List.length_map, getD_can, acan_mk, av_mk, rv_rcan, mk_eta, hx, c1, c2, ho, aC_eq]
       repeat (first | (refine And.intro (by omega) ?_) | (refine And.intro (by assumption) ?_) | (refine And.intro rfl ?_) | (refine And.intro ⟨rfl, by omega⟩ ?_) | (refine And.intro ⟨rfl, by omega, by omega⟩ ?_) | (intro _))
       exact ⟨k + 1, weak_lit (by simp [okS, okV, okC, okL, okH, okB, okE, mkV_cons, mkV_nil, mkH_cons, mkH_nil, wsA, ws]) ⟨okB_d (d := (c, m, r)), trivial⟩, ⟨by omega, all_step hx0 hal hb⟩, by omega⟩
      | false =>
       have ho : ¬ ordQ (sqQ (subQ x (av c))) (rv r) = 0 := fun h => of_decide_eq_false hb (ordQ_eq0.1 h)
       rw [all_f hx0 hb] at hK
       simp only [go_sem, hs, hq', hcm, hlt, dC, List.length_map, getD_can, acan_mk, av_mk, rv_rcan, mk_eta, hx, c1, c2, ho, aC_eq]
       repeat (first | (refine And.intro (by omega) ?_) | (refine And.intro (by assumption) ?_) | (refine And.intro rfl ?_) | (refine And.intro ⟨rfl, by omega⟩ ?_) | (refine And.intro ⟨rfl, by omega, by omega⟩ ?_) | (intro _))
       exact hK
     ·rw [List.take_of_length_le (by omega)] at hal
      rw [hal] at hK
      simp only [go_sem, hlt, List.length_map]
      exact hK
  ·have ec : psnC l (c, m, r) = plchk l := by unfold psnC; rw [if_pos h0]
   rw [ec, decide_eq_false h0, Bool.false_and, errV_s tE h0] at hK
   simp only [go_sem, ac_threepos_Passes, hk, errV_s tE h0, dA, dC]
   repeat (first | (refine And.intro (by omega) ?_) | (refine And.intro (by assumption) ?_) | (refine And.intro rfl ?_) | (refine And.intro ⟨rfl, by omega⟩ ?_) | (refine And.intro ⟨rfl, by omega, by omega⟩ ?_) | (intro _))
   exact hK
end Go.Abs
end
section
set_option linter.unusedVariables false
set_option linter.unusedSimpArgs false
set_option maxRecDepth 100000
namespace Go.Num
open Go.Abs
def exPs : List Ps := [((rcan 0, false), (rcan 0, rcan 0)), ((rcan 0, false), (rcan 2, rcan 0)), ((rcan 0, true), (rcan 2, rcan 2))]
def o2 : Arc := (rcan 0, rcan 0)
theorem rz_2 : rz 2 ≤ 2 := by
 have zt := rz_int 2
 have zt2 : zs 2 ≤ 2 := zs_of (by decide)
 have e2 : (((2 : Int)) : Rat) = 2 := rfl
 rw [e2] at zt
 omega
theorem al_o2 : al o2 = 0 := by unfold o2; rw [al_can, rz_0]; rfl
theorem ok_ex : okPs 1000 exPs := by
 have z2 := rz_2
 intro p hp
 simp only [exPs, List.mem_cons, List.not_mem_nil, or_false] at hp
 rcases hp with rfl | rfl | rfl
 all_goals
  refine ⟨⟨WLR_rcan _, WLR_rcan _, WLR_rcan _⟩, ?_⟩
  simp only [pl, al_can]
  refine Nat.max_le.2 ⟨by show rz 0 ≤ 1000; rw [rz_0]; omega, ?_⟩
  first | (rw [rz_0]; omega) | omega
theorem wl_ex : ∀ p ∈ exPs, WLP p := fun p hp => (ok_ex p hp).1
theorem vld_ex : exPs.all pvld = true := by
 simp only [exPs, List.all_cons, List.all_nil, pvld, avld, tchk_can, vld_rcan]
 decide
theorem imgs_ex : imgs exPs o2 = [(0, 0), (2, 0), (2, 2)] := by
 simp only [imgs, exPs, o2, List.map_cons, List.map_nil, pv, tv, av, rv_rcan, appQ, rotQ, addQ]
 simp only [List.cons.injEq, Prod.mk.injEq, and_true]
 refine ⟨⟨by grind, by grind⟩, ⟨by grind, by grind⟩, by grind, by grind⟩
theorem chk_ex : chkC exPs [o2] = 0 := by
 have e1 : plchk exPs = 0 := by unfold plchk; rw [if_neg (by decide), if_neg (by decide), vld_ex, if_pos rfl]
 have e2 : threeC exPs = 0 := by unfold threeC; rw [e1, if_neg (by decide), if_pos (by decide)]
 unfold chkC placeC
 rw [e2, if_neg (by decide), if_pos]
 simp only [List.all_cons, List.all_nil, avld, o2, vld_rcan]
 decide
theorem cen_ex : cenC exPs o2 = 0 := by
 unfold cenC
 rw [chk_ex, if_neg (by decide), imgs_ex, if_neg]
 decide +kernel
theorem cenQ_ex : cenQ (imgs exPs o2) (av o2) = ((1, 1), (0, 0), 2) := by
 rw [imgs_ex]
 have : av o2 = (0, 0) := by unfold o2 av; simp only [rv_rcan]
 rw [this]
 decide +kernel
def exD (r : Rat) : Dy := ((rcan 1, rcan 1), (rcan 0, rcan 0), rcan r)
theorem pas_ex (r : Rat) : psnC exPs (exD r) = 0 := by
 have e1 : plchk exPs = 0 := by unfold plchk; rw [if_neg (by decide), if_neg (by decide), vld_ex, if_pos rfl]
 unfold psnC
 rw [e1, if_neg (by decide), if_pos]
 simp only [dvld, exD, avld, vld_rcan]
 decide
theorem pasB_ex (r : Rat) : psnB exPs (exD r) = decide (2 = r) := by
 have e := imgs_ex
 unfold o2 at e
 unfold psnB exD
 simp only
 rw [e]
 have a1 : av (rcan 1, rcan 1) = (1, 1) := by unfold av; simp only [rv_rcan]
 have s1 : sqQ (subQ (0, 0) (1, 1)) = 2 := by decide +kernel
 have s2 : sqQ (subQ (2, 0) (1, 1)) = 2 := by decide +kernel
 have s3 : sqQ (subQ (2, 2) (1, 1)) = 2 := by decide +kernel
 rw [a1]
 simp only [List.all_cons, List.all_nil, s1, s2, s3, rv_rcan, Bool.and_true, Bool.and_self]
end Go.Num
namespace Go.Abs
open Go.Num
variable {P : Program} {Γ : Nat → Spec}
def ex46_G (l : List AV) (K : AV → Prop) : Prop :=
 match l with
 | [] => K (psA exPs)
 | _ => False
theorem ex46_Ge (K : AV → Prop) : ex46_G [] K = (K (psA exPs)) := propext Iff.rfl
@[congr] theorem ex46_Gc {K : AV → Prop} {l l' : List AV} (h : l = l') : ex46_G l K = ex46_G l' K := by subst h; rfl
attribute [go_sem] ex46_Ge
attribute [go_sem ↓] ex46_Ge
theorem ex46_good : Good ex46_G := good_of fun as => by
 unfold ex46_G
 split
 ·exact (.ret _)
 ·exact .of fun K hk => hk.elim
def awk46_G (l : List AV) (K : AV → Prop) : Prop :=
 match l with
 | [] => K (.one (.lit (.bool true)))
 | _ => False
theorem awk46_Ge (K : AV → Prop) : awk46_G [] K = (K (.one (.lit (.bool true)))) := propext Iff.rfl
@[congr] theorem awk46_Gc {K : AV → Prop} {l l' : List AV} (h : l = l') : awk46_G l K = awk46_G l' K := by subst h; rfl
attribute [go_sem] awk46_Ge
attribute [go_sem ↓] awk46_Ge
theorem awk46_good : Good awk46_G := good_of fun as => by
 unfold awk46_G
 split
 ·exact (.ret _)
 ·exact .of fun K hk => hk.elim
def lLines_G (l : List AV) (K : AV → Prop) : Prop :=
 match l with
 | [a, b] => onPs (fun l => onA (fun m => okPs 1048576 l ∧ al m ≤ 1048576 ∧ K (.one (.lit (.bool true)))) b) a
 | _ => False
theorem lLines_Ge (a b : AV) (K : AV → Prop) : lLines_G [a, b] K = (onPs (fun l => onA (fun m => okPs 1048576 l ∧ al m ≤ 1048576 ∧ K (.one (.lit (.bool true)))) b) a) := propext Iff.rfl
@[congr] theorem lLines_Gc {K : AV → Prop} {l l' : List AV} (h : l = l') : lLines_G l K = lLines_G l' K := by subst h; rfl
attribute [go_sem] lLines_Ge
attribute [go_sem ↓] lLines_Ge
def ac_linkworklaw46_Example (f0 : Nat) : AC := (.seq (.ops false [.m 0 (.c (.one .emp))])
 (.fg [] (.seq (.ops false [.u 2 (.call f0 [(.i 2)]), .u 1 (.alloc [(.lit (.bool false)), .emp, .emp]), .n (.st none 3 (.t 1) (.t 2))])
 (.fg [1] (.seq (.ops false [.u 3 (.build [.z [(.lit (.bool false)), .emp, .emp, (.lit (.bool false)), (.lit (.bool false)), .emp, .emp, (.lit (.bool false)), .emp, .emp]]), .u 4 (.ld none 3 true (.t 1)), .u 5 (.build [.x 3 (.t 4), .z [(.lit (.bool false)), .emp, .emp]]), .u 6 (.build [.z [(.lit (.bool false)), .emp, .emp, (.lit (.bool false))], .x 6 (.t 5)]), .u 7 (.build [.z [(.lit (.bool false)), .emp, .emp], .x 1 .tr]), .u 8 (.ld none 3 true (.t 1)), .u 9 (.ld none 3 true (.t 1)), .u 10 (.build [.x 3 (.t 8), .x 3 (.t 9)]), .u 11 (.build [.x 4 (.t 7), .x 6 (.t 10)]), .u 12 (.row 10 [[.x 10 (.t 3)], [.x 10 (.t 6)], [.x 10 (.t 11)]]), .m 0 (.t 12)])
 .ret)))))
def ac_linkworklaw46_awake (f0 f1 f2 f3 f4 : Nat) : AC := (.seq (.ops false [.m 0 .fa])
 (.fg [] (.seq (.ops false [.u 8 (.call f0 []), .u 9 (.build [.z [(.lit (.bool false)), .emp, .emp, (.lit (.bool false)), .emp, .emp]]), .u 10 (.call f1 [(.t 8), (.t 9)]), .m 7 (.t 10), .u 11 (.ext 0 (.t 7)), .u 12 (.ext 1 (.t 7)), .u 1 (.alloc [(.lit (.bool false)), .emp, .emp, (.lit (.bool false)), .emp, .emp, (.lit (.bool false)), .emp, .emp, (.lit (.bool false)), .emp, .emp, (.lit (.bool false)), .emp, .emp]), .n (.st none 15 (.t 1) (.t 11)), .m 2 (.t 12)])
 (.fg [1, 2] (.seq (.ops true [.u 14 (.call f0 []), .u 15 (.ld none 15 true (.t 1)), .u 16 (.call f2 [(.t 14), (.t 15)]), .m 13 (.t 16), .u 17 (.ext 0 (.t 13)), .u 18 (.ext 1 (.t 13)), .m 3 (.t 17), .m 4 (.t 18)])
 (.fg [1, 2, 3, 4] (.seq (.ops false [.u 19 (.call f3 [(.i 3)]), .u 20 (.fa 12 (.t 1)), .n (.st none 3 (.t 20) (.t 19))])
 (.fg [1, 2, 3, 4] (.seq (.ops true [.u 22 (.call f0 []), .u 23 (.ld none 15 true (.t 1)), .u 24 (.call f2 [(.t 22), (.t 23)]), .m 21 (.t 24), .u 25 (.ext 0 (.t 21)), .u 26 (.ext 1 (.t 21)), .m 5 (.t 25), .m 6 (.t 26)])
 (.fg [1, 2, 3, 4, 5, 6] (.seq (.ops false [.m 27 (.t 2), .u 28 (.binn .eql (.t 27) (.c (.one (.lit .nilIface)))), .m 29 (.t 28), .w 30 29 true (.mv (.t 4)), .w 31 29 true (.binn .eql (.t 30) (.c (.one (.lit .nilIface)))), .u 32 (.pick (.t 29) (.t 31) .fa), .m 33 (.t 32), .w 34 33 true (.mv (.t 6)), .w 35 33 true (.binn .eql (.t 34) (.c (.one (.lit .nilIface)))), .u 36 (.pick (.t 33) (.t 35) .fa), .m 37 (.t 36), .w 38 37 true (.mv (.t 3)), .u 39 (.pick (.t 37) (.t 38) .fa), .m 40 (.t 39), .w 41 40 true (.mv (.t 5)), .w 42 40 true (.un .not (.t 41)), .u 43 (.pick (.t 40) (.t 42) .fa), .m 44 (.t 43), .w 45 44 true (.fa 0 (.t 1)), .w 46 44 true (.fa 0 (.t 45)), .w 47 44 true (.ld none 3 true (.t 46)), .w 48 44 true (.call f4 [(.t 47)]), .w 49 44 true (.sop 1 [(.t 48), (.c (.one (.lit (.string ⟨#[49]⟩))))]), .u 50 (.pick (.t 44) (.t 49) .fa), .m 51 (.t 50), .w 52 51 true (.fa 0 (.t 1)), .w 53 51 true (.fa 3 (.t 52)), .w 54 51 true (.ld none 3 true (.t 53)), .w 55 51 true (.call f4 [(.t 54)]), .w 56 51 true (.sop 1 [(.t 55), (.c (.one (.lit (.string ⟨#[49]⟩))))]), .u 57 (.pick (.t 51) (.t 56) .fa), .m 0 (.t 57)])
 .ret)))))))))))
theorem ex46_sound (hΓ : Holds P Γ) {f fo : Nat} (ho : Γ fo = .dat false rof_G) (hc : check P f = some (13, (ac_linkworklaw46_Example fo).strip, [.tmp 0])) : Sound P f (.dat false ex46_G) := by
 refine sound_dat hc ex46_good hΓ (fun args K hcl hfi hG => ?_)
 match args, hG with
 | [], hG =>
  have hK := hG
  simp only [ex46_G, psA, psC, exPs, List.map_cons, List.map_nil, pC, rcan_zero] at hK
  refine ⟨by simp, ?_⟩
  have e2 : (((2 : Int)) : Rat) = 2 := rfl
  simp only [go_sem, ac_linkworklaw46_Example, ho, e2]
  repeat (first | (refine And.intro (by omega) ?_) | (refine And.intro (by assumption) ?_) | (refine And.intro rfl ?_) | (refine And.intro ⟨rfl, by omega⟩ ?_) | (refine And.intro ⟨rfl, by omega, by omega⟩ ?_) | (intro _))
  exact hK
theorem awk46_sound (hΓ : Holds P Γ) {f fe fc fp fo ft tE : Nat} (he : Γ fe = .dat false ex46_G) (hx : Γ fc = .dat false (tcentre_G tE)) (hp : Γ fp = .dat false (tpasses_G tE)) (ho : Γ fo = .dat false rof_G) (ht : Γ ft = .dat false rtext_G) (hc : check P f = some (58, (ac_linkworklaw46_awake fe fc fp fo ft).strip, [.tmp 0])) : Sound P f (.dat true awk46_G) := by
 refine sound_dat hc awk46_good hΓ (fun args K hcl hfi hG => ?_)
 match args, hG with
 | [], hG =>
  have hK := hG
  simp only [awk46_G] at hK
  refine ⟨by simp, ?_⟩
  have o2e : ((rcan 0, rcan 0) : Arc) = o2 := rfl
  have dde : ∀ r : Rat, (((rcan 1, rcan 1), (rcan 0, rcan 0), rcan r) : Dy) = exD r := fun _ => rfl
  have dde' : ∀ r : Rat, (((rcan 1, rcan 1), o2, rcan r) : Dy) = exD r := fun _ => rfl
  have e3 : (((3 : Int)) : Rat) = 3 := rfl
  have cq := cenQ_ex
  have b2 : psnB exPs (exD 2) = true := by rw [pasB_ex]; rfl
  have b3 : psnB exPs (exD 3) = false := by rw [pasB_ex]; decide
  simp only [go_sem, ac_linkworklaw46_awake, he, hx, hp, ho, ht, o2e, dde, dde', e3, cq, cen_ex, pas_ex, errV_0, b2, b3, rv_rcan, al_o2, Bool.and_true, Bool.and_false, Bool.true_and, Bool.false_and]
  have st : ((⟨#[49]⟩ : ByteArray).toList == (⟨#[49]⟩ : ByteArray).toList) = true := beq_self_eq_true _
  rw [st]
  have w2 : ∀ r, WLD (exD r) := fun r => ⟨⟨WLR_rcan _, WLR_rcan _⟩, ⟨WLR_rcan _, WLR_rcan _⟩, WLR_rcan _⟩
  have i1 := rz_1
  have i2 := rz_2
  have i3 := rz_int 3
  have i4 : zs 3 ≤ 2 := zs_of (by decide)
  rw [e3] at i3
  have l2 : ∀ r, rz r ≤ 5 → dl (exD r) ≤ 100000 := fun r hr => by
   have e1 : dl (exD r) = max (max (rz 1) (rz 1)) (max (max (rz 0) (rz 0)) (rz r)) := rfl
   rw [e1, rz_0]; omega
  exact ⟨wl_ex, ok_ex, wl_ex, w2 _, ok_ex, l2 _ (by omega), by decide, by decide, wl_ex, w2 _, ok_ex, l2 _ (by omega), by omega, fun _ => ⟨by omega, hK⟩, fun h => by contradiction⟩
theorem chk_place {l : List Ps} {m : Arc} (h : threeC l = 0) : chkC l [m] = if avld m = true then 0 else 2 := by
 unfold chkC placeC
 rw [if_neg (by omega)]
 cases hm : avld m <;> simp [hm]
theorem short_ok {l : List Ps} (hw : ∀ p ∈ l, WLP p) (h : l.all sP = true) : okPs 2 l := by
 intro p hp
 have hs := List.all_eq_true.1 h p hp
 simp only [sP, Bool.and_eq_true] at hs
 exact ⟨hw p hp, Nat.max_le.2 ⟨sR_rl hs.1, Nat.max_le.2 ⟨sR_rl hs.2.1, sR_rl hs.2.2⟩⟩⟩
theorem short_al {m : Arc} (h : sA m = true) : al m ≤ 2 := by
 simp only [sA, Bool.and_eq_true] at h
 exact Nat.max_le.2 ⟨sR_rl h.1, sR_rl h.2⟩
end Go.Abs
end
