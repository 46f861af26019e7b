/- The sum: the program's, whole. No condition. -/
import Derived.Test.YtncmmcmmdidmaaaGreatDoorS8
set_option linter.all false
set_option maxRecDepth 20000
set_option maxHeartbeats 2000000
set_option linter.unusedSimpArgs false
namespace Go.AM
theorem reps_sing (v : Value) : ∀ n, reps [v] n = List.replicate n v
  | 0 => rfl
  | n + 1 => by simp only [reps, reps_sing v n, List.replicate_succ]; rfl
theorem set_mid {l : List Value} {d : Nat} {z v : Value} : (l ++ List.replicate (d + 1) z).set l.length v = (l ++ [v]) ++ List.replicate d z := by
  rw [List.set_append_right _ _ (Nat.le_refl _), List.replicate_succ]
  simp
theorem fl_noNew (L : Nat) (xs : List Nat) : (fl xs).all (noNew1 L) = true := by simp [fl, noNew1]
theorem Glob.len {H : Heap} (h : Glob H) : 43 ≤ H.length := by
  have := h.live 18 (by omega)
  obtain ⟨x, hx⟩ := Option.isSome_iff_exists.1 this
  unfold Heap.at at hx
  cases hj : H[42]? with
  | none => rw [show 24 + 18 = 42 from rfl, hj] at hx; cases hx
  | some b => have := (List.getElem?_eq_some_iff.1 hj).1; omega
section
variable {H : Heap} {base : Nat} {res : List Res} {ρ : Env}
/-- Behind a function that keeps one new list: nothing new is handed out. -/
theorem ret_one0 {l : Heap} {vs : List Value} {v : Value} (hm : marksOf ρ = []) (hr : resAll ρ (H ++ l) res = some vs) (hv : resV vs = v) (hn : noNew H.length v = true) : retQ H base .one res (some (v, H)) .ret ρ (H ++ l) := by
  refine ⟨.inr rfl, hm, vs, hr, ?_⟩
  rw [hv]
  simp only [settle, hn, if_true, take_app]
theorem ret_one00 {vs : List Value} {v : Value} (hm : marksOf ρ = []) (hr : resAll ρ H res = some vs) (hv : resV vs = v) (hn : noNew H.length v = true) : retQ H base .one res (some (v, H)) .ret ρ H := by
  have := ret_one0 (l := []) (base := base) hm (by rw [List.append_nil]; exact hr) hv hn
  rwa [List.append_nil] at this
/-- One new list is handed out. -/
theorem ret_one1 {l : Heap} {o g n c e j : Nat} {cs vs : List Value} (hm : marksOf ρ = []) (hr : resAll ρ (H ++ l) res = some vs) (hv : resV vs = .slice (some ⟨H.length + j, o, some g⟩) n c) (ha : Heap.at l j g = some (e, cs)) (hn : ∀ L, cs.all (noNew1 L) = true) :
    retQ H base .one res (some (.slice (some ⟨H.length, o, some g⟩) n c, H ++ [.cells g e cs])) .ret ρ (H ++ l) := by
  refine ⟨.inr rfl, hm, vs, hr, ?_⟩
  rw [hv]
  have h1 : noNew H.length (.slice (some ⟨H.length + j, o, some g⟩) n c) = false := by simp [noNew, noNew2, noNew1]
  simp only [settle, h1, Bool.false_eq_true, if_false, take_app, at_app, ha, hn, true_and, Nat.le_add_right, if_true]
  rfl
theorem ret_one2 {l : Heap} {o g n c e j : Nat} {cs vs : List Value} {r : Value} (hm : marksOf ρ = []) (hr : resAll ρ (H ++ l) res = some vs) (hv : resV vs = .tuple #[.slice (some ⟨H.length + j, o, some g⟩) n c, r]) (ha : Heap.at l j g = some (e, cs)) (hn : ∀ L, cs.all (noNew1 L) = true) (h2 : noNew2 H.length r = true) :
    retQ H base .one res (some (.tuple #[.slice (some ⟨H.length, o, some g⟩) n c, r], H ++ [.cells g e cs])) .ret ρ (H ++ l) := by
  refine ⟨.inr rfl, hm, vs, hr, ?_⟩
  rw [hv]
  have h1 : noNew H.length (.tuple #[.slice (some ⟨H.length + j, o, some g⟩) n c, r]) = false := by simp [noNew, noNew2, noNew1]; intro h; omega
  simp only [settle, h1, Bool.false_eq_true, if_false, h2, if_true, take_app, at_app, ha, hn, true_and, Nat.le_add_right]
end
end Go.AM
namespace Go.AM.Cd
def sums (n : Nat) (xs : List Nat) (k : Nat) : List Nat := (List.range k).map fun i => sumK n i xs 0 0
theorem sums_length (n : Nat) (xs : List Nat) (k : Nat) : (sums n xs k).length = k := by simp [sums]
theorem sums_succ (n : Nat) (xs : List Nat) (k : Nat) : sums n xs (k + 1) = sums n xs k ++ [sumK n k xs 0 0] := by simp [sums, List.range_succ]
section
variable {gl base : Nat} {H : Heap} {Q : AX → Env → Heap → Prop}
theorem l33_0 {xs : List Nat} {id o g e x : Nat} {vs : List Value} (hx : H.at id g = some (e, vs)) (hv : ∀ i, i < xs.length → vs[o + i]? = (fl xs)[i]?) (hn : xs.length ≤ 1024) :
    ∀ (d k : Nat), k + d = xs.length →
    XW Tb gl H.length L33_0 (Env.ofList [(0, .slice (some ⟨id, o, some g⟩) xs.length x), (4, .int .i64 xs.length), (5, .slice (some ⟨H.length, 0, some 0⟩) xs.length 1), (24, .int .i64 xs.length), (25, .int .i64 k)]) (H ++ [.cells 0 1 (fl (sums xs.length xs k) ++ List.replicate d (.float .f64 0))]) Q =
    Q (.exit 0) (Env.ofList [(26, .bool false), (0, .slice (some ⟨id, o, some g⟩) xs.length x), (4, .int .i64 xs.length), (5, .slice (some ⟨H.length, 0, some 0⟩) xs.length 1), (24, .int .i64 xs.length), (25, .int .i64 xs.length)]) (H ++ [.cells 0 1 (fl (sums xs.length xs xs.length))]) := by
  intro d
  induction d with
  | zero =>
    intro k hk
    obtain rfl : k = xs.length := by omega
    conv => lhs; unfold L33_0; rw [XW_loop_eq]
    simp (maxSteps := 1000000) (disch := omega) only [ax6, ax7, ax1, ax2, ax3, ax4, reduceIte, Nat.reduceAdd, Nat.reduceMul, Nat.reduceEqDiff, Nat.reduceLeDiff, reduceCtorEq, Int.reduceAdd, Int.reduceSub, Int.reduceMul, Int.reduceNeg, Int.reduceEq, Int.reduceTMod, Int.reduceTDiv, Int.reduceLT, Int.reduceLE, Int.reduceToNat, Int.reduceBEq, Int.reduceBNe, decide_true, decide_false, and_self, and_true, true_and, w64, dT, dF, bT, bF, nT, nF, if_pos, if_neg, Int.tmod_eq_emod_of_nonneg, Int.tdiv_eq_ediv_of_nonneg, Int.toNat_natCast, Nat.mul_one, Nat.one_mul, Nat.zero_add, Nat.add_zero, Nat.zero_mul, Nat.sub_zero, or_false, or_true, true_or, false_or]
    simp only [List.replicate_zero, List.append_nil]
  | succ d ih =>
    intro k hk
    have hcs : (fl (sums xs.length xs k) ++ List.replicate (d + 1) (Value.float .f64 0)).length = xs.length := by simp [fl_length, sums_length]; omega
    have hget : (fl (sums xs.length xs k) ++ List.replicate (d + 1) (Value.float .f64 0))[k]? = some (.float .f64 0) := by
      rw [List.getElem?_append_right (by rw [fl_length, sums_length]; omega), fl_length, sums_length]
      simp
    have inner := fun (Q' : AX → Env → Heap → Prop) => l33_1 (gl := gl) (H := H) (Q := Q') (x := x) hx hv hn (k := k) (by omega) xs.length 0 0 _ (by omega) hcs hget
    have hset : (fl (sums xs.length xs k) ++ List.replicate (d + 1) (Value.float .f64 0)).set k (.float .f64 (sumK xs.length k xs 0 0)) = fl (sums xs.length xs (k + 1)) ++ List.replicate d (.float .f64 0) := by
      have := set_mid (l := fl (sums xs.length xs k)) (d := d) (z := .float .f64 0) (v := .float .f64 (sumK xs.length k xs 0 0))
      rw [fl_length, sums_length] at this
      rw [this, sums_succ]
      simp [fl]
    rw [List.drop_zero, hset] at inner
    conv => lhs; unfold L33_0; rw [XW_loop_eq]
    simp (maxSteps := 1000000) (disch := omega) only [ax6, ax7, ax1, ax2, ax3, ax4, reduceIte, Nat.reduceAdd, Nat.reduceMul, Nat.reduceEqDiff, Nat.reduceLeDiff, reduceCtorEq, Int.reduceAdd, Int.reduceSub, Int.reduceMul, Int.reduceNeg, Int.reduceEq, Int.reduceTMod, Int.reduceTDiv, Int.reduceLT, Int.reduceLE, Int.reduceToNat, Int.reduceBEq, Int.reduceBNe, decide_true, decide_false, and_self, and_true, true_and, w64, dT, dF, bT, bF, nT, nF, if_pos, if_neg, Int.tmod_eq_emod_of_nonneg, Int.tdiv_eq_ediv_of_nonneg, Int.toNat_natCast, Nat.mul_one, Nat.one_mul, Nat.zero_add, Nat.add_zero, Nat.zero_mul, Nat.sub_zero, or_false, or_true, true_or, false_or]
    rw [show XW Tb gl H.length L33_1 = XW Tb gl H.length (.loop [0, 4, 5, 6, 24, 25, 28, 29, 30] _) from rfl, XW_mask]
    simp (maxSteps := 1000000) (disch := omega) only [ax6, ax1, ax2, ax3, ax4, reduceIte, Nat.reduceAdd, Nat.reduceMul, Nat.reduceEqDiff, Nat.reduceLeDiff, reduceCtorEq, Int.reduceAdd, Int.reduceSub, Int.reduceMul, Int.reduceNeg, Int.reduceEq, Int.reduceTMod, Int.reduceTDiv, Int.reduceLT, Int.reduceLE, Int.reduceToNat, Int.reduceBEq, Int.reduceBNe, decide_true, decide_false, and_self, and_true, true_and, w64, dT, dF, bT, bF, nT, nF, if_pos, if_neg, Int.tmod_eq_emod_of_nonneg, Int.tdiv_eq_ediv_of_nonneg, Int.toNat_natCast, Nat.mul_one, Nat.one_mul, Nat.zero_add, Nat.add_zero, Nat.zero_mul, Nat.sub_zero, or_false, or_true, true_or, false_or]
    refine (inner _).trans ?_
    simp (maxSteps := 1000000) (disch := omega) only [ax6, ax7, ax1, ax2, ax3, ax4, reduceIte, Nat.reduceAdd, Nat.reduceMul, Nat.reduceEqDiff, Nat.reduceLeDiff, reduceCtorEq, Int.reduceAdd, Int.reduceSub, Int.reduceMul, Int.reduceNeg, Int.reduceEq, Int.reduceTMod, Int.reduceTDiv, Int.reduceLT, Int.reduceLE, Int.reduceToNat, Int.reduceBEq, Int.reduceBNe, decide_true, decide_false, and_self, and_true, true_and, w64, dT, dF, bT, bF, nT, nF, if_pos, if_neg, Int.tmod_eq_emod_of_nonneg, Int.tdiv_eq_ediv_of_nonneg, Int.toNat_natCast, Nat.mul_one, Nat.one_mul, Nat.zero_add, Nat.add_zero, Nat.zero_mul, Nat.sub_zero, or_false, or_true, true_or, false_or]
    rw [XW_mask]
    simp (maxSteps := 1000000) (disch := omega) only [ax6, ax1, ax2, ax3, ax4, reduceIte, Nat.reduceAdd, Nat.reduceMul, Nat.reduceEqDiff, Nat.reduceLeDiff, reduceCtorEq, Int.reduceAdd, Int.reduceSub, Int.reduceMul, Int.reduceNeg, Int.reduceEq, Int.reduceTMod, Int.reduceTDiv, Int.reduceLT, Int.reduceLE, Int.reduceToNat, Int.reduceBEq, Int.reduceBNe, decide_true, decide_false, and_self, and_true, true_and, w64, dT, dF, bT, bF, nT, nF, if_pos, if_neg, Int.tmod_eq_emod_of_nonneg, Int.tdiv_eq_ediv_of_nonneg, Int.toNat_natCast, Nat.mul_one, Nat.one_mul, Nat.zero_add, Nat.add_zero, Nat.zero_mul, Nat.sub_zero, or_false, or_true, true_or, false_or]
    exact ih (k + 1) (by omega)

theorem c33_bad {a : Option Addr} {n x : Nat} (h : n = 0 ∨ 1024 < n) (hn : n ≤ 1000000000000000) (hG : Glob H) : Cf Tb gl base 33 [.slice a n x] H = some (.tuple #[.slice none 0 0, .iface 329 (.pointer (some ⟨25, 0, some 0⟩))], H) := by
  refine Cf_of T33 (by simp) ?_
  have hat : ∀ i, i < 19 → H.at i 0 = some (0, [.iface 329 (.pointer (some ⟨24 + i, 0, some 0⟩))]) := fun i hi => hG.at_ hi
  by_cases h0 : n = 0
  · simp (maxSteps := 1000000) (disch := omega) only [B33, ax6, hat, part, List.getElem?_cons_zero, List.replicate_zero, List.append_nil, ax1, ax2, ax3, ax4, reduceIte, Nat.reduceAdd, Nat.reduceMul, Nat.reduceEqDiff, Nat.reduceLeDiff, reduceCtorEq, Int.reduceAdd, Int.reduceSub, Int.reduceMul, Int.reduceNeg, Int.reduceEq, Int.reduceTMod, Int.reduceTDiv, Int.reduceLT, Int.reduceLE, Int.reduceToNat, Int.reduceBEq, Int.reduceBNe, decide_true, decide_false, and_self, and_true, true_and, w64, dT, dF, bT, bF, nT, nF, if_pos, if_neg, Int.tmod_eq_emod_of_nonneg, Int.tdiv_eq_ediv_of_nonneg, Int.toNat_natCast, Nat.mul_one, Nat.one_mul, Nat.zero_add, Nat.add_zero, Nat.zero_mul, Nat.sub_zero, or_false, or_true, true_or, false_or]
    have hl := hG.len
    refine ret_one00 rfl rfl rfl ?_
    simp [noNew, noNew2, noNew1]; omega
  · have h1 : 1024 < n := h.resolve_left h0
    simp (maxSteps := 1000000) (disch := omega) only [B33, ax6, hat, part, List.getElem?_cons_zero, List.replicate_zero, List.append_nil, ax1, ax2, ax3, ax4, reduceIte, Nat.reduceAdd, Nat.reduceMul, Nat.reduceEqDiff, Nat.reduceLeDiff, reduceCtorEq, Int.reduceAdd, Int.reduceSub, Int.reduceMul, Int.reduceNeg, Int.reduceEq, Int.reduceTMod, Int.reduceTDiv, Int.reduceLT, Int.reduceLE, Int.reduceToNat, Int.reduceBEq, Int.reduceBNe, decide_true, decide_false, and_self, and_true, true_and, w64, dT, dF, bT, bF, nT, nF, if_pos, if_neg, Int.tmod_eq_emod_of_nonneg, Int.tdiv_eq_ediv_of_nonneg, Int.toNat_natCast, Nat.mul_one, Nat.one_mul, Nat.zero_add, Nat.add_zero, Nat.zero_mul, Nat.sub_zero, or_false, or_true, true_or, false_or]
    have hl := hG.len
    refine ret_one00 rfl rfl rfl ?_
    simp [noNew, noNew2, noNew1]; omega
theorem c33 {xs : List Nat} {v : Value} (hx : Rd H v (fl xs)) (h1 : 1 ≤ xs.length) (hn : xs.length ≤ 1024) :
    Cf Tb gl base 33 [v] H = some (.tuple #[.slice (some ⟨H.length, 0, some 0⟩) xs.length 1, .nilIface], H ++ [.cells 0 1 (fl (sums xs.length xs xs.length))]) := by
  refine Cf_of T33 (by simp) ?_
  obtain ⟨a, x, rfl, hx⟩ := hx
  rw [fl_length] at hx ⊢
  rcases hx with h | ⟨id, o, g, e, vs, rfl, a1, a2, a3⟩
  · have := congrArg List.length h; rw [fl_length] at this; simp only [List.length_nil] at this; omega
  · have hms : msV 1 8 [Value.float .f64 0] (some (.int .i64 xs.length)) (some (.int .i64 xs.length)) = some (xs.length, List.replicate xs.length (.float .f64 0)) := by
      unfold msV
      simp only [asI]
      rw [if_pos (by omega), reps_sing]
      simp
    have outer := fun (Q' : AX → Env → Heap → Prop) => l33_0 (gl := gl) (Q := Q') (x := x) a1 a3 hn xs.length 0 (by omega)
    have e0 : fl (sums xs.length xs 0) ++ List.replicate xs.length (Value.float .f64 0) = List.replicate xs.length (.float .f64 0) := by simp [sums, fl]
    rw [e0] at outer
    simp (maxSteps := 1000000) (disch := omega) only [B33, ax6, hms, ax1, ax2, ax3, ax4, reduceIte, Nat.reduceAdd, Nat.reduceMul, Nat.reduceEqDiff, Nat.reduceLeDiff, reduceCtorEq, Int.reduceAdd, Int.reduceSub, Int.reduceMul, Int.reduceNeg, Int.reduceEq, Int.reduceTMod, Int.reduceTDiv, Int.reduceLT, Int.reduceLE, Int.reduceToNat, Int.reduceBEq, Int.reduceBNe, decide_true, decide_false, and_self, and_true, true_and, w64, dT, dF, bT, bF, nT, nF, if_pos, if_neg, Int.tmod_eq_emod_of_nonneg, Int.tdiv_eq_ediv_of_nonneg, Int.toNat_natCast, Nat.mul_one, Nat.one_mul, Nat.zero_add, Nat.add_zero, Nat.zero_mul, Nat.sub_zero, or_false, or_true, true_or, false_or]
    rw [show XW Tb gl H.length L33_0 = XW Tb gl H.length (.loop [0, 4, 5, 24, 25] _) from rfl, XW_mask]
    simp (maxSteps := 1000000) (disch := omega) only [ax6, ax1, ax2, ax3, ax4, reduceIte, Nat.reduceAdd, Nat.reduceMul, Nat.reduceEqDiff, Nat.reduceLeDiff, reduceCtorEq, Int.reduceAdd, Int.reduceSub, Int.reduceMul, Int.reduceNeg, Int.reduceEq, Int.reduceTMod, Int.reduceTDiv, Int.reduceLT, Int.reduceLE, Int.reduceToNat, Int.reduceBEq, Int.reduceBNe, decide_true, decide_false, and_self, and_true, true_and, w64, dT, dF, bT, bF, nT, nF, if_pos, if_neg, Int.tmod_eq_emod_of_nonneg, Int.tdiv_eq_ediv_of_nonneg, Int.toNat_natCast, Nat.mul_one, Nat.one_mul, Nat.zero_add, Nat.add_zero, Nat.zero_mul, Nat.sub_zero, or_false, or_true, true_or, false_or]
    refine Eq.mpr (outer _) ?_
    simp (maxSteps := 1000000) (disch := omega) only [ax6, ax1, ax2, ax3, ax4, reduceIte, Nat.reduceAdd, Nat.reduceMul, Nat.reduceEqDiff, Nat.reduceLeDiff, reduceCtorEq, Int.reduceAdd, Int.reduceSub, Int.reduceMul, Int.reduceNeg, Int.reduceEq, Int.reduceTMod, Int.reduceTDiv, Int.reduceLT, Int.reduceLE, Int.reduceToNat, Int.reduceBEq, Int.reduceBNe, decide_true, decide_false, and_self, and_true, true_and, w64, dT, dF, bT, bF, nT, nF, if_pos, if_neg, Int.tmod_eq_emod_of_nonneg, Int.tdiv_eq_ediv_of_nonneg, Int.toNat_natCast, Nat.mul_one, Nat.one_mul, Nat.zero_add, Nat.add_zero, Nat.zero_mul, Nat.sub_zero, or_false, or_true, true_or, false_or]
    exact ret_one2 (j := 0) (l := [_]) rfl rfl rfl rfl (fun L => fl_noNew L _) rfl
end
end Go.AM.Cd
/- The sum: the document's. No condition. -/
set_option maxRecDepth 20000
set_option maxHeartbeats 2000000
set_option linter.unusedSimpArgs false
namespace Go.AM
/-- One element is appended. -/
theorem app_one {base e bt id g n tid e' e'' : Nat} {Hs : Heap} {cs new : List Value} (h1 : Hs.at id g = some (e', cs)) (h2 : Hs.at tid 0 = some (e'', new)) (hb : base ≤ id) (he : e ≠ 0) (hc : cs.length = n * e) (hn : new.length = e) (ho : new.all oneCell = true)
    (hby : (n + 1) * bt ≤ 140737488355328) (hn' : n + 1 ≤ 140737488355328) : appV base Hs e bt (.slice (some ⟨id, 0, some g⟩) n e) (.slice (some ⟨tid, 0, some 0⟩) 1 e) = some (.slice (some ⟨id, 0, some (g + 1)⟩) (n + 1) e, List.set Hs id (.cells (g + 1) e (cs ++ new))) := by
  have hg : Hs.grab e (.slice (some ⟨tid, 0, some 0⟩) 1 e) 1 = some new := by
    unfold Heap.grab
    simp only [h2, Nat.one_mul, Nat.zero_add, List.drop_zero]
    rw [List.take_of_length_le (by omega)]
    rw [if_pos ⟨by omega, ho⟩]
  unfold appV
  simp only [Nat.one_ne_zero, if_false, hg]
  unfold appd
  simp only [h1]
  rw [if_pos ⟨hb, trivial, he, by omega, hby, hn'⟩]
  rw [List.drop_zero, List.take_of_length_le (by omega)]
  rfl
theorem at_last (H : Heap) (b : ABlk) (T : Heap) (e : Nat) (vs : List Value) : Heap.at (H ++ b :: (T ++ [.cells 0 e vs])) (H.length + (T.length + 1)) 0 = some (e, vs) := by
  rw [at_app]
  unfold Heap.at
  simp
theorem app_tmp {H : Heap} {base e bt g n : Nat} {T : Heap} {cs new : List Value} (hb : base ≤ H.length) (he : e ≠ 0) (hc : cs.length = n * e) (hn : new.length = e) (ho : new.all oneCell = true) (hby : (n + 1) * bt ≤ 140737488355328) (hn' : n + 1 ≤ 140737488355328) {e' : Nat} :
    appV base (H ++ .cells g e' cs :: (T ++ [.cells 0 e new])) e bt (.slice (some ⟨H.length, 0, some g⟩) n e) (.slice (some ⟨H.length + (T.length + 1), 0, some 0⟩) 1 e) = some (.slice (some ⟨H.length, 0, some (g + 1)⟩) (n + 1) e, H ++ .cells (g + 1) e (cs ++ new) :: (T ++ [.cells 0 e new])) := by
  rw [app_one (e' := e') (by rw [at_app0]; simp [Heap.at]) (at_last H _ T e new) hb he hc hn ho hby hn', set_app0]
end Go.AM
namespace Go.AM.Cd
section
variable {gl base : Nat} {H : Heap} {Q : AX → Env → Heap → Prop}
theorem l38_1 {xs : List Nat} {id o g e x : Nat} {vs : List Value} {out : Value} (hx : H.at id g = some (e, vs)) (hv : ∀ i, i < xs.length → vs[o + i]? = (fl xs)[i]?) (hn : xs.length ≤ 1024) {k : Nat} (hk : k < xs.length) :
    ∀ (d j : Nat) (acc : Nat), j + d = xs.length →
    XW Tb gl base L38_1 (Env.ofList [(0, .slice (some ⟨id, o, some g⟩) xs.length x), (4, .int .i64 xs.length), (5, out), (6, .int .i64 k), (7, .float .f64 acc), (27, .slice (some ⟨id, o, some g⟩) xs.length x), (28, .int .i64 xs.length), (29, .int .i64 j)]) H Q =
    Q (.exit 2) (Env.ofList [(30, .bool false), (0, .slice (some ⟨id, o, some g⟩) xs.length x), (4, .int .i64 xs.length), (5, out), (6, .int .i64 k), (7, .float .f64 (sumK xs.length k (xs.drop j) j acc)), (27, .slice (some ⟨id, o, some g⟩) xs.length x), (28, .int .i64 xs.length), (29, .int .i64 xs.length)]) H := by
  intro d
  induction d with
  | zero =>
    intro j acc hj
    obtain rfl : j = xs.length := by omega
    rw [List.drop_length]
    conv => lhs; unfold L38_1; rw [XW_loop_eq]
    simp (maxSteps := 1000000) (disch := omega) only [ax6, ax7, ax1, ax2, ax3, ax4, reduceIte, Nat.reduceAdd, Nat.reduceMul, Nat.reduceEqDiff, Nat.reduceLeDiff, reduceCtorEq, Int.reduceAdd, Int.reduceSub, Int.reduceMul, Int.reduceNeg, Int.reduceEq, Int.reduceTMod, Int.reduceTDiv, Int.reduceLT, Int.reduceLE, Int.reduceToNat, Int.reduceBEq, Int.reduceBNe, decide_true, decide_false, and_self, and_true, true_and, w64, dT, dF, bT, bF, nT, nF, if_pos, if_neg, Int.tmod_eq_emod_of_nonneg, Int.tdiv_eq_ediv_of_nonneg, Int.toNat_natCast, Nat.mul_one, Nat.one_mul, Nat.zero_add, Nat.add_zero, Nat.zero_mul]
    simp only [sumK]
  | succ d ih =>
    intro j acc hj
    have hjl : j < xs.length := by omega
    have hv' := hv j hjl
    rw [fl_get, List.getElem?_eq_getElem hjl] at hv'
    simp only [Option.map_some] at hv'
    rw [List.drop_eq_getElem_cons hjl]
    generalize xs[j] = v at hv'
    have hjk : ((2 * j + 1) * k : Int) ≤ 4194304 := by
      have h1 : (2 * j + 1) * k ≤ 2048 * 1024 := Nat.mul_le_mul (by omega) (by omega)
      have h2 : (((2 * j + 1) * k : Nat) : Int) = (2 * j + 1) * k := by simp
      omega
    have hjk0 : (0 : Int) ≤ (2 * j + 1) * k := Int.mul_nonneg (by omega) (by omega)
    conv => lhs; unfold L38_1; rw [XW_loop_eq]
    by_cases hj0 : j = 0
    · simp (maxSteps := 1000000) (disch := omega) only [ax6, ax7, hx, part, hv', c94, List.getElem?_toArray, List.getElem?_cons_zero, List.getElem?_cons_succ, ax1, ax2, ax3, ax4, reduceIte, Nat.reduceAdd, Nat.reduceMul, Nat.reduceEqDiff, Nat.reduceLeDiff, reduceCtorEq, Int.reduceAdd, Int.reduceSub, Int.reduceMul, Int.reduceNeg, Int.reduceEq, Int.reduceTMod, Int.reduceTDiv, Int.reduceLT, Int.reduceLE, Int.reduceToNat, Int.reduceBEq, Int.reduceBNe, decide_true, decide_false, and_self, and_true, true_and, w64, dT, dF, bT, bF, nT, nF, if_pos, if_neg, Int.tmod_eq_emod_of_nonneg, Int.tdiv_eq_ediv_of_nonneg, Int.toNat_natCast, Nat.mul_one, Nat.one_mul, Nat.zero_add, Nat.add_zero, Nat.zero_mul]
      rw [XW_mask]
      simp (maxSteps := 1000000) (disch := omega) only [ax6, ax1, ax2, ax3, ax4, reduceIte, Nat.reduceAdd, Nat.reduceMul, Nat.reduceEqDiff, Nat.reduceLeDiff, reduceCtorEq, Int.reduceAdd, Int.reduceSub, Int.reduceMul, Int.reduceNeg, Int.reduceEq, Int.reduceTMod, Int.reduceTDiv, Int.reduceLT, Int.reduceLE, Int.reduceToNat, Int.reduceBEq, Int.reduceBNe, decide_true, decide_false, and_self, and_true, true_and, w64, dT, dF, bT, bF, nT, nF, if_pos, if_neg, Int.tmod_eq_emod_of_nonneg, Int.tdiv_eq_ediv_of_nonneg, Int.toNat_natCast, Nat.mul_one, Nat.one_mul, Nat.zero_add, Nat.add_zero, Nat.zero_mul]
      refine (ih (j + 1) _ (by omega)).trans ?_
      simp only [sumK, hj0, if_true]
    · simp (maxSteps := 1000000) (disch := omega) only [ax6, ax7, hx, part, hv', c94, List.getElem?_toArray, List.getElem?_cons_zero, List.getElem?_cons_succ, ax1, ax2, ax3, ax4, reduceIte, Nat.reduceAdd, Nat.reduceMul, Nat.reduceEqDiff, Nat.reduceLeDiff, reduceCtorEq, Int.reduceAdd, Int.reduceSub, Int.reduceMul, Int.reduceNeg, Int.reduceEq, Int.reduceTMod, Int.reduceTDiv, Int.reduceLT, Int.reduceLE, Int.reduceToNat, Int.reduceBEq, Int.reduceBNe, decide_true, decide_false, and_self, and_true, true_and, w64, dT, dF, bT, bF, nT, nF, if_pos, if_neg, Int.tmod_eq_emod_of_nonneg, Int.tdiv_eq_ediv_of_nonneg, Int.toNat_natCast, Nat.mul_one, Nat.one_mul, Nat.zero_add, Nat.add_zero, Nat.zero_mul]
      rw [XW_mask]
      simp (maxSteps := 1000000) (disch := omega) only [ax6, ax1, ax2, ax3, ax4, reduceIte, Nat.reduceAdd, Nat.reduceMul, Nat.reduceEqDiff, Nat.reduceLeDiff, reduceCtorEq, Int.reduceAdd, Int.reduceSub, Int.reduceMul, Int.reduceNeg, Int.reduceEq, Int.reduceTMod, Int.reduceTDiv, Int.reduceLT, Int.reduceLE, Int.reduceToNat, Int.reduceBEq, Int.reduceBNe, decide_true, decide_false, and_self, and_true, true_and, w64, dT, dF, bT, bF, nT, nF, if_pos, if_neg, Int.tmod_eq_emod_of_nonneg, Int.tdiv_eq_ediv_of_nonneg, Int.toNat_natCast, Nat.mul_one, Nat.one_mul, Nat.zero_add, Nat.add_zero, Nat.zero_mul]
      refine (ih (j + 1) _ (by omega)).trans ?_
      simp only [sumK, hj0, if_false]
theorem l38_0 {xs : List Nat} {id o g e x : Nat} {vs : List Value} (hx : H.at id g = some (e, vs)) (hv : ∀ i, i < xs.length → vs[o + i]? = (fl xs)[i]?) (hn : xs.length ≤ 1024)
    (K : ∀ (T : Heap), Q (.exit 0) (Env.ofList [(24, .bool false), (23, .int .i64 xs.length), (22, .int .i64 xs.length), (0, .slice (some ⟨id, o, some g⟩) xs.length x), (4, .int .i64 xs.length), (5, .slice (some ⟨H.length, 0, some xs.length⟩) xs.length 1), (6, .int .i64 xs.length)]) (H ++ .cells xs.length 1 (fl (sums xs.length xs xs.length)) :: T)) :
    ∀ (d k : Nat) (T : Heap), k + d = xs.length →
    XW Tb gl H.length L38_0 (Env.ofList [(0, .slice (some ⟨id, o, some g⟩) xs.length x), (4, .int .i64 xs.length), (5, .slice (some ⟨H.length, 0, some k⟩) k 1), (6, .int .i64 k)]) (H ++ .cells k 1 (fl (sums xs.length xs k)) :: T) Q := by
  intro d
  induction d with
  | zero =>
    intro k T hk
    obtain rfl : k = xs.length := by omega
    unfold L38_0; rw [XW_loop_eq]
    simp (maxSteps := 1000000) (disch := omega) only [ax6, ax7, ax1, ax2, ax3, ax4, reduceIte, Nat.reduceAdd, Nat.reduceMul, Nat.reduceEqDiff, Nat.reduceLeDiff, reduceCtorEq, Int.reduceAdd, Int.reduceSub, Int.reduceMul, Int.reduceNeg, Int.reduceEq, Int.reduceTMod, Int.reduceTDiv, Int.reduceLT, Int.reduceLE, Int.reduceToNat, Int.reduceBEq, Int.reduceBNe, decide_true, decide_false, and_self, and_true, true_and, w64, dT, dF, bT, bF, nT, nF, if_pos, if_neg, Int.tmod_eq_emod_of_nonneg, Int.tdiv_eq_ediv_of_nonneg, Int.toNat_natCast, Nat.mul_one, Nat.one_mul, Nat.zero_add, Nat.add_zero, Nat.zero_mul]
    exact K T
  | succ d ih =>
    intro k T hk
    have inner := fun (Q' : AX → Env → Heap → Prop) (out : Value) => l38_1 (gl := gl) (base := H.length) (H := H ++ .cells k 1 (fl (sums xs.length xs k)) :: T) (Q := Q') (x := x) (out := out) (at_old hx _) hv hn (k := k) (by omega) xs.length 0 0 (by omega)
    rw [List.drop_zero] at inner
    have hap := fun y : Nat => app_tmp (H := H) (base := H.length) (e := 1) (bt := 8) (g := k) (n := k) (T := T) (e' := 1) (cs := fl (sums xs.length xs k)) (new := [.float .f64 y]) (Nat.le_refl _) (by decide) (by rw [fl_length, sums_length]; omega) rfl rfl (by omega) (by omega)
    unfold L38_0; rw [XW_loop_eq]
    simp (maxSteps := 1000000) (disch := omega) only [ax6, ax7, ax1, ax2, ax3, ax4, reduceIte, Nat.reduceAdd, Nat.reduceMul, Nat.reduceEqDiff, Nat.reduceLeDiff, reduceCtorEq, Int.reduceAdd, Int.reduceSub, Int.reduceMul, Int.reduceNeg, Int.reduceEq, Int.reduceTMod, Int.reduceTDiv, Int.reduceLT, Int.reduceLE, Int.reduceToNat, Int.reduceBEq, Int.reduceBNe, decide_true, decide_false, and_self, and_true, true_and, w64, dT, dF, bT, bF, nT, nF, if_pos, if_neg, Int.tmod_eq_emod_of_nonneg, Int.tdiv_eq_ediv_of_nonneg, Int.toNat_natCast, Nat.mul_one, Nat.one_mul, Nat.zero_add, Nat.add_zero, Nat.zero_mul]
    rw [show XW Tb gl H.length L38_1 = XW Tb gl H.length (.loop [0, 4, 5, 6, 7, 27, 28, 29] _) from rfl, XW_mask]
    simp (maxSteps := 1000000) (disch := omega) only [ax6, ax1, ax2, ax3, ax4, reduceIte, Nat.reduceAdd, Nat.reduceMul, Nat.reduceEqDiff, Nat.reduceLeDiff, reduceCtorEq, Int.reduceAdd, Int.reduceSub, Int.reduceMul, Int.reduceNeg, Int.reduceEq, Int.reduceTMod, Int.reduceTDiv, Int.reduceLT, Int.reduceLE, Int.reduceToNat, Int.reduceBEq, Int.reduceBNe, decide_true, decide_false, and_self, and_true, true_and, w64, dT, dF, bT, bF, nT, nF, if_pos, if_neg, Int.tmod_eq_emod_of_nonneg, Int.tdiv_eq_ediv_of_nonneg, Int.toNat_natCast, Nat.mul_one, Nat.one_mul, Nat.zero_add, Nat.add_zero, Nat.zero_mul]
    refine Eq.mpr (inner _ _) ?_
    simp (maxSteps := 1000000) (disch := omega) only [ax6, ax7, hap, ax1, ax2, ax3, ax4, reduceIte, Nat.reduceAdd, Nat.reduceMul, Nat.reduceEqDiff, Nat.reduceLeDiff, reduceCtorEq, Int.reduceAdd, Int.reduceSub, Int.reduceMul, Int.reduceNeg, Int.reduceEq, Int.reduceTMod, Int.reduceTDiv, Int.reduceLT, Int.reduceLE, Int.reduceToNat, Int.reduceBEq, Int.reduceBNe, decide_true, decide_false, and_self, and_true, true_and, w64, dT, dF, bT, bF, nT, nF, if_pos, if_neg, Int.tmod_eq_emod_of_nonneg, Int.tdiv_eq_ediv_of_nonneg, Int.toNat_natCast, Nat.mul_one, Nat.one_mul, Nat.zero_add, Nat.add_zero, Nat.zero_mul]
    rw [XW_mask]
    simp (maxSteps := 1000000) (disch := omega) only [ax6, ax1, ax2, ax3, ax4, reduceIte, Nat.reduceAdd, Nat.reduceMul, Nat.reduceEqDiff, Nat.reduceLeDiff, reduceCtorEq, Int.reduceAdd, Int.reduceSub, Int.reduceMul, Int.reduceNeg, Int.reduceEq, Int.reduceTMod, Int.reduceTDiv, Int.reduceLT, Int.reduceLE, Int.reduceToNat, Int.reduceBEq, Int.reduceBNe, decide_true, decide_false, and_self, and_true, true_and, w64, dT, dF, bT, bF, nT, nF, if_pos, if_neg, Int.tmod_eq_emod_of_nonneg, Int.tdiv_eq_ediv_of_nonneg, Int.toNat_natCast, Nat.mul_one, Nat.one_mul, Nat.zero_add, Nat.add_zero, Nat.zero_mul]
    have e1 : fl (sums xs.length xs k) ++ [Value.float .f64 (sumK xs.length k xs 0 0)] = fl (sums xs.length xs (k + 1)) := by rw [sums_succ]; simp [fl]
    rw [e1]
    exact ih (k + 1) _ (by omega)
theorem c38_bad {a : Option Addr} {n x : Nat} (h : n = 0 ∨ 1024 < n) (hn : n ≤ 1000000000000000) : Cf Tb gl base 38 [.slice a n x] H = some (.tuple #[.slice none 0 0, .int .i64 7], H) := by
  refine Cf_of T38 (by simp) ?_
  by_cases h0 : n = 0
  · simp (maxSteps := 1000000) (disch := omega) only [B38, ax6, ax1, ax2, ax3, ax4, reduceIte, Nat.reduceAdd, Nat.reduceMul, Nat.reduceEqDiff, Nat.reduceLeDiff, reduceCtorEq, Int.reduceAdd, Int.reduceSub, Int.reduceMul, Int.reduceNeg, Int.reduceEq, Int.reduceTMod, Int.reduceTDiv, Int.reduceLT, Int.reduceLE, Int.reduceToNat, Int.reduceBEq, Int.reduceBNe, decide_true, decide_false, and_self, and_true, true_and, w64, dT, dF, bT, bF, nT, nF, if_pos, if_neg, Int.tmod_eq_emod_of_nonneg, Int.tdiv_eq_ediv_of_nonneg, Int.toNat_natCast, Nat.mul_one, Nat.one_mul, Nat.zero_add, Nat.add_zero, Nat.zero_mul]
    exact ret_one00 rfl rfl rfl rfl
  · have h1 : 1024 < n := h.resolve_left h0
    simp (maxSteps := 1000000) (disch := omega) only [B38, ax6, ax1, ax2, ax3, ax4, reduceIte, Nat.reduceAdd, Nat.reduceMul, Nat.reduceEqDiff, Nat.reduceLeDiff, reduceCtorEq, Int.reduceAdd, Int.reduceSub, Int.reduceMul, Int.reduceNeg, Int.reduceEq, Int.reduceTMod, Int.reduceTDiv, Int.reduceLT, Int.reduceLE, Int.reduceToNat, Int.reduceBEq, Int.reduceBNe, decide_true, decide_false, and_self, and_true, true_and, w64, dT, dF, bT, bF, nT, nF, if_pos, if_neg, Int.tmod_eq_emod_of_nonneg, Int.tdiv_eq_ediv_of_nonneg, Int.toNat_natCast, Nat.mul_one, Nat.one_mul, Nat.zero_add, Nat.add_zero, Nat.zero_mul]
    exact ret_one00 rfl rfl rfl rfl
theorem c38 {xs : List Nat} {v : Value} (hx : Rd H v (fl xs)) (h1 : 1 ≤ xs.length) (hn : xs.length ≤ 1024) :
    Cf Tb gl base 38 [v] H = some (.tuple #[.slice (some ⟨H.length, 0, some xs.length⟩) xs.length 1, .int .i64 0], H ++ [.cells xs.length 1 (fl (sums xs.length xs xs.length))]) := by
  refine Cf_of T38 (by simp) ?_
  obtain ⟨a, x, rfl, hx⟩ := hx
  rw [fl_length] at hx ⊢
  rcases hx with h | ⟨id, o, g, e, vs, rfl, a1, a2, a3⟩
  · have := congrArg List.length h; rw [fl_length] at this; simp only [List.length_nil] at this; omega
  · have e0 : fl (sums xs.length xs 0) = [] := by simp [sums, fl]
    simp (maxSteps := 1000000) (disch := omega) only [B38, ax6, ax1, ax2, ax3, ax4, reduceIte, Nat.reduceAdd, Nat.reduceMul, Nat.reduceEqDiff, Nat.reduceLeDiff, reduceCtorEq, Int.reduceAdd, Int.reduceSub, Int.reduceMul, Int.reduceNeg, Int.reduceEq, Int.reduceTMod, Int.reduceTDiv, Int.reduceLT, Int.reduceLE, Int.reduceToNat, Int.reduceBEq, Int.reduceBNe, decide_true, decide_false, and_self, and_true, true_and, w64, dT, dF, bT, bF, nT, nF, if_pos, if_neg, Int.tmod_eq_emod_of_nonneg, Int.tdiv_eq_ediv_of_nonneg, Int.toNat_natCast, Nat.mul_one, Nat.one_mul, Nat.zero_add, Nat.add_zero, Nat.zero_mul]
    rw [show XW Tb gl H.length L38_0 = XW Tb gl H.length (.loop [0, 4, 5, 6] _) from rfl, XW_mask]
    simp (maxSteps := 1000000) (disch := omega) only [ax6, ax1, ax2, ax3, ax4, reduceIte, Nat.reduceAdd, Nat.reduceMul, Nat.reduceEqDiff, Nat.reduceLeDiff, reduceCtorEq, Int.reduceAdd, Int.reduceSub, Int.reduceMul, Int.reduceNeg, Int.reduceEq, Int.reduceTMod, Int.reduceTDiv, Int.reduceLT, Int.reduceLE, Int.reduceToNat, Int.reduceBEq, Int.reduceBNe, decide_true, decide_false, and_self, and_true, true_and, w64, dT, dF, bT, bF, nT, nF, if_pos, if_neg, Int.tmod_eq_emod_of_nonneg, Int.tdiv_eq_ediv_of_nonneg, Int.toNat_natCast, Nat.mul_one, Nat.one_mul, Nat.zero_add, Nat.add_zero, Nat.zero_mul]
    have outer := fun (Q' : AX → Env → Heap → Prop) K => l38_0 (gl := gl) (Q := Q') (x := x) a1 a3 hn K xs.length 0 [] (by omega)
    rw [e0] at outer
    refine outer _ fun T => ?_
    simp (maxSteps := 1000000) (disch := omega) only [ax6, ax1, ax2, ax3, ax4, reduceIte, Nat.reduceAdd, Nat.reduceMul, Nat.reduceEqDiff, Nat.reduceLeDiff, reduceCtorEq, Int.reduceAdd, Int.reduceSub, Int.reduceMul, Int.reduceNeg, Int.reduceEq, Int.reduceTMod, Int.reduceTDiv, Int.reduceLT, Int.reduceLE, Int.reduceToNat, Int.reduceBEq, Int.reduceBNe, decide_true, decide_false, and_self, and_true, true_and, w64, dT, dF, bT, bF, nT, nF, if_pos, if_neg, Int.tmod_eq_emod_of_nonneg, Int.tdiv_eq_ediv_of_nonneg, Int.toNat_natCast, Nat.mul_one, Nat.one_mul, Nat.zero_add, Nat.add_zero, Nat.zero_mul]
    exact ret_one2 (j := 0) (l := _ :: _) rfl rfl rfl (by simp [Heap.at]) (fun L => fl_noNew L _) rfl
end
end Go.AM.Cd
/- Lists read, copied with room, kept. No condition. -/
set_option maxRecDepth 20000
set_option maxHeartbeats 2000000
set_option linter.unusedSimpArgs false
namespace Go.AM
theorem take_eq_of {vs l : List Value} {o : Nat} (h : o + l.length ≤ vs.length) (hg : ∀ i, i < l.length → vs[o + i]? = l[i]?) : (vs.drop o).take l.length = l := by
  apply List.ext_getElem?
  intro i
  by_cases hi : i < l.length
  · rw [List.getElem?_take, if_pos hi, List.getElem?_drop, hg i hi]
  · rw [List.getElem?_take, if_neg hi, List.getElem?_eq_none (by omega)]
theorem app_many {base e bt id g n m e' x : Nat} {a : Option Addr} {Hs : Heap} {cs new : List Value} (h1 : Hs.at id g = some (e', cs)) (hg : Hs.grab e (.slice a m x) m = some new) (hm : m ≠ 0) (hb : base ≤ id) (he : e ≠ 0) (hc : cs.length = n * e)
    (hby : (n + m) * bt ≤ 140737488355328) (hn' : n + m ≤ 140737488355328) : appV base Hs e bt (.slice (some ⟨id, 0, some g⟩) n e) (.slice a m x) = some (.slice (some ⟨id, 0, some (g + 1)⟩) (n + m) e, List.set Hs id (.cells (g + 1) e (cs ++ new))) := by
  unfold appV
  simp only [hm, if_false, hg]
  unfold appd
  simp only [h1]
  rw [if_pos ⟨hb, trivial, he, by omega, hby, hn'⟩]
  rw [List.drop_zero, List.take_of_length_le (by omega)]
  rfl
theorem app_none {base e bt m x n0 : Nat} {a : Option Addr} {Hs : Heap} {new : List Value} (hg : Hs.grab e (.slice a m x) m = some new) (hm : m ≠ 0) (hby : m * bt ≤ 140737488355328) (hn' : m ≤ 140737488355328) : appV base Hs e bt (.slice none 0 n0) (.slice a m x) = some (.slice (some ⟨Hs.length, 0, some 0⟩) m e, Hs ++ [.cells 0 e new]) := by
  unfold appV
  simp only [hm, if_false, hg]
  unfold appd
  simp only
  rw [if_pos ⟨hby, hn'⟩]
  rfl
theorem ret_keep {H H' : Heap} {base : Nat} {res : List Res} {ρ : Env} {vs : List Value} {v : Value} (hm : marksOf ρ = []) (hr : resAll ρ H' res = some vs) (hv : resV vs = v) : retQ H base .keep res (some (v, H')) .ret ρ H' :=
  ⟨.inr rfl, hm, vs, hr, by rw [hv]; rfl⟩
theorem fl_one (xs : List Nat) : (fl xs).all oneCell = true := by simp [fl, oneCell]
theorem Rd.mk1 {H : Heap} {id g e n x : Nat} {l : List Value} (h : H.at id g = some (e, l)) (hn : n = l.length) : Rd H (.slice (some ⟨id, 0, some g⟩) n x) l := by
  subst hn
  exact ⟨_, x, rfl, .inr ⟨id, 0, g, e, l, rfl, h, by omega, fun i _ => by rw [Nat.zero_add]⟩⟩
theorem Rd.nil (H : Heap) (x : Nat) : Rd H (.slice none 0 x) [] := ⟨none, x, rfl, .inl rfl⟩
end Go.AM
namespace Go.AM.Cd
def flo (us : List Int) : List Nat := us.map fun u => canon u.toNat
section
variable {gl base : Nat} {H : Heap} {Q : AX → Env → Heap → Prop}
theorem l32_0 {us : List Int} {id o g e x : Nat} {vs : List Value} (hx : H.at id g = some (e, vs)) (hv : ∀ i, i < us.length → vs[o + i]? = (us.map (Value.int .u64))[i]?) (hn : us.length * 8 ≤ 140737488355328)
    (K : ∀ (T : Heap), Q (.exit 0) (Env.ofList [(10, .bool false), (3, .slice (some ⟨H.length, 0, some us.length⟩) us.length 1), (7, .slice (some ⟨id, o, some g⟩) us.length x), (8, .int .i64 us.length), (9, .int .i64 us.length)]) (H ++ .cells us.length 1 (fl (flo us)) :: T)) :
    ∀ (d k : Nat) (T : Heap), k + d = us.length →
    XW Tb gl H.length L32_0 (Env.ofList [(3, .slice (some ⟨H.length, 0, some k⟩) k 1), (7, .slice (some ⟨id, o, some g⟩) us.length x), (8, .int .i64 us.length), (9, .int .i64 k)]) (H ++ .cells k 1 (fl (flo (us.take k))) :: T) Q := by
  intro d
  induction d with
  | zero =>
    intro k T hk
    obtain rfl : k = us.length := by omega
    rw [List.take_length]
    unfold L32_0; rw [XW_loop_eq]
    simp (maxSteps := 1000000) (disch := omega) only [ax6, ax7, ax1, ax2, ax3, ax4, reduceIte, Nat.reduceAdd, Nat.reduceMul, Nat.reduceEqDiff, Nat.reduceLeDiff, reduceCtorEq, Int.reduceAdd, Int.reduceSub, Int.reduceMul, Int.reduceNeg, Int.reduceEq, Int.reduceTMod, Int.reduceTDiv, Int.reduceLT, Int.reduceLE, Int.reduceToNat, Int.reduceBEq, Int.reduceBNe, decide_true, decide_false, and_self, and_true, true_and, w64, dT, dF, bT, bF, nT, nF, if_pos, if_neg, Int.tmod_eq_emod_of_nonneg, Int.tdiv_eq_ediv_of_nonneg, Int.toNat_natCast, Nat.mul_one, Nat.one_mul, Nat.zero_add, Nat.add_zero, Nat.zero_mul, Nat.sub_zero, or_false, or_true, true_or, false_or]
    exact K T
  | succ d ih =>
    intro k T hk
    have hkl : k < us.length := by omega
    have hv' := hv k hkl
    rw [List.getElem?_map, List.getElem?_eq_getElem hkl] at hv'
    simp only [Option.map_some] at hv'
    have e1 : fl (flo (us.take k)) ++ [Value.float .f64 (canon us[k].toNat)] = fl (flo (us.take (k + 1))) := by
      rw [List.take_succ_eq_append_getElem hkl]; simp only [fl, flo, List.map_append, List.map_cons, List.map_nil]
    generalize us[k] = u at hv' e1
    have hxo : ∀ T : Heap, Heap.at (H ++ T) id g = some (e, vs) := fun T => at_old hx T
    have hap := app_tmp (H := H) (base := H.length) (e := 1) (bt := 8) (g := k) (n := k) (T := T) (e' := 1) (cs := fl (flo (us.take k))) (new := [.float .f64 (canon u.toNat)]) (Nat.le_refl _) (by decide) (by simp [fl, flo]; omega) rfl rfl (by omega) (by omega)
    unfold L32_0; rw [XW_loop_eq]
    simp (maxSteps := 1000000) (disch := omega) only [ax6, ax7, hxo, part, hv', c90, hap, ax1, ax2, ax3, ax4, reduceIte, Nat.reduceAdd, Nat.reduceMul, Nat.reduceEqDiff, Nat.reduceLeDiff, reduceCtorEq, Int.reduceAdd, Int.reduceSub, Int.reduceMul, Int.reduceNeg, Int.reduceEq, Int.reduceTMod, Int.reduceTDiv, Int.reduceLT, Int.reduceLE, Int.reduceToNat, Int.reduceBEq, Int.reduceBNe, decide_true, decide_false, and_self, and_true, true_and, w64, dT, dF, bT, bF, nT, nF, if_pos, if_neg, Int.tmod_eq_emod_of_nonneg, Int.tdiv_eq_ediv_of_nonneg, Int.toNat_natCast, Nat.mul_one, Nat.one_mul, Nat.zero_add, Nat.add_zero, Nat.zero_mul, Nat.sub_zero, or_false, or_true, true_or, false_or]
    rw [XW_mask]
    simp (maxSteps := 1000000) (disch := omega) only [ax6, ax1, ax2, ax3, ax4, reduceIte, Nat.reduceAdd, Nat.reduceMul, Nat.reduceEqDiff, Nat.reduceLeDiff, reduceCtorEq, Int.reduceAdd, Int.reduceSub, Int.reduceMul, Int.reduceNeg, Int.reduceEq, Int.reduceTMod, Int.reduceTDiv, Int.reduceLT, Int.reduceLE, Int.reduceToNat, Int.reduceBEq, Int.reduceBNe, decide_true, decide_false, and_self, and_true, true_and, w64, dT, dF, bT, bF, nT, nF, if_pos, if_neg, Int.tmod_eq_emod_of_nonneg, Int.tdiv_eq_ediv_of_nonneg, Int.toNat_natCast, Nat.mul_one, Nat.one_mul, Nat.zero_add, Nat.add_zero, Nat.zero_mul, Nat.sub_zero, or_false, or_true, true_or, false_or]
    rw [e1]
    exact ih (k + 1) _ (by omega)
theorem c32 {us : List Int} {v : Value} (hx : Rd H v (us.map (Value.int .u64))) (hn : us.length * 8 ≤ 140737488355328) :
    Cf Tb gl base 32 [v] H = some (.slice (some ⟨H.length, 0, some us.length⟩) us.length 1, H ++ [.cells us.length 1 (fl (flo us))]) := by
  refine Cf_of T32 (by simp) ?_
  obtain ⟨a, x, rfl, hx⟩ := hx
  rw [List.length_map] at hx ⊢
  by_cases h0 : us = []
  · subst h0
    simp (maxSteps := 1000000) (disch := omega) only [B32, L32_0, ax5, ax6, List.length_nil, Int.natCast_zero, ax1, ax2, ax3, ax4, reduceIte, Nat.reduceAdd, Nat.reduceMul, Nat.reduceEqDiff, Nat.reduceLeDiff, reduceCtorEq, Int.reduceAdd, Int.reduceSub, Int.reduceMul, Int.reduceNeg, Int.reduceEq, Int.reduceTMod, Int.reduceTDiv, Int.reduceLT, Int.reduceLE, Int.reduceToNat, Int.reduceBEq, Int.reduceBNe, decide_true, decide_false, and_self, and_true, true_and, w64, dT, dF, bT, bF, nT, nF, if_pos, if_neg, Int.tmod_eq_emod_of_nonneg, Int.tdiv_eq_ediv_of_nonneg, Int.toNat_natCast, Nat.mul_one, Nat.one_mul, Nat.zero_add, Nat.add_zero, Nat.zero_mul, Nat.sub_zero, or_false, or_true, true_or, false_or]
    exact ret_one1 (j := 0) (l := [_]) rfl rfl rfl rfl (fun L => rfl)
  · rcases hx with h | ⟨id, o, g, e, vs, rfl, a1, a2, a3⟩
    · exact absurd (by simpa using h) h0
    · simp (maxSteps := 1000000) (disch := omega) only [B32, ax6, ax1, ax2, ax3, ax4, reduceIte, Nat.reduceAdd, Nat.reduceMul, Nat.reduceEqDiff, Nat.reduceLeDiff, reduceCtorEq, Int.reduceAdd, Int.reduceSub, Int.reduceMul, Int.reduceNeg, Int.reduceEq, Int.reduceTMod, Int.reduceTDiv, Int.reduceLT, Int.reduceLE, Int.reduceToNat, Int.reduceBEq, Int.reduceBNe, decide_true, decide_false, and_self, and_true, true_and, w64, dT, dF, bT, bF, nT, nF, if_pos, if_neg, Int.tmod_eq_emod_of_nonneg, Int.tdiv_eq_ediv_of_nonneg, Int.toNat_natCast, Nat.mul_one, Nat.one_mul, Nat.zero_add, Nat.add_zero, Nat.zero_mul, Nat.sub_zero, or_false, or_true, true_or, false_or]
      rw [show XW Tb gl H.length L32_0 = XW Tb gl H.length (.loop [3, 7, 8, 9] _) from rfl, XW_mask]
      simp (maxSteps := 1000000) (disch := omega) only [ax6, ax1, ax2, ax3, ax4, reduceIte, Nat.reduceAdd, Nat.reduceMul, Nat.reduceEqDiff, Nat.reduceLeDiff, reduceCtorEq, Int.reduceAdd, Int.reduceSub, Int.reduceMul, Int.reduceNeg, Int.reduceEq, Int.reduceTMod, Int.reduceTDiv, Int.reduceLT, Int.reduceLE, Int.reduceToNat, Int.reduceBEq, Int.reduceBNe, decide_true, decide_false, and_self, and_true, true_and, w64, dT, dF, bT, bF, nT, nF, if_pos, if_neg, Int.tmod_eq_emod_of_nonneg, Int.tdiv_eq_ediv_of_nonneg, Int.toNat_natCast, Nat.mul_one, Nat.one_mul, Nat.zero_add, Nat.add_zero, Nat.zero_mul, Nat.sub_zero, or_false, or_true, true_or, false_or]
      have outer := fun (Q' : AX → Env → Heap → Prop) K => l32_0 (gl := gl) (Q := Q') (x := x) a1 a3 hn K us.length 0 [] (by omega)
      refine outer _ fun T => ?_
      simp (maxSteps := 1000000) (disch := omega) only [ax6, ax1, ax2, ax3, ax4, reduceIte, Nat.reduceAdd, Nat.reduceMul, Nat.reduceEqDiff, Nat.reduceLeDiff, reduceCtorEq, Int.reduceAdd, Int.reduceSub, Int.reduceMul, Int.reduceNeg, Int.reduceEq, Int.reduceTMod, Int.reduceTDiv, Int.reduceLT, Int.reduceLE, Int.reduceToNat, Int.reduceBEq, Int.reduceBNe, decide_true, decide_false, and_self, and_true, true_and, w64, dT, dF, bT, bF, nT, nF, if_pos, if_neg, Int.tmod_eq_emod_of_nonneg, Int.tdiv_eq_ediv_of_nonneg, Int.toNat_natCast, Nat.mul_one, Nat.one_mul, Nat.zero_add, Nat.add_zero, Nat.zero_mul, Nat.sub_zero, or_false, or_true, true_or, false_or]
      exact ret_one1 (j := 0) (l := _ :: _) rfl rfl rfl (by simp [Heap.at]) (fun L => fl_noNew L _)
/-- 77 and 88. -/
def mk2 : List Value := [.float .f64 4635118810238550016, .float .f64 4635892866424504320]
theorem c37 {xs : List Nat} {v : Value} (hx : Rd H v (fl xs)) (hb : base ≤ H.length) (hn : (xs.length + 2) * 8 ≤ 140737488355328) :
    ∃ g, Cf Tb gl base 37 [v] H = some (.tuple #[.slice (some ⟨H.length, 0, some g⟩) xs.length 1, .slice (some ⟨H.length, 0, some g⟩) (xs.length + 2) 1], H ++ [.cells g 1 (fl xs ++ mk2), .cells 0 1 mk2]) := by
  obtain ⟨a, x, rfl, hx⟩ := hx
  rw [fl_length] at hx ⊢
  have grab2 : ∀ g cs, Heap.grab (H ++ [.cells g 1 cs, .cells 0 1 [Value.float .f64 4635118810238550016, .float .f64 4635892866424504320]]) 1 (.slice (some ⟨H.length + 1, 0, some 0⟩) 2 1) 2 = some mk2 := fun g cs => by
    unfold Heap.grab
    simp only [at_app, ax4]
    rfl
  have app2 : ∀ g (cs : List Value), cs.length = xs.length → appV base (H ++ [.cells g 1 cs, .cells 0 1 [Value.float .f64 4635118810238550016, .float .f64 4635892866424504320]]) 1 8 (.slice (some ⟨H.length, 0, some g⟩) xs.length 1) (.slice (some ⟨H.length + 1, 0, some 0⟩) 2 1) = some (.slice (some ⟨H.length, 0, some (g + 1)⟩) (xs.length + 2) 1, H ++ [.cells (g + 1) 1 (cs ++ mk2), .cells 0 1 mk2]) := fun g cs hc => by
    rw [app_many (e' := 1) (cs := cs) (by rw [at_app0]; simp [Heap.at]) (grab2 g cs) (by decide) hb (by decide) (by omega) (by omega) (by omega), set_app0]
    rfl
  by_cases h0 : xs = []
  · subst h0
    refine ⟨1, Cf_of T37 (by simp) ?_⟩
    have app1 : appV base (H ++ [.cells 0 1 []]) 1 8 (.slice (some ⟨H.length, 0, some 0⟩) 0 1) (.slice a 0 x) = some (.slice (some ⟨H.length, 0, some 0⟩) 0 1, H ++ [.cells 0 1 []]) := by unfold appV; rfl
    have app2' := app2 0 [] rfl
    simp only [List.length_nil, Nat.zero_add, List.nil_append] at app2'
    simp (maxSteps := 1000000) (disch := omega) only [B37, ax6, List.length_nil, Int.natCast_zero, app1, app2', Option.map_none, Option.map_some, cut, asI, ax1, ax2, ax3, ax4, reduceIte, Nat.reduceAdd, Nat.reduceMul, Nat.reduceEqDiff, Nat.reduceLeDiff, reduceCtorEq, Int.reduceAdd, Int.reduceSub, Int.reduceMul, Int.reduceNeg, Int.reduceEq, Int.reduceTMod, Int.reduceTDiv, Int.reduceLT, Int.reduceLE, Int.reduceToNat, Int.reduceBEq, Int.reduceBNe, decide_true, decide_false, and_self, and_true, true_and, w64, dT, dF, bT, bF, nT, nF, if_pos, if_neg, Int.tmod_eq_emod_of_nonneg, Int.tdiv_eq_ediv_of_nonneg, Int.toNat_natCast, Nat.mul_one, Nat.one_mul, Nat.zero_add, Nat.add_zero, Nat.zero_mul, Nat.sub_zero, or_false, or_true, true_or, false_or]
    exact ret_keep rfl rfl rfl
  · rcases hx with h | ⟨id, o, g, e, vs, rfl, a1, a2, a3⟩
    · exact absurd (by simpa [fl] using h) h0
    · have hne : xs.length ≠ 0 := fun h => h0 (List.eq_nil_of_length_eq_zero h)
      refine ⟨2, Cf_of T37 (by simp) ?_⟩
      have app1 : appV base (H ++ [.cells 0 1 []]) 1 8 (.slice (some ⟨H.length, 0, some 0⟩) 0 1) (.slice (some ⟨id, o, some g⟩) xs.length x) = some (.slice (some ⟨H.length, 0, some 1⟩) xs.length 1, H ++ [.cells 1 1 (fl xs)]) := by
        have hg : Heap.grab (H ++ [.cells 0 1 []]) 1 (.slice (some ⟨id, o, some g⟩) xs.length x) xs.length = some (fl xs) := by
          unfold Heap.grab
          have ht := take_eq_of (l := fl xs) (vs := vs) (o := o) (by rw [fl_length]; exact a2) (by rw [fl_length]; exact a3)
          rw [fl_length] at ht
          simp only [at_old a1, Nat.mul_one, ht, fl_one]
          rw [if_pos ⟨a2, trivial⟩]
        rw [app_many (e' := 1) (cs := []) (by rw [at_app0]; simp [Heap.at]) hg hne hb (by decide) rfl (by omega) (by omega), set_app0]
        simp
      simp (maxSteps := 1000000) (disch := omega) only [B37, ax6, app1, app2 1 (fl xs) (fl_length _), Option.map_none, Option.map_some, cut, asI, ax1, ax2, ax3, ax4, reduceIte, Nat.reduceAdd, Nat.reduceMul, Nat.reduceEqDiff, Nat.reduceLeDiff, reduceCtorEq, Int.reduceAdd, Int.reduceSub, Int.reduceMul, Int.reduceNeg, Int.reduceEq, Int.reduceTMod, Int.reduceTDiv, Int.reduceLT, Int.reduceLE, Int.reduceToNat, Int.reduceBEq, Int.reduceBNe, decide_true, decide_false, and_self, and_true, true_and, w64, dT, dF, bT, bF, nT, nF, if_pos, if_neg, Int.tmod_eq_emod_of_nonneg, Int.tdiv_eq_ediv_of_nonneg, Int.toNat_natCast, Nat.mul_one, Nat.one_mul, Nat.zero_add, Nat.add_zero, Nat.zero_mul, Nat.sub_zero, or_false, or_true, true_or, false_or]
      exact ret_keep rfl rfl rfl
theorem c40 {xs : List Nat} {id g e : Nat} {vx : Value} (hf : H.at id g = some (e, fl xs ++ mk2)) (hx : Rd H vx (fl xs)) (hn : xs.length ≤ 1000000000000000) :
    Cf Tb gl base 40 [.slice (some ⟨id, 0, some g⟩) (xs.length + 2) 1, vx] H = some (.bool true, H) := by
  refine Cf_of T40 (by simp) ?_
  have hr : Rd H (.slice (some ⟨id, 0, some g⟩) xs.length 1) (fl xs) := by
    refine ⟨_, 1, by rw [fl_length], .inr ⟨id, 0, g, e, fl xs ++ mk2, rfl, hf, by simp, fun i hi => ?_⟩⟩
    rw [Nat.zero_add, List.getElem?_append_left hi]
  have g1 : (fl xs ++ mk2)[xs.length]? = some (.float .f64 4635118810238550016) := by
    rw [List.getElem?_append_right (by rw [fl_length]; omega), fl_length, Nat.sub_self]; rfl
  have g2 : (fl xs ++ mk2)[xs.length + 1]? = some (.float .f64 4635892866424504320) := by
    rw [List.getElem?_append_right (by rw [fl_length]; omega), fl_length, Nat.add_sub_cancel_left]; rfl
  have f1 : feq 4635118810238550016 4635118810238550016 = true := by decide +kernel
  have f2 : feq 4635892866424504320 4635892866424504320 = true := by decide +kernel
  have c := fun b => c39 (gl := gl) (base := b) hr hx hn hn
  obtain ⟨a, x, rfl, _⟩ := hx
  rw [fl_length] at c ⊢
  have e1 : ((xs.length : Int) + 1).toNat = xs.length + 1 := by omega
  simp (maxSteps := 1000000) (disch := omega) only [B40, ax6, Option.map_none, Option.map_some, cut, asI, c, hf, part, g1, g2, f1, f2, e1, ax1, ax2, ax3, ax4, reduceIte, Nat.reduceAdd, Nat.reduceMul, Nat.reduceEqDiff, Nat.reduceLeDiff, reduceCtorEq, Int.reduceAdd, Int.reduceSub, Int.reduceMul, Int.reduceNeg, Int.reduceEq, Int.reduceTMod, Int.reduceTDiv, Int.reduceLT, Int.reduceLE, Int.reduceToNat, Int.reduceBEq, Int.reduceBNe, decide_true, decide_false, and_self, and_true, true_and, w64, dT, dF, bT, bF, nT, nF, if_pos, if_neg, Int.tmod_eq_emod_of_nonneg, Int.tdiv_eq_ediv_of_nonneg, Int.toNat_natCast, Nat.mul_one, Nat.one_mul, Nat.zero_add, Nat.add_zero, Nat.zero_mul, Nat.sub_zero, or_false, or_true, true_or, false_or]
  exact ret_drop0 rfl rfl rfl rfl
end
end Go.AM.Cd
/- The errors' numbers. No condition. -/
set_option maxRecDepth 20000
set_option maxHeartbeats 2000000
set_option linter.unusedSimpArgs false
namespace Go.AM.Cd
section
variable {gl base : Nat} {H : Heap}
def errL : List Value := [.iface 329 (.pointer (some ⟨26, 0, some 0⟩)), .iface 329 (.pointer (some ⟨27, 0, some 0⟩)), .iface 329 (.pointer (some ⟨28, 0, some 0⟩)), .iface 329 (.pointer (some ⟨29, 0, some 0⟩)), .iface 329 (.pointer (some ⟨30, 0, some 0⟩)), .iface 329 (.pointer (some ⟨31, 0, some 0⟩)), .iface 329 (.pointer (some ⟨25, 0, some 0⟩)), .iface 329 (.pointer (some ⟨32, 0, some 0⟩)), .iface 329 (.pointer (some ⟨33, 0, some 0⟩)), .iface 329 (.pointer (some ⟨34, 0, some 0⟩)), .iface 329 (.pointer (some ⟨35, 0, some 0⟩)), .iface 329 (.pointer (some ⟨36, 0, some 0⟩)), .iface 329 (.pointer (some ⟨37, 0, some 0⟩)), .iface 329 (.pointer (some ⟨38, 0, some 0⟩)), .iface 329 (.pointer (some ⟨39, 0, some 0⟩)), .iface 329 (.pointer (some ⟨40, 0, some 0⟩)), .iface 329 (.pointer (some ⟨24, 0, some 0⟩)), .iface 329 (.pointer (some ⟨41, 0, some 0⟩)), .iface 329 (.pointer (some ⟨42, 0, some 0⟩))]
theorem mkE : fillAt (List.replicate 19 .nilIface) [(0, 1, .iface 329 (.pointer (some ⟨26, 0, some 0⟩))), (1, 1, .iface 329 (.pointer (some ⟨27, 0, some 0⟩))), (2, 1, .iface 329 (.pointer (some ⟨28, 0, some 0⟩))), (3, 1, .iface 329 (.pointer (some ⟨29, 0, some 0⟩))), (4, 1, .iface 329 (.pointer (some ⟨30, 0, some 0⟩))), (5, 1, .iface 329 (.pointer (some ⟨31, 0, some 0⟩))), (6, 1, .iface 329 (.pointer (some ⟨25, 0, some 0⟩))), (7, 1, .iface 329 (.pointer (some ⟨32, 0, some 0⟩))), (8, 1, .iface 329 (.pointer (some ⟨33, 0, some 0⟩))), (9, 1, .iface 329 (.pointer (some ⟨34, 0, some 0⟩))), (10, 1, .iface 329 (.pointer (some ⟨35, 0, some 0⟩))), (11, 1, .iface 329 (.pointer (some ⟨36, 0, some 0⟩))), (12, 1, .iface 329 (.pointer (some ⟨37, 0, some 0⟩))), (13, 1, .iface 329 (.pointer (some ⟨38, 0, some 0⟩))), (14, 1, .iface 329 (.pointer (some ⟨39, 0, some 0⟩))), (15, 1, .iface 329 (.pointer (some ⟨40, 0, some 0⟩))), (16, 1, .iface 329 (.pointer (some ⟨24, 0, some 0⟩))), (17, 1, .iface 329 (.pointer (some ⟨41, 0, some 0⟩))), (18, 1, .iface 329 (.pointer (some ⟨42, 0, some 0⟩)))] = some errL := rfl
theorem stE (b id : Nat) (Hs : Heap) : stB b Hs id 0 0 19 (.agg errL.toArray) (some (0, List.replicate 19 .nilIface)) = if b ≤ id then some (List.set Hs id (.cells 0 0 errL)) else none := by
  unfold stB
  have h1 : (Value.list (.agg errL.toArray)).length = 19 := rfl
  have h2 : (Value.list (.agg errL.toArray)).all oneCell = true := rfl
  have h3 : 0 + 19 ≤ (List.replicate 19 Value.nilIface).length := by simp
  have h4 : setAll (List.replicate 19 .nilIface) 0 (Value.list (.agg errL.toArray)) = errL := rfl
  simp only [h1, h2, h3, h4, and_self, and_true]
theorem c62 (hG : Glob H) (hb : base ≤ H.length) : Cf Tb 43 base 62 [] H = some (.agg errL.toArray, H ++ [.cells 0 0 errL]) := by
  refine Cf_of T62 (by simp) ?_
  have hat : ∀ (l : Heap) (i : Nat), i < 19 → Heap.at (H ++ l) i 0 = some (0, [.iface 329 (.pointer (some ⟨24 + i, 0, some 0⟩))]) := fun l i hi => (hG.app l).at_ hi
  simp (maxSteps := 1000000) (disch := omega) only [B62, ax6, hat, part, List.getElem?_cons_zero, mkE, stE, ax1, ax2, ax3, ax4, reduceIte, Nat.reduceAdd, Nat.reduceMul, Nat.reduceEqDiff, Nat.reduceLeDiff, reduceCtorEq, Int.reduceAdd, Int.reduceSub, Int.reduceMul, Int.reduceNeg, Int.reduceEq, Int.reduceTMod, Int.reduceTDiv, Int.reduceLT, Int.reduceLE, Int.reduceToNat, Int.reduceBEq, Int.reduceBNe, decide_true, decide_false, and_self, and_true, true_and, w64, dT, dF, bT, bF, nT, nF, if_pos, if_neg, Int.tmod_eq_emod_of_nonneg, Int.tdiv_eq_ediv_of_nonneg, Int.toNat_natCast, Nat.mul_one, Nat.one_mul, Nat.zero_add, Nat.add_zero, Nat.zero_mul]
  refine ⟨.inr rfl, rfl, [.agg errL.toArray], ?_, rfl⟩
  simp only [resAll, resOf, R62, ax3, ax4, reduceIte, Nat.reduceEqDiff, part]
  rfl
/-- The number of no error, and of each of the package's. -/
theorem c18n : Cf Tb 43 base 18 [.nilIface] H = some (.int .i64 0, H) := by
  refine Cf_of T18 (by simp) ?_
  simp (maxSteps := 1000000) (disch := omega) only [B18, ax6, isC, Bool.or_true, ax1, ax2, ax3, ax4, reduceIte, Nat.reduceAdd, Nat.reduceMul, Nat.reduceEqDiff, Nat.reduceLeDiff, reduceCtorEq, Int.reduceAdd, Int.reduceSub, Int.reduceMul, Int.reduceNeg, Int.reduceEq, Int.reduceTMod, Int.reduceTDiv, Int.reduceLT, Int.reduceLE, Int.reduceToNat, Int.reduceBEq, Int.reduceBNe, decide_true, decide_false, and_self, and_true, true_and, w64, dT, dF, bT, bF, nT, nF, if_pos, if_neg, Int.tmod_eq_emod_of_nonneg, Int.tdiv_eq_ediv_of_nonneg, Int.toNat_natCast, Nat.mul_one, Nat.one_mul, Nat.zero_add, Nat.add_zero, Nat.zero_mul]
  exact ret_drop0 rfl rfl rfl rfl
theorem c18 (hG : Glob H) (k : Nat) (hk : k < 19) : Cf Tb 43 base 18 [.iface 329 (.pointer (some ⟨24 + k, 0, some 0⟩))] H = some (.int .i64 (if k = 0 then 17 else if k = 1 then 7 else if k ≤ 7 then k - 1 else if k ≤ 16 then k else k + 1), H) := by
  refine Cf_of T18 (by simp) ?_
  have hE : ∀ (l : Heap) (n c : Bool) (p q : Nat), 24 ≤ p → p < 43 → 24 ≤ q → q < 43 → eqiV 43 (H ++ l) 329 n c (some (.iface 329 (.pointer (some ⟨p, 0, some 0⟩)))) (some (.iface 329 (.pointer (some ⟨q, 0, some 0⟩)))) = some (.bool (if p = q then !n else n)) := fun l n c p q => (hG.app l).eqi n c
  match k, hk with
  | 0, _ =>
    simp (maxSteps := 1000000) (disch := omega) only [B18, L18_0, ax5, ax6, isC, Bool.or_true, c62 hG (Nat.le_refl _), hE, errL, ixaV, asI, List.toList_toArray, part, List.getElem?_cons_zero, List.getElem?_cons_succ, ax1, ax2, ax3, ax4, reduceIte, Nat.reduceAdd, Nat.reduceMul, Nat.reduceEqDiff, Nat.reduceLeDiff, reduceCtorEq, Int.reduceAdd, Int.reduceSub, Int.reduceMul, Int.reduceNeg, Int.reduceEq, Int.reduceTMod, Int.reduceTDiv, Int.reduceLT, Int.reduceLE, Int.reduceToNat, Int.reduceBEq, Int.reduceBNe, decide_true, decide_false, and_self, and_true, true_and, w64, dT, dF, bT, bF, nT, nF, if_pos, if_neg, Int.tmod_eq_emod_of_nonneg, Int.tdiv_eq_ediv_of_nonneg, Int.toNat_natCast, Nat.mul_one, Nat.one_mul, Nat.zero_add, Nat.add_zero, Nat.zero_mul]
    exact ret_drop rfl rfl rfl rfl
  | 1, _ =>
    simp (maxSteps := 1000000) (disch := omega) only [B18, L18_0, ax5, ax6, isC, Bool.or_true, c62 hG (Nat.le_refl _), hE, errL, ixaV, asI, List.toList_toArray, part, List.getElem?_cons_zero, List.getElem?_cons_succ, ax1, ax2, ax3, ax4, reduceIte, Nat.reduceAdd, Nat.reduceMul, Nat.reduceEqDiff, Nat.reduceLeDiff, reduceCtorEq, Int.reduceAdd, Int.reduceSub, Int.reduceMul, Int.reduceNeg, Int.reduceEq, Int.reduceTMod, Int.reduceTDiv, Int.reduceLT, Int.reduceLE, Int.reduceToNat, Int.reduceBEq, Int.reduceBNe, decide_true, decide_false, and_self, and_true, true_and, w64, dT, dF, bT, bF, nT, nF, if_pos, if_neg, Int.tmod_eq_emod_of_nonneg, Int.tdiv_eq_ediv_of_nonneg, Int.toNat_natCast, Nat.mul_one, Nat.one_mul, Nat.zero_add, Nat.add_zero, Nat.zero_mul]
    exact ret_drop rfl rfl rfl rfl
  | 2, _ =>
    simp (maxSteps := 1000000) (disch := omega) only [B18, L18_0, ax5, ax6, isC, Bool.or_true, c62 hG (Nat.le_refl _), hE, errL, ixaV, asI, List.toList_toArray, part, List.getElem?_cons_zero, List.getElem?_cons_succ, ax1, ax2, ax3, ax4, reduceIte, Nat.reduceAdd, Nat.reduceMul, Nat.reduceEqDiff, Nat.reduceLeDiff, reduceCtorEq, Int.reduceAdd, Int.reduceSub, Int.reduceMul, Int.reduceNeg, Int.reduceEq, Int.reduceTMod, Int.reduceTDiv, Int.reduceLT, Int.reduceLE, Int.reduceToNat, Int.reduceBEq, Int.reduceBNe, decide_true, decide_false, and_self, and_true, true_and, w64, dT, dF, bT, bF, nT, nF, if_pos, if_neg, Int.tmod_eq_emod_of_nonneg, Int.tdiv_eq_ediv_of_nonneg, Int.toNat_natCast, Nat.mul_one, Nat.one_mul, Nat.zero_add, Nat.add_zero, Nat.zero_mul]
    exact ret_drop rfl rfl rfl rfl
  | 3, _ =>
    simp (maxSteps := 1000000) (disch := omega) only [B18, L18_0, ax5, ax6, isC, Bool.or_true, c62 hG (Nat.le_refl _), hE, errL, ixaV, asI, List.toList_toArray, part, List.getElem?_cons_zero, List.getElem?_cons_succ, ax1, ax2, ax3, ax4, reduceIte, Nat.reduceAdd, Nat.reduceMul, Nat.reduceEqDiff, Nat.reduceLeDiff, reduceCtorEq, Int.reduceAdd, Int.reduceSub, Int.reduceMul, Int.reduceNeg, Int.reduceEq, Int.reduceTMod, Int.reduceTDiv, Int.reduceLT, Int.reduceLE, Int.reduceToNat, Int.reduceBEq, Int.reduceBNe, decide_true, decide_false, and_self, and_true, true_and, w64, dT, dF, bT, bF, nT, nF, if_pos, if_neg, Int.tmod_eq_emod_of_nonneg, Int.tdiv_eq_ediv_of_nonneg, Int.toNat_natCast, Nat.mul_one, Nat.one_mul, Nat.zero_add, Nat.add_zero, Nat.zero_mul]
    exact ret_drop rfl rfl rfl rfl
  | 4, _ =>
    simp (maxSteps := 1000000) (disch := omega) only [B18, L18_0, ax5, ax6, isC, Bool.or_true, c62 hG (Nat.le_refl _), hE, errL, ixaV, asI, List.toList_toArray, part, List.getElem?_cons_zero, List.getElem?_cons_succ, ax1, ax2, ax3, ax4, reduceIte, Nat.reduceAdd, Nat.reduceMul, Nat.reduceEqDiff, Nat.reduceLeDiff, reduceCtorEq, Int.reduceAdd, Int.reduceSub, Int.reduceMul, Int.reduceNeg, Int.reduceEq, Int.reduceTMod, Int.reduceTDiv, Int.reduceLT, Int.reduceLE, Int.reduceToNat, Int.reduceBEq, Int.reduceBNe, decide_true, decide_false, and_self, and_true, true_and, w64, dT, dF, bT, bF, nT, nF, if_pos, if_neg, Int.tmod_eq_emod_of_nonneg, Int.tdiv_eq_ediv_of_nonneg, Int.toNat_natCast, Nat.mul_one, Nat.one_mul, Nat.zero_add, Nat.add_zero, Nat.zero_mul]
    exact ret_drop rfl rfl rfl rfl
  | 5, _ =>
    simp (maxSteps := 1000000) (disch := omega) only [B18, L18_0, ax5, ax6, isC, Bool.or_true, c62 hG (Nat.le_refl _), hE, errL, ixaV, asI, List.toList_toArray, part, List.getElem?_cons_zero, List.getElem?_cons_succ, ax1, ax2, ax3, ax4, reduceIte, Nat.reduceAdd, Nat.reduceMul, Nat.reduceEqDiff, Nat.reduceLeDiff, reduceCtorEq, Int.reduceAdd, Int.reduceSub, Int.reduceMul, Int.reduceNeg, Int.reduceEq, Int.reduceTMod, Int.reduceTDiv, Int.reduceLT, Int.reduceLE, Int.reduceToNat, Int.reduceBEq, Int.reduceBNe, decide_true, decide_false, and_self, and_true, true_and, w64, dT, dF, bT, bF, nT, nF, if_pos, if_neg, Int.tmod_eq_emod_of_nonneg, Int.tdiv_eq_ediv_of_nonneg, Int.toNat_natCast, Nat.mul_one, Nat.one_mul, Nat.zero_add, Nat.add_zero, Nat.zero_mul]
    exact ret_drop rfl rfl rfl rfl
  | 6, _ =>
    simp (maxSteps := 1000000) (disch := omega) only [B18, L18_0, ax5, ax6, isC, Bool.or_true, c62 hG (Nat.le_refl _), hE, errL, ixaV, asI, List.toList_toArray, part, List.getElem?_cons_zero, List.getElem?_cons_succ, ax1, ax2, ax3, ax4, reduceIte, Nat.reduceAdd, Nat.reduceMul, Nat.reduceEqDiff, Nat.reduceLeDiff, reduceCtorEq, Int.reduceAdd, Int.reduceSub, Int.reduceMul, Int.reduceNeg, Int.reduceEq, Int.reduceTMod, Int.reduceTDiv, Int.reduceLT, Int.reduceLE, Int.reduceToNat, Int.reduceBEq, Int.reduceBNe, decide_true, decide_false, and_self, and_true, true_and, w64, dT, dF, bT, bF, nT, nF, if_pos, if_neg, Int.tmod_eq_emod_of_nonneg, Int.tdiv_eq_ediv_of_nonneg, Int.toNat_natCast, Nat.mul_one, Nat.one_mul, Nat.zero_add, Nat.add_zero, Nat.zero_mul]
    exact ret_drop rfl rfl rfl rfl
  | 7, _ =>
    simp (maxSteps := 1000000) (disch := omega) only [B18, L18_0, ax5, ax6, isC, Bool.or_true, c62 hG (Nat.le_refl _), hE, errL, ixaV, asI, List.toList_toArray, part, List.getElem?_cons_zero, List.getElem?_cons_succ, ax1, ax2, ax3, ax4, reduceIte, Nat.reduceAdd, Nat.reduceMul, Nat.reduceEqDiff, Nat.reduceLeDiff, reduceCtorEq, Int.reduceAdd, Int.reduceSub, Int.reduceMul, Int.reduceNeg, Int.reduceEq, Int.reduceTMod, Int.reduceTDiv, Int.reduceLT, Int.reduceLE, Int.reduceToNat, Int.reduceBEq, Int.reduceBNe, decide_true, decide_false, and_self, and_true, true_and, w64, dT, dF, bT, bF, nT, nF, if_pos, if_neg, Int.tmod_eq_emod_of_nonneg, Int.tdiv_eq_ediv_of_nonneg, Int.toNat_natCast, Nat.mul_one, Nat.one_mul, Nat.zero_add, Nat.add_zero, Nat.zero_mul]
    exact ret_drop rfl rfl rfl rfl
  | 8, _ =>
    simp (maxSteps := 1000000) (disch := omega) only [B18, L18_0, ax5, ax6, isC, Bool.or_true, c62 hG (Nat.le_refl _), hE, errL, ixaV, asI, List.toList_toArray, part, List.getElem?_cons_zero, List.getElem?_cons_succ, ax1, ax2, ax3, ax4, reduceIte, Nat.reduceAdd, Nat.reduceMul, Nat.reduceEqDiff, Nat.reduceLeDiff, reduceCtorEq, Int.reduceAdd, Int.reduceSub, Int.reduceMul, Int.reduceNeg, Int.reduceEq, Int.reduceTMod, Int.reduceTDiv, Int.reduceLT, Int.reduceLE, Int.reduceToNat, Int.reduceBEq, Int.reduceBNe, decide_true, decide_false, and_self, and_true, true_and, w64, dT, dF, bT, bF, nT, nF, if_pos, if_neg, Int.tmod_eq_emod_of_nonneg, Int.tdiv_eq_ediv_of_nonneg, Int.toNat_natCast, Nat.mul_one, Nat.one_mul, Nat.zero_add, Nat.add_zero, Nat.zero_mul]
    exact ret_drop rfl rfl rfl rfl
  | 9, _ =>
    simp (maxSteps := 1000000) (disch := omega) only [B18, L18_0, ax5, ax6, isC, Bool.or_true, c62 hG (Nat.le_refl _), hE, errL, ixaV, asI, List.toList_toArray, part, List.getElem?_cons_zero, List.getElem?_cons_succ, ax1, ax2, ax3, ax4, reduceIte, Nat.reduceAdd, Nat.reduceMul, Nat.reduceEqDiff, Nat.reduceLeDiff, reduceCtorEq, Int.reduceAdd, Int.reduceSub, Int.reduceMul, Int.reduceNeg, Int.reduceEq, Int.reduceTMod, Int.reduceTDiv, Int.reduceLT, Int.reduceLE, Int.reduceToNat, Int.reduceBEq, Int.reduceBNe, decide_true, decide_false, and_self, and_true, true_and, w64, dT, dF, bT, bF, nT, nF, if_pos, if_neg, Int.tmod_eq_emod_of_nonneg, Int.tdiv_eq_ediv_of_nonneg, Int.toNat_natCast, Nat.mul_one, Nat.one_mul, Nat.zero_add, Nat.add_zero, Nat.zero_mul]
    exact ret_drop rfl rfl rfl rfl
  | 10, _ =>
    simp (maxSteps := 1000000) (disch := omega) only [B18, L18_0, ax5, ax6, isC, Bool.or_true, c62 hG (Nat.le_refl _), hE, errL, ixaV, asI, List.toList_toArray, part, List.getElem?_cons_zero, List.getElem?_cons_succ, ax1, ax2, ax3, ax4, reduceIte, Nat.reduceAdd, Nat.reduceMul, Nat.reduceEqDiff, Nat.reduceLeDiff, reduceCtorEq, Int.reduceAdd, Int.reduceSub, Int.reduceMul, Int.reduceNeg, Int.reduceEq, Int.reduceTMod, Int.reduceTDiv, Int.reduceLT, Int.reduceLE, Int.reduceToNat, Int.reduceBEq, Int.reduceBNe, decide_true, decide_false, and_self, and_true, true_and, w64, dT, dF, bT, bF, nT, nF, if_pos, if_neg, Int.tmod_eq_emod_of_nonneg, Int.tdiv_eq_ediv_of_nonneg, Int.toNat_natCast, Nat.mul_one, Nat.one_mul, Nat.zero_add, Nat.add_zero, Nat.zero_mul]
    exact ret_drop rfl rfl rfl rfl
  | 11, _ =>
    simp (maxSteps := 1000000) (disch := omega) only [B18, L18_0, ax5, ax6, isC, Bool.or_true, c62 hG (Nat.le_refl _), hE, errL, ixaV, asI, List.toList_toArray, part, List.getElem?_cons_zero, List.getElem?_cons_succ, ax1, ax2, ax3, ax4, reduceIte, Nat.reduceAdd, Nat.reduceMul, Nat.reduceEqDiff, Nat.reduceLeDiff, reduceCtorEq, Int.reduceAdd, Int.reduceSub, Int.reduceMul, Int.reduceNeg, Int.reduceEq, Int.reduceTMod, Int.reduceTDiv, Int.reduceLT, Int.reduceLE, Int.reduceToNat, Int.reduceBEq, Int.reduceBNe, decide_true, decide_false, and_self, and_true, true_and, w64, dT, dF, bT, bF, nT, nF, if_pos, if_neg, Int.tmod_eq_emod_of_nonneg, Int.tdiv_eq_ediv_of_nonneg, Int.toNat_natCast, Nat.mul_one, Nat.one_mul, Nat.zero_add, Nat.add_zero, Nat.zero_mul]
    exact ret_drop rfl rfl rfl rfl
  | 12, _ =>
    simp (maxSteps := 1000000) (disch := omega) only [B18, L18_0, ax5, ax6, isC, Bool.or_true, c62 hG (Nat.le_refl _), hE, errL, ixaV, asI, List.toList_toArray, part, List.getElem?_cons_zero, List.getElem?_cons_succ, ax1, ax2, ax3, ax4, reduceIte, Nat.reduceAdd, Nat.reduceMul, Nat.reduceEqDiff, Nat.reduceLeDiff, reduceCtorEq, Int.reduceAdd, Int.reduceSub, Int.reduceMul, Int.reduceNeg, Int.reduceEq, Int.reduceTMod, Int.reduceTDiv, Int.reduceLT, Int.reduceLE, Int.reduceToNat, Int.reduceBEq, Int.reduceBNe, decide_true, decide_false, and_self, and_true, true_and, w64, dT, dF, bT, bF, nT, nF, if_pos, if_neg, Int.tmod_eq_emod_of_nonneg, Int.tdiv_eq_ediv_of_nonneg, Int.toNat_natCast, Nat.mul_one, Nat.one_mul, Nat.zero_add, Nat.add_zero, Nat.zero_mul]
    exact ret_drop rfl rfl rfl rfl
  | 13, _ =>
    simp (maxSteps := 1000000) (disch := omega) only [B18, L18_0, ax5, ax6, isC, Bool.or_true, c62 hG (Nat.le_refl _), hE, errL, ixaV, asI, List.toList_toArray, part, List.getElem?_cons_zero, List.getElem?_cons_succ, ax1, ax2, ax3, ax4, reduceIte, Nat.reduceAdd, Nat.reduceMul, Nat.reduceEqDiff, Nat.reduceLeDiff, reduceCtorEq, Int.reduceAdd, Int.reduceSub, Int.reduceMul, Int.reduceNeg, Int.reduceEq, Int.reduceTMod, Int.reduceTDiv, Int.reduceLT, Int.reduceLE, Int.reduceToNat, Int.reduceBEq, Int.reduceBNe, decide_true, decide_false, and_self, and_true, true_and, w64, dT, dF, bT, bF, nT, nF, if_pos, if_neg, Int.tmod_eq_emod_of_nonneg, Int.tdiv_eq_ediv_of_nonneg, Int.toNat_natCast, Nat.mul_one, Nat.one_mul, Nat.zero_add, Nat.add_zero, Nat.zero_mul]
    exact ret_drop rfl rfl rfl rfl
  | 14, _ =>
    simp (maxSteps := 1000000) (disch := omega) only [B18, L18_0, ax5, ax6, isC, Bool.or_true, c62 hG (Nat.le_refl _), hE, errL, ixaV, asI, List.toList_toArray, part, List.getElem?_cons_zero, List.getElem?_cons_succ, ax1, ax2, ax3, ax4, reduceIte, Nat.reduceAdd, Nat.reduceMul, Nat.reduceEqDiff, Nat.reduceLeDiff, reduceCtorEq, Int.reduceAdd, Int.reduceSub, Int.reduceMul, Int.reduceNeg, Int.reduceEq, Int.reduceTMod, Int.reduceTDiv, Int.reduceLT, Int.reduceLE, Int.reduceToNat, Int.reduceBEq, Int.reduceBNe, decide_true, decide_false, and_self, and_true, true_and, w64, dT, dF, bT, bF, nT, nF, if_pos, if_neg, Int.tmod_eq_emod_of_nonneg, Int.tdiv_eq_ediv_of_nonneg, Int.toNat_natCast, Nat.mul_one, Nat.one_mul, Nat.zero_add, Nat.add_zero, Nat.zero_mul]
    exact ret_drop rfl rfl rfl rfl
  | 15, _ =>
    simp (maxSteps := 1000000) (disch := omega) only [B18, L18_0, ax5, ax6, isC, Bool.or_true, c62 hG (Nat.le_refl _), hE, errL, ixaV, asI, List.toList_toArray, part, List.getElem?_cons_zero, List.getElem?_cons_succ, ax1, ax2, ax3, ax4, reduceIte, Nat.reduceAdd, Nat.reduceMul, Nat.reduceEqDiff, Nat.reduceLeDiff, reduceCtorEq, Int.reduceAdd, Int.reduceSub, Int.reduceMul, Int.reduceNeg, Int.reduceEq, Int.reduceTMod, Int.reduceTDiv, Int.reduceLT, Int.reduceLE, Int.reduceToNat, Int.reduceBEq, Int.reduceBNe, decide_true, decide_false, and_self, and_true, true_and, w64, dT, dF, bT, bF, nT, nF, if_pos, if_neg, Int.tmod_eq_emod_of_nonneg, Int.tdiv_eq_ediv_of_nonneg, Int.toNat_natCast, Nat.mul_one, Nat.one_mul, Nat.zero_add, Nat.add_zero, Nat.zero_mul]
    exact ret_drop rfl rfl rfl rfl
  | 16, _ =>
    simp (maxSteps := 1000000) (disch := omega) only [B18, L18_0, ax5, ax6, isC, Bool.or_true, c62 hG (Nat.le_refl _), hE, errL, ixaV, asI, List.toList_toArray, part, List.getElem?_cons_zero, List.getElem?_cons_succ, ax1, ax2, ax3, ax4, reduceIte, Nat.reduceAdd, Nat.reduceMul, Nat.reduceEqDiff, Nat.reduceLeDiff, reduceCtorEq, Int.reduceAdd, Int.reduceSub, Int.reduceMul, Int.reduceNeg, Int.reduceEq, Int.reduceTMod, Int.reduceTDiv, Int.reduceLT, Int.reduceLE, Int.reduceToNat, Int.reduceBEq, Int.reduceBNe, decide_true, decide_false, and_self, and_true, true_and, w64, dT, dF, bT, bF, nT, nF, if_pos, if_neg, Int.tmod_eq_emod_of_nonneg, Int.tdiv_eq_ediv_of_nonneg, Int.toNat_natCast, Nat.mul_one, Nat.one_mul, Nat.zero_add, Nat.add_zero, Nat.zero_mul]
    exact ret_drop rfl rfl rfl rfl
  | 17, _ =>
    simp (maxSteps := 1000000) (disch := omega) only [B18, L18_0, ax5, ax6, isC, Bool.or_true, c62 hG (Nat.le_refl _), hE, errL, ixaV, asI, List.toList_toArray, part, List.getElem?_cons_zero, List.getElem?_cons_succ, ax1, ax2, ax3, ax4, reduceIte, Nat.reduceAdd, Nat.reduceMul, Nat.reduceEqDiff, Nat.reduceLeDiff, reduceCtorEq, Int.reduceAdd, Int.reduceSub, Int.reduceMul, Int.reduceNeg, Int.reduceEq, Int.reduceTMod, Int.reduceTDiv, Int.reduceLT, Int.reduceLE, Int.reduceToNat, Int.reduceBEq, Int.reduceBNe, decide_true, decide_false, and_self, and_true, true_and, w64, dT, dF, bT, bF, nT, nF, if_pos, if_neg, Int.tmod_eq_emod_of_nonneg, Int.tdiv_eq_ediv_of_nonneg, Int.toNat_natCast, Nat.mul_one, Nat.one_mul, Nat.zero_add, Nat.add_zero, Nat.zero_mul]
    exact ret_drop rfl rfl rfl rfl
  | 18, _ =>
    simp (maxSteps := 1000000) (disch := omega) only [B18, L18_0, ax5, ax6, isC, Bool.or_true, c62 hG (Nat.le_refl _), hE, errL, ixaV, asI, List.toList_toArray, part, List.getElem?_cons_zero, List.getElem?_cons_succ, ax1, ax2, ax3, ax4, reduceIte, Nat.reduceAdd, Nat.reduceMul, Nat.reduceEqDiff, Nat.reduceLeDiff, reduceCtorEq, Int.reduceAdd, Int.reduceSub, Int.reduceMul, Int.reduceNeg, Int.reduceEq, Int.reduceTMod, Int.reduceTDiv, Int.reduceLT, Int.reduceLE, Int.reduceToNat, Int.reduceBEq, Int.reduceBNe, decide_true, decide_false, and_self, and_true, true_and, w64, dT, dF, bT, bF, nT, nF, if_pos, if_neg, Int.tmod_eq_emod_of_nonneg, Int.tdiv_eq_ediv_of_nonneg, Int.toNat_natCast, Nat.mul_one, Nat.one_mul, Nat.zero_add, Nat.add_zero, Nat.zero_mul]
    exact ret_drop rfl rfl rfl rfl
  | n + 19, h => exact absurd h (by omega)
end
end Go.AM.Cd
/- CosineSums: the law, as the machine runs it. No condition. -/
set_option maxRecDepth 20000
set_option maxHeartbeats 4000000
set_option linter.unusedSimpArgs false
namespace Go.AM
def retE (res : List Res) (v : Value) : AX → Env → Heap → Prop := fun x ρ H' => (x = .normal ∨ x = .ret) ∧ marksOf ρ = [] ∧ ∃ l, resAll ρ H' res = some l ∧ resV l = v
theorem Cf_ex {F : Nat → Option AFun} {gl base k : Nat} {H : Heap} {body : ACode} {res : List Res} {vs : List Value} {v : Value} (h : F k = some (.code body res .keep)) (hv : vs.length ≤ 1000)
    (hx : XW F gl base body (Env.ofList (args0 0 vs)) H (retE res v)) : ∃ H', Cf F gl base k vs H = some (v, H') := by
  obtain ⟨x, ρ', H', e, hn, hm, l, hl, hs⟩ := XW_iff.1 hx
  refine ⟨H', Cf_of h hv (XW_iff.2 ⟨x, ρ', H', e, hn, hm, l, hl, ?_⟩)⟩
  rw [hs]; rfl
theorem ret_ex {res : List Res} {v : Value} {ρ : Env} {H : Heap} {vs : List Value} (hm : marksOf ρ = []) (hr : resAll ρ H res = some vs) (hv : resV vs = v) : retE res v .ret ρ H := ⟨.inr rfl, hm, vs, hr, hv⟩
theorem grab1 {Hs : Heap} {e tid e' : Nat} {new : List Value} (h : Hs.at tid 0 = some (e', new)) (hn : new.length = e) (ho : new.all oneCell = true) : Hs.grab e (.slice (some ⟨tid, 0, some 0⟩) 1 e) 1 = some new := by
  unfold Heap.grab
  simp only [h, Nat.one_mul, Nat.zero_add, List.drop_zero]
  rw [List.take_of_length_le (by omega)]
  rw [if_pos ⟨by omega, ho⟩]
theorem set_at {H : Heap} {id g e : Nat} {cs : List Value} (h : H.at id g = some (e, cs)) : List.set H id (.cells g e cs) = H := by
  have : H[id]? = some (.cells g e cs) := by
    unfold Heap.at at h
    split at h <;> try contradiction
    rename_i g' e' vs hc
    split at h <;> try contradiction
    rename_i hg
    cases h
    subst hg
    exact hc
  apply List.ext_getElem?
  intro i
  by_cases hi : id = i
  · subst hi
    rw [List.getElem?_set_self (List.getElem?_eq_some_iff.1 this).1, this]
  · rw [List.getElem?_set_ne hi]
theorem at_set {H : Heap} {id g e : Nat} {cs cs' : List Value} (h : H.at id g = some (e, cs)) : Heap.at (List.set H id (.cells g e cs')) id g = some (e, cs') := by
  have hlt : id < H.length := by
    unfold Heap.at at h
    cases hj : H[id]? with
    | none => rw [hj] at h; cases h
    | some b => exact (List.getElem?_eq_some_iff.1 hj).1
  unfold Heap.at
  rw [List.getElem?_set_self hlt]; simp
end Go.AM
namespace Go.AM.Cd
section
variable {gl base : Nat} {H : Heap} {Q : AX → Env → Heap → Prop}
theorem l7_0 {id g e n x : Nat} {tw z : Value} (hb : base ≤ id) (hn : n ≤ 1000000000000000) : ∀ (d i : Nat) (Hs : Heap) (cs : List Value), i + d = n → cs.length = n → Hs.at id g = some (e, cs) →
    XW Tb gl base L7_0 (Env.ofList [(6, .slice (some ⟨id, 0, some g⟩) n x), (8, tw), (10, z), (62, .int .i64 n), (63, .int .i64 i)]) Hs Q =
    Q (.exit 0) (Env.ofList [(64, .bool false), (6, .slice (some ⟨id, 0, some g⟩) n x), (8, tw), (10, z), (62, .int .i64 n), (63, .int .i64 n)]) (List.set Hs id (.cells g e (cs.take i ++ List.replicate d (.float .f64 4613937818241073152)))) := by
  intro d
  induction d with
  | zero =>
    intro i Hs cs hi hcs hat
    obtain rfl : i = n := by omega
    rw [List.take_of_length_le (by omega), List.replicate_zero, List.append_nil, set_at hat]
    conv => lhs; unfold L7_0; rw [XW_loop_eq]
    simp (maxSteps := 1000000) (disch := omega) only [ax6, ax7, ax1, ax2, ax3, ax4, reduceIte, Nat.reduceAdd, Nat.reduceMul, Nat.reduceEqDiff, Nat.reduceLeDiff, reduceCtorEq, Int.reduceAdd, Int.reduceSub, Int.reduceMul, Int.reduceNeg, Int.reduceEq, Int.reduceTMod, Int.reduceTDiv, Int.reduceLT, Int.reduceLE, Int.reduceToNat, Int.reduceBEq, Int.reduceBNe, decide_true, decide_false, and_self, and_true, true_and, w64, dT, dF, bT, bF, nT, nF, if_pos, if_neg, Int.tmod_eq_emod_of_nonneg, Int.tdiv_eq_ediv_of_nonneg, Int.toNat_natCast, Nat.mul_one, Nat.one_mul, Nat.zero_add, Nat.add_zero, Nat.zero_mul, Nat.sub_zero, or_false, or_true, true_or, false_or]
  | succ d ih =>
    intro i Hs cs hi hcs hat
    conv => lhs; unfold L7_0; rw [XW_loop_eq]
    simp (maxSteps := 1000000) (disch := omega) only [ax6, ax7, hat, ax1, ax2, ax3, ax4, reduceIte, Nat.reduceAdd, Nat.reduceMul, Nat.reduceEqDiff, Nat.reduceLeDiff, reduceCtorEq, Int.reduceAdd, Int.reduceSub, Int.reduceMul, Int.reduceNeg, Int.reduceEq, Int.reduceTMod, Int.reduceTDiv, Int.reduceLT, Int.reduceLE, Int.reduceToNat, Int.reduceBEq, Int.reduceBNe, decide_true, decide_false, and_self, and_true, true_and, w64, dT, dF, bT, bF, nT, nF, if_pos, if_neg, Int.tmod_eq_emod_of_nonneg, Int.tdiv_eq_ediv_of_nonneg, Int.toNat_natCast, Nat.mul_one, Nat.one_mul, Nat.zero_add, Nat.add_zero, Nat.zero_mul, Nat.sub_zero, or_false, or_true, true_or, false_or]
    rw [XW_mask]
    simp (maxSteps := 1000000) (disch := omega) only [ax6, ax1, ax2, ax3, ax4, reduceIte, Nat.reduceAdd, Nat.reduceMul, Nat.reduceEqDiff, Nat.reduceLeDiff, reduceCtorEq, Int.reduceAdd, Int.reduceSub, Int.reduceMul, Int.reduceNeg, Int.reduceEq, Int.reduceTMod, Int.reduceTDiv, Int.reduceLT, Int.reduceLE, Int.reduceToNat, Int.reduceBEq, Int.reduceBNe, decide_true, decide_false, and_self, and_true, true_and, w64, dT, dF, bT, bF, nT, nF, if_pos, if_neg, Int.tmod_eq_emod_of_nonneg, Int.tdiv_eq_ediv_of_nonneg, Int.toNat_natCast, Nat.mul_one, Nat.one_mul, Nat.zero_add, Nat.add_zero, Nat.zero_mul, Nat.sub_zero, or_false, or_true, true_or, false_or]
    refine (ih (i + 1) _ (cs.set i (.float .f64 4613937818241073152)) (by omega) (by simpa using hcs) (at_set hat)).trans ?_
    rw [List.set_set]
    have e1 : (cs.set i (Value.float .f64 4613937818241073152)).take (i + 1) = cs.take i ++ [.float .f64 4613937818241073152] := by
      rw [List.take_succ_eq_append_getElem (by simpa using (by omega : i < cs.length)), List.getElem_set_self, List.take_set_of_le (Nat.le_refl _)]
    rw [e1, List.append_assoc, List.replicate_succ]
    rfl
/-- A list that the sum refuses or lets pass unseen; and one that is summed. -/
theorem law7 {us : List Int} {v : Value} (hG : Glob H) (hl : Cf Tb 43 H.length 31 [] H = some (.bool true, H)) (hx : Rd H v (us.map (Value.int .u64))) (hn : (us.length + 2) * 8 ≤ 140737488355328) :
    ∃ H', Cf Tb 43 H.length 7 [v] H = some (.bool true, H') := by
  have k32 : Cf Tb 43 H.length 32 [v] H = _ := c32 hx (by omega)
  have hxl : (flo us).length = us.length := by simp [flo]
  generalize flo us = xs at k32 hxl
  rw [← hxl] at k32 hn
  clear hxl hx us
  have r1 : Rd (H ++ [.cells xs.length 1 (fl xs)]) (.slice (some ⟨H.length, 0, some xs.length⟩) xs.length 1) (fl xs) := Rd.mk1 (e := 1) (by rw [at_app0]; simp [Heap.at]) (by rw [fl_length])
  refine Cf_ex T7 (by simp) ?_
  by_cases hskip : 150 < xs.length ∧ xs.length ≤ 1024
  · simp (maxSteps := 1000000) (disch := omega) only [B7, ax6, hl, k32, ax1, ax2, ax3, ax4, reduceIte, Nat.reduceAdd, Nat.reduceMul, Nat.reduceEqDiff, Nat.reduceLeDiff, reduceCtorEq, Int.reduceAdd, Int.reduceSub, Int.reduceMul, Int.reduceNeg, Int.reduceEq, Int.reduceTMod, Int.reduceTDiv, Int.reduceLT, Int.reduceLE, Int.reduceToNat, Int.reduceBEq, Int.reduceBNe, decide_true, decide_false, and_self, and_true, true_and, w64, dT, dF, bT, bF, nT, nF, if_pos, if_neg, Int.tmod_eq_emod_of_nonneg, Int.tdiv_eq_ediv_of_nonneg, Int.toNat_natCast, Nat.mul_one, Nat.one_mul, Nat.zero_add, Nat.add_zero, Nat.zero_mul, Nat.sub_zero, or_false, or_true, true_or, false_or]
    exact ret_ex rfl rfl rfl
  · obtain ⟨g, k37⟩ := c37 (gl := 43) (base := H.length) r1 (by simp) hn
    have hl1 : (H ++ [ABlk.cells xs.length 1 (fl xs)]).length = H.length + 1 := by simp
    rw [hl1, List.append_assoc] at k37
    simp only [List.cons_append, List.nil_append] at k37
    have r2 : Rd (H ++ [.cells xs.length 1 (fl xs), .cells g 1 (fl xs ++ mk2), .cells 0 1 mk2]) (.slice (some ⟨H.length + 1, 0, some g⟩) xs.length 1) (fl xs) := by
      refine ⟨_, 1, by rw [fl_length], .inr ⟨_, 0, g, 1, fl xs ++ mk2, rfl, by rw [at_app]; simp [Heap.at], by simp, fun i hi => ?_⟩⟩
      rw [Nat.zero_add, List.getElem?_append_left hi]
    have r1' : ∀ T : Heap, Rd (H ++ .cells xs.length 1 (fl xs) :: T) (.slice (some ⟨H.length, 0, some xs.length⟩) xs.length 1) (fl xs) := fun T => by
      have := r1.app T
      rwa [List.append_assoc] at this
    have k40 : ∀ T : Heap, Cf Tb 43 H.length 40 [.slice (some ⟨H.length + 1, 0, some g⟩) (xs.length + 2) 1, .slice (some ⟨H.length, 0, some xs.length⟩) xs.length 1] (H ++ .cells xs.length 1 (fl xs) :: .cells g 1 (fl xs ++ mk2) :: .cells 0 1 mk2 :: T) = _ := fun T =>
      c40 (e := 1) (by rw [at_app]; simp [Heap.at]) (r1' _) (by omega)
    have f4 : feq 4616189618054758400 4616189618054758400 = true := by decide +kernel
    by_cases hbad : xs.length = 0 ∨ 1024 < xs.length
    · -- refused
      have k33 : ∀ T : Heap, Cf Tb 43 H.length 33 [.slice (some ⟨H.length + 1, 0, some g⟩) xs.length 1] (H ++ T) = _ := fun T => c33_bad hbad (by omega) (hG.app T)
      have k38 : ∀ T : Heap, Cf Tb 43 H.length 38 [.slice (some ⟨H.length, 0, some xs.length⟩) xs.length 1] (H ++ T) = _ := fun T => c38_bad hbad (by omega)
      have k18 : ∀ T : Heap, Cf Tb 43 H.length 18 [.iface 329 (.pointer (some ⟨25, 0, some 0⟩))] (H ++ T) = _ := fun T => c18 (hG.app T) 1 (by decide)
      have k39 : ∀ T : Heap, Cf Tb 43 H.length 39 [.slice none 0 0, .slice none 0 0] (H ++ T) = _ := fun T => c39 (la := []) (lb := []) (Rd.nil _ 0) (Rd.nil _ 0) (by simp) (by simp)
      have hap : appV H.length (H ++ [.cells xs.length 1 (fl xs), .cells g 1 (fl xs ++ mk2), .cells 0 1 mk2, .cells 0 1 [Value.float .f64 4616189618054758400]]) 1 8 (.slice none 0 0) (.slice (some ⟨H.length + 3, 0, some 0⟩) 1 1) = some (.slice (some ⟨H.length + 4, 0, some 0⟩) 1 1, H ++ [.cells xs.length 1 (fl xs), .cells g 1 (fl xs ++ mk2), .cells 0 1 mk2, .cells 0 1 [.float .f64 4616189618054758400], .cells 0 1 [.float .f64 4616189618054758400]]) := by
        rw [app_none (grab1 (e := 1) (e' := 1) (tid := H.length + 3) (new := [.float .f64 4616189618054758400]) (by rw [at_app]; simp [Heap.at]) rfl rfl) (by decide) (by omega) (by omega)]
        simp
      have c1 : ((1 : Nat) : Int) = 1 := rfl
      have t0 : Int.toNat 0 = 0 := rfl
      by_cases h0 : xs.length = 0
      · simp (maxSteps := 1000000) (disch := omega) only [B7, L7_0, ax5, ax6, hl, k32, k37, k33, k38, k18, k39, k40, hap, f4, List.getElem?_toArray, List.getElem?_cons_zero, List.getElem?_cons_succ, part, c1, Int.sub_self, t0, ax1, ax2, ax3, ax4, reduceIte, Nat.reduceAdd, Nat.reduceMul, Nat.reduceEqDiff, Nat.reduceLeDiff, reduceCtorEq, Int.reduceAdd, Int.reduceSub, Int.reduceMul, Int.reduceNeg, Int.reduceEq, Int.reduceTMod, Int.reduceTDiv, Int.reduceLT, Int.reduceLE, Int.reduceToNat, Int.reduceBEq, Int.reduceBNe, decide_true, decide_false, and_self, and_true, true_and, w64, dT, dF, bT, bF, nT, nF, if_pos, if_neg, Int.tmod_eq_emod_of_nonneg, Int.tdiv_eq_ediv_of_nonneg, Int.toNat_natCast, Nat.mul_one, Nat.one_mul, Nat.zero_add, Nat.add_zero, Nat.zero_mul, Nat.sub_zero, or_false, or_true, true_or, false_or]
        exact ret_ex rfl rfl rfl
      · simp (maxSteps := 1000000) (disch := omega) only [B7, L7_0, ax5, ax6, hl, k32, k37, k33, k38, k18, k39, k40, hap, f4, List.getElem?_toArray, List.getElem?_cons_zero, List.getElem?_cons_succ, part, c1, Int.sub_self, t0, ax1, ax2, ax3, ax4, reduceIte, Nat.reduceAdd, Nat.reduceMul, Nat.reduceEqDiff, Nat.reduceLeDiff, reduceCtorEq, Int.reduceAdd, Int.reduceSub, Int.reduceMul, Int.reduceNeg, Int.reduceEq, Int.reduceTMod, Int.reduceTDiv, Int.reduceLT, Int.reduceLE, Int.reduceToNat, Int.reduceBEq, Int.reduceBNe, decide_true, decide_false, and_self, and_true, true_and, w64, dT, dF, bT, bF, nT, nF, if_pos, if_neg, Int.tmod_eq_emod_of_nonneg, Int.tdiv_eq_ediv_of_nonneg, Int.toNat_natCast, Nat.mul_one, Nat.one_mul, Nat.zero_add, Nat.add_zero, Nat.zero_mul, Nat.sub_zero, or_false, or_true, true_or, false_or]
        exact ret_ex rfl rfl rfl
    · have h1 : 1 ≤ xs.length := by omega
      have h2 : xs.length ≤ 150 := by omega
      generalize hs : sums xs.length xs xs.length = ss
      have hsl : ss.length = xs.length := by rw [← hs]; simp [sums]
      have k33a : Cf Tb 43 H.length 33 [.slice (some ⟨H.length + 1, 0, some g⟩) xs.length 1] (H ++ [.cells xs.length 1 (fl xs), .cells g 1 (fl xs ++ mk2), .cells 0 1 mk2]) = some (.tuple #[.slice (some ⟨H.length + 3, 0, some 0⟩) xs.length 1, .nilIface], H ++ [.cells xs.length 1 (fl xs), .cells g 1 (fl xs ++ mk2), .cells 0 1 mk2, .cells 0 1 (fl ss)]) := by
        have := c33 (gl := 43) (base := H.length) r2 h1 (by omega)
        rw [hs] at this
        simpa using this
      have k33b : Cf Tb 43 H.length 33 [.slice (some ⟨H.length + 1, 0, some g⟩) xs.length 1] (H ++ [.cells xs.length 1 (fl xs), .cells g 1 (fl xs ++ mk2), .cells 0 1 mk2, .cells 0 1 (fl ss)]) = some (.tuple #[.slice (some ⟨H.length + 4, 0, some 0⟩) xs.length 1, .nilIface], H ++ [.cells xs.length 1 (fl xs), .cells g 1 (fl xs ++ mk2), .cells 0 1 mk2, .cells 0 1 (fl ss), .cells 0 1 (fl ss)]) := by
        have := c33 (gl := 43) (base := H.length) (r2.app [.cells 0 1 (fl ss)]) h1 (by omega)
        rw [hs] at this
        simpa using this
      have k38 : Cf Tb 43 H.length 38 [.slice (some ⟨H.length, 0, some xs.length⟩) xs.length 1] (H ++ [.cells xs.length 1 (fl xs), .cells g 1 (fl xs ++ mk2), .cells 0 1 mk2, .cells 0 1 (fl ss), .cells 0 1 (fl ss)]) = some (.tuple #[.slice (some ⟨H.length + 5, 0, some xs.length⟩) xs.length 1, .int .i64 0], H ++ [.cells xs.length 1 (fl xs), .cells g 1 (fl xs ++ mk2), .cells 0 1 mk2, .cells 0 1 (fl ss), .cells 0 1 (fl ss), .cells xs.length 1 (fl ss)]) := by
        have := c38 (gl := 43) (base := H.length) (r1' [.cells g 1 (fl xs ++ mk2), .cells 0 1 mk2, .cells 0 1 (fl ss), .cells 0 1 (fl ss)]) h1 (by omega)
        rw [hs] at this
        simpa using this
      have k18 : ∀ T : Heap, Cf Tb 43 H.length 18 [.nilIface] T = _ := fun T => c18n
      have rd : ∀ (i e gg : Nat) (T : Heap), T[i]? = some (.cells gg e (fl ss)) → Rd (H ++ T) (.slice (some ⟨H.length + i, 0, some gg⟩) xs.length 1) (fl ss) := fun i e gg T hT =>
        ⟨_, 1, by rw [fl_length, hsl], .inr ⟨_, 0, gg, e, fl ss, rfl, by rw [at_app]; simp [Heap.at, hT], by simp, fun i hi => by rw [Nat.zero_add]⟩⟩
      have k39 : ∀ (i j gi gj ei ej : Nat) (T : Heap), T[i]? = some (.cells gi ei (fl ss)) → T[j]? = some (.cells gj ej (fl ss)) → Cf Tb 43 H.length 39 [.slice (some ⟨H.length + i, 0, some gi⟩) xs.length 1, .slice (some ⟨H.length + j, 0, some gj⟩) xs.length 1] (H ++ T) = some (.bool true, H ++ T) := fun i j gi gj ei ej T hi hj => by
        rw [c39 (rd i _ _ T hi) (rd j _ _ T hj) (by omega) (by omega)]; simp
      have k39a := k39 3 5 0 xs.length 1 1 [.cells xs.length 1 (fl xs), .cells g 1 (fl xs ++ mk2), .cells 0 1 mk2, .cells 0 1 (fl ss), .cells 0 1 (fl ss), .cells xs.length 1 (fl ss)] rfl rfl
      simp (maxSteps := 1000000) (disch := omega) only [B7, ax6, hl, k32, k37, k33a, k33b, k38, k18, k39a, k40, f4, List.getElem?_toArray, List.getElem?_cons_zero, List.getElem?_cons_succ, part, ax1, ax2, ax3, ax4, reduceIte, Nat.reduceAdd, Nat.reduceMul, Nat.reduceEqDiff, Nat.reduceLeDiff, reduceCtorEq, Int.reduceAdd, Int.reduceSub, Int.reduceMul, Int.reduceNeg, Int.reduceEq, Int.reduceTMod, Int.reduceTDiv, Int.reduceLT, Int.reduceLE, Int.reduceToNat, Int.reduceBEq, Int.reduceBNe, decide_true, decide_false, and_self, and_true, true_and, w64, dT, dF, bT, bF, nT, nF, if_pos, if_neg, Int.tmod_eq_emod_of_nonneg, Int.tdiv_eq_ediv_of_nonneg, Int.toNat_natCast, Nat.mul_one, Nat.one_mul, Nat.zero_add, Nat.add_zero, Nat.zero_mul, Nat.sub_zero, or_false, or_true, true_or, false_or]
      rw [show XW Tb 43 (List.length H) L7_0 = XW Tb 43 (List.length H) (.loop [6, 8, 10, 62, 63] _) from rfl, XW_mask]
      simp (maxSteps := 1000000) (disch := omega) only [ax6, ax1, ax2, ax3, ax4, reduceIte, Nat.reduceAdd, Nat.reduceMul, Nat.reduceEqDiff, Nat.reduceLeDiff, reduceCtorEq, Int.reduceAdd, Int.reduceSub, Int.reduceMul, Int.reduceNeg, Int.reduceEq, Int.reduceTMod, Int.reduceTDiv, Int.reduceLT, Int.reduceLE, Int.reduceToNat, Int.reduceBEq, Int.reduceBNe, decide_true, decide_false, and_self, and_true, true_and, w64, dT, dF, bT, bF, nT, nF, if_pos, if_neg, Int.tmod_eq_emod_of_nonneg, Int.tdiv_eq_ediv_of_nonneg, Int.toNat_natCast, Nat.mul_one, Nat.one_mul, Nat.zero_add, Nat.add_zero, Nat.zero_mul, Nat.sub_zero, or_false, or_true, true_or, false_or]
      refine Eq.mpr (l7_0 (d := xs.length) (by omega) (by omega) 0 _ (fl ss) (by omega) (by rw [fl_length, hsl]) (e := 1) (by rw [at_app]; simp [Heap.at])) ?_
      have hap : appV H.length (H ++ [.cells xs.length 1 (fl xs), .cells g 1 (fl xs ++ mk2), .cells 0 1 mk2, .cells 0 1 (List.replicate xs.length (.float .f64 4613937818241073152)), .cells 0 1 (fl ss), .cells xs.length 1 (fl ss), .cells 0 1 [Value.float .f64 4616189618054758400]]) 1 8 (.slice (some ⟨H.length + 3, 0, some 0⟩) xs.length 1) (.slice (some ⟨H.length + 6, 0, some 0⟩) 1 1) = some (.slice (some ⟨H.length + 3, 0, some 1⟩) (xs.length + 1) 1, H ++ [.cells xs.length 1 (fl xs), .cells g 1 (fl xs ++ mk2), .cells 0 1 mk2, .cells 1 1 (List.replicate xs.length (.float .f64 4613937818241073152) ++ [.float .f64 4616189618054758400]), .cells 0 1 (fl ss), .cells xs.length 1 (fl ss), .cells 0 1 [Value.float .f64 4616189618054758400]]) := by
        rw [app_one (e := 1) (n := xs.length) (tid := H.length + 6) (e' := 1) (e'' := 1) (cs := List.replicate xs.length (.float .f64 4613937818241073152)) (new := [Value.float .f64 4616189618054758400]) (by rw [at_app]; simp [Heap.at]) (by rw [at_app]; simp [Heap.at]) (by omega) (by decide) (by simp) rfl rfl (by omega) (by omega)]
        simp (maxSteps := 1000000) (disch := omega) only [ax1, ax2, ax3, ax4, reduceIte, Nat.reduceAdd, Nat.reduceMul, Nat.reduceEqDiff, Nat.reduceLeDiff, reduceCtorEq, Int.reduceAdd, Int.reduceSub, Int.reduceMul, Int.reduceNeg, Int.reduceEq, Int.reduceTMod, Int.reduceTDiv, Int.reduceLT, Int.reduceLE, Int.reduceToNat, Int.reduceBEq, Int.reduceBNe, decide_true, decide_false, and_self, and_true, true_and, w64, dT, dF, bT, bF, nT, nF, if_pos, if_neg, Int.tmod_eq_emod_of_nonneg, Int.tdiv_eq_ediv_of_nonneg, Int.toNat_natCast, Nat.mul_one, Nat.one_mul, Nat.zero_add, Nat.add_zero, Nat.zero_mul, Nat.sub_zero, or_false, or_true, true_or, false_or]
      have k39b := k39 4 5 0 xs.length 1 1 [.cells xs.length 1 (fl xs), .cells g 1 (fl xs ++ mk2), .cells 0 1 mk2, .cells 1 1 (List.replicate xs.length (.float .f64 4613937818241073152) ++ [.float .f64 4616189618054758400]), .cells 0 1 (fl ss), .cells xs.length 1 (fl ss), .cells 0 1 [Value.float .f64 4616189618054758400]] rfl rfl
      have tn : (((xs.length + 1 : Nat) : Int) - 1).toNat = xs.length := by omega
      have hp : part (List.replicate xs.length (Value.float FloatKind.f64 4613937818241073152) ++ [Value.float FloatKind.f64 4616189618054758400]) xs.length none = some (Value.float FloatKind.f64 4616189618054758400) := by
        unfold part
        simp
      simp (maxSteps := 1000000) (disch := omega) only [ax6, hap, k39b, f4, List.take_zero, List.nil_append, tn, hp, ax1, ax2, ax3, ax4, reduceIte, Nat.reduceAdd, Nat.reduceMul, Nat.reduceEqDiff, Nat.reduceLeDiff, reduceCtorEq, Int.reduceAdd, Int.reduceSub, Int.reduceMul, Int.reduceNeg, Int.reduceEq, Int.reduceTMod, Int.reduceTDiv, Int.reduceLT, Int.reduceLE, Int.reduceToNat, Int.reduceBEq, Int.reduceBNe, decide_true, decide_false, and_self, and_true, true_and, w64, dT, dF, bT, bF, nT, nF, if_pos, if_neg, Int.tmod_eq_emod_of_nonneg, Int.tdiv_eq_ediv_of_nonneg, Int.toNat_natCast, Nat.mul_one, Nat.one_mul, Nat.zero_add, Nat.add_zero, Nat.zero_mul, Nat.sub_zero, or_false, or_true, true_or, false_or]
      exact ret_ex rfl rfl rfl
end
end Go.AM.Cd
