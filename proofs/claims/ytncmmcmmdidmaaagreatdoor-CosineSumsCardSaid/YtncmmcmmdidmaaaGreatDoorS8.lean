/- The roots' series: the document's. No condition. -/
import Derived.Test.YtncmmcmmdidmaaaGreatDoorRows
import Derived.ProofKit
import Derived.LaidMore
import Derived.OpenShut
import Derived.Handed
import Derived.Stop.Joined
import Derived.Test.YtncmmcmmdidmaaaGreatDoorS7
set_option linter.all false
set_option maxRecDepth 20000
set_option maxHeartbeats 2000000
set_option linter.unusedSimpArgs false
namespace Go.AM.Cd
section
variable {gl base : Nat} {H : Heap} {y f p : Nat} {odd m k : Int} {Q : AX → Env → Heap → Prop} {ρ : Env}
theorem m226_1 : XW Tb gl base L226_1 ρ H Q = XW Tb gl base L226_1 (ρ.mask [0, 1, 5, 6, 7, 8]) H Q := XW_mask
theorem r226a (h0 : 0 ≤ odd) (h1 : odd ≤ 1) (h2 : 0 ≤ m) (h3 : m ≤ 2 * k + odd) (h4 : k ≤ 8) (h5 : 0 ≤ k) :
    XW Tb gl base L226_1 (Env.ofList [(0, .float .f64 y), (1, .int .i64 odd), (5, .float .f64 p), (6, .int .i64 k), (7, .float .f64 f), (8, .int .i64 m)]) H Q =
    XW Tb gl base L226_1 (Env.ofList [(0, .float .f64 y), (1, .int .i64 odd), (5, .float .f64 p), (6, .int .i64 k), (7, .float .f64 (fop .mul f (fofi m))), (8, .int .i64 (m + 1))]) H Q := by
  conv => lhs; unfold L226_1; rw [XW_loop_eq]
  simp (maxSteps := 1000000) (disch := omega) only [ax6, ax7, ax1, ax2, ax3, ax4, reduceIte, Nat.reduceAdd, Nat.reduceMul, Nat.reduceEqDiff, Nat.reduceLeDiff, reduceCtorEq, Int.reduceAdd, Int.reduceSub, Int.reduceMul, Int.reduceNeg, Int.reduceEq, Int.reduceTMod, Int.reduceTDiv, Int.reduceLT, Int.reduceLE, Int.reduceToNat, Int.reduceBEq, Int.reduceBNe, decide_true, decide_false, and_self, and_true, true_and, w64, dT, dF, bT, bF, nT, nF, if_pos, if_neg, Int.tmod_eq_emod_of_nonneg, Int.tdiv_eq_ediv_of_nonneg, Int.toNat_natCast, Nat.mul_one, Nat.one_mul, Nat.zero_add, Nat.add_zero, Nat.zero_mul]
  rw [XW_mask]
  simp (maxSteps := 1000000) (disch := omega) only [ax6, ax1, ax2, ax3, ax4, reduceIte, Nat.reduceAdd, Nat.reduceMul, Nat.reduceEqDiff, Nat.reduceLeDiff, reduceCtorEq, Int.reduceAdd, Int.reduceSub, Int.reduceMul, Int.reduceNeg, Int.reduceEq, Int.reduceTMod, Int.reduceTDiv, Int.reduceLT, Int.reduceLE, Int.reduceToNat, Int.reduceBEq, Int.reduceBNe, decide_true, decide_false, and_self, and_true, true_and, w64, dT, dF, bT, bF, nT, nF, if_pos, if_neg, Int.tmod_eq_emod_of_nonneg, Int.tdiv_eq_ediv_of_nonneg, Int.toNat_natCast, Nat.mul_one, Nat.one_mul, Nat.zero_add, Nat.add_zero, Nat.zero_mul]
  rfl
theorem c226_0 : Cf Tb gl base 226 [.float .f64 y, .int .i64 0] H = some (.float .f64 (horF y [4607182418800017408, 4602678819172646912, 4586165620538955093, 4564047942368979991, 4537941361671905306, 4508805057796939612, 4477122120089393304, 4443145680587881629, 4407590220077447199]), H) := by
  refine Cf_of T226 (by simp) ?_
  simp (maxSteps := 1000000) (disch := omega) only [B226, ax6, ax5, L226_0, ax1, ax2, ax3, ax4, reduceIte, Nat.reduceAdd, Nat.reduceMul, Nat.reduceEqDiff, Nat.reduceLeDiff, reduceCtorEq, Int.reduceAdd, Int.reduceSub, Int.reduceMul, Int.reduceNeg, Int.reduceEq, Int.reduceTMod, Int.reduceTDiv, Int.reduceLT, Int.reduceLE, Int.reduceToNat, Int.reduceBEq, Int.reduceBNe, decide_true, decide_false, and_self, and_true, true_and, w64, dT, dF, bT, bF, nT, nF, if_pos, if_neg, Int.tmod_eq_emod_of_nonneg, Int.tdiv_eq_ediv_of_nonneg, Int.toNat_natCast, Nat.mul_one, Nat.one_mul, Nat.zero_add, Nat.add_zero, Nat.zero_mul]
  rw [m226_1]
  simp (maxSteps := 1000000) (disch := omega) only [ax6, ax1, ax2, ax3, ax4, reduceIte, Nat.reduceAdd, Nat.reduceMul, Nat.reduceEqDiff, Nat.reduceLeDiff, reduceCtorEq, Int.reduceAdd, Int.reduceSub, Int.reduceMul, Int.reduceNeg, Int.reduceEq, Int.reduceTMod, Int.reduceTDiv, Int.reduceLT, Int.reduceLE, Int.reduceToNat, Int.reduceBEq, Int.reduceBNe, decide_true, decide_false, and_self, and_true, true_and, w64, dT, dF, bT, bF, nT, nF, if_pos, if_neg, Int.tmod_eq_emod_of_nonneg, Int.tdiv_eq_ediv_of_nonneg, Int.toNat_natCast, Nat.mul_one, Nat.one_mul, Nat.zero_add, Nat.add_zero, Nat.zero_mul]
  rw [r226a (by decide) (by decide) (by decide) (by decide) (by decide) (by decide)]
  simp only [fmul, Int.reduceAdd]
  rw [r226a (by decide) (by decide) (by decide) (by decide) (by decide) (by decide)]
  simp only [fmul, Int.reduceAdd]
  rw [r226a (by decide) (by decide) (by decide) (by decide) (by decide) (by decide)]
  simp only [fmul, Int.reduceAdd]
  rw [r226a (by decide) (by decide) (by decide) (by decide) (by decide) (by decide)]
  simp only [fmul, Int.reduceAdd]
  rw [r226a (by decide) (by decide) (by decide) (by decide) (by decide) (by decide)]
  simp only [fmul, Int.reduceAdd]
  rw [r226a (by decide) (by decide) (by decide) (by decide) (by decide) (by decide)]
  simp only [fmul, Int.reduceAdd]
  rw [r226a (by decide) (by decide) (by decide) (by decide) (by decide) (by decide)]
  simp only [fmul, Int.reduceAdd]
  rw [r226a (by decide) (by decide) (by decide) (by decide) (by decide) (by decide)]
  simp only [fmul, Int.reduceAdd]
  rw [r226a (by decide) (by decide) (by decide) (by decide) (by decide) (by decide)]
  simp only [fmul, Int.reduceAdd]
  rw [r226a (by decide) (by decide) (by decide) (by decide) (by decide) (by decide)]
  simp only [fmul, Int.reduceAdd]
  rw [r226a (by decide) (by decide) (by decide) (by decide) (by decide) (by decide)]
  simp only [fmul, Int.reduceAdd]
  rw [r226a (by decide) (by decide) (by decide) (by decide) (by decide) (by decide)]
  simp only [fmul, Int.reduceAdd]
  rw [r226a (by decide) (by decide) (by decide) (by decide) (by decide) (by decide)]
  simp only [fmul, Int.reduceAdd]
  rw [r226a (by decide) (by decide) (by decide) (by decide) (by decide) (by decide)]
  simp only [fmul, Int.reduceAdd]
  rw [r226a (by decide) (by decide) (by decide) (by decide) (by decide) (by decide)]
  simp only [fmul, Int.reduceAdd]
  rw [show XW Tb gl H.length L226_1 = XW Tb gl H.length (ACode.loop [0, 1, 5, 6, 7, 8] _) from rfl, XW_loop_eq]
  simp (maxSteps := 1000000) (disch := omega) only [ax6, ax7, fquo, ax1, ax2, ax3, ax4, reduceIte, Nat.reduceAdd, Nat.reduceMul, Nat.reduceEqDiff, Nat.reduceLeDiff, reduceCtorEq, Int.reduceAdd, Int.reduceSub, Int.reduceMul, Int.reduceNeg, Int.reduceEq, Int.reduceTMod, Int.reduceTDiv, Int.reduceLT, Int.reduceLE, Int.reduceToNat, Int.reduceBEq, Int.reduceBNe, decide_true, decide_false, and_self, and_true, true_and, w64, dT, dF, bT, bF, nT, nF, if_pos, if_neg, Int.tmod_eq_emod_of_nonneg, Int.tdiv_eq_ediv_of_nonneg, Int.toNat_natCast, Nat.mul_one, Nat.one_mul, Nat.zero_add, Nat.add_zero, Nat.zero_mul]
  simp (maxSteps := 1000000) (disch := omega) only [ax6, ax5, ax1, ax2, ax3, ax4, reduceIte, Nat.reduceAdd, Nat.reduceMul, Nat.reduceEqDiff, Nat.reduceLeDiff, reduceCtorEq, Int.reduceAdd, Int.reduceSub, Int.reduceMul, Int.reduceNeg, Int.reduceEq, Int.reduceTMod, Int.reduceTDiv, Int.reduceLT, Int.reduceLE, Int.reduceToNat, Int.reduceBEq, Int.reduceBNe, decide_true, decide_false, and_self, and_true, true_and, w64, dT, dF, bT, bF, nT, nF, if_pos, if_neg, Int.tmod_eq_emod_of_nonneg, Int.tdiv_eq_ediv_of_nonneg, Int.toNat_natCast, Nat.mul_one, Nat.one_mul, Nat.zero_add, Nat.add_zero, Nat.zero_mul]
  rw [m226_1]
  simp (maxSteps := 1000000) (disch := omega) only [ax6, ax1, ax2, ax3, ax4, reduceIte, Nat.reduceAdd, Nat.reduceMul, Nat.reduceEqDiff, Nat.reduceLeDiff, reduceCtorEq, Int.reduceAdd, Int.reduceSub, Int.reduceMul, Int.reduceNeg, Int.reduceEq, Int.reduceTMod, Int.reduceTDiv, Int.reduceLT, Int.reduceLE, Int.reduceToNat, Int.reduceBEq, Int.reduceBNe, decide_true, decide_false, and_self, and_true, true_and, w64, dT, dF, bT, bF, nT, nF, if_pos, if_neg, Int.tmod_eq_emod_of_nonneg, Int.tdiv_eq_ediv_of_nonneg, Int.toNat_natCast, Nat.mul_one, Nat.one_mul, Nat.zero_add, Nat.add_zero, Nat.zero_mul]
  rw [r226a (by decide) (by decide) (by decide) (by decide) (by decide) (by decide)]
  simp only [fmul, Int.reduceAdd]
  rw [r226a (by decide) (by decide) (by decide) (by decide) (by decide) (by decide)]
  simp only [fmul, Int.reduceAdd]
  rw [r226a (by decide) (by decide) (by decide) (by decide) (by decide) (by decide)]
  simp only [fmul, Int.reduceAdd]
  rw [r226a (by decide) (by decide) (by decide) (by decide) (by decide) (by decide)]
  simp only [fmul, Int.reduceAdd]
  rw [r226a (by decide) (by decide) (by decide) (by decide) (by decide) (by decide)]
  simp only [fmul, Int.reduceAdd]
  rw [r226a (by decide) (by decide) (by decide) (by decide) (by decide) (by decide)]
  simp only [fmul, Int.reduceAdd]
  rw [r226a (by decide) (by decide) (by decide) (by decide) (by decide) (by decide)]
  simp only [fmul, Int.reduceAdd]
  rw [r226a (by decide) (by decide) (by decide) (by decide) (by decide) (by decide)]
  simp only [fmul, Int.reduceAdd]
  rw [r226a (by decide) (by decide) (by decide) (by decide) (by decide) (by decide)]
  simp only [fmul, Int.reduceAdd]
  rw [r226a (by decide) (by decide) (by decide) (by decide) (by decide) (by decide)]
  simp only [fmul, Int.reduceAdd]
  rw [r226a (by decide) (by decide) (by decide) (by decide) (by decide) (by decide)]
  simp only [fmul, Int.reduceAdd]
  rw [r226a (by decide) (by decide) (by decide) (by decide) (by decide) (by decide)]
  simp only [fmul, Int.reduceAdd]
  rw [r226a (by decide) (by decide) (by decide) (by decide) (by decide) (by decide)]
  simp only [fmul, Int.reduceAdd]
  rw [show XW Tb gl H.length L226_1 = XW Tb gl H.length (ACode.loop [0, 1, 5, 6, 7, 8] _) from rfl, XW_loop_eq]
  simp (maxSteps := 1000000) (disch := omega) only [ax6, ax7, fquo, ax1, ax2, ax3, ax4, reduceIte, Nat.reduceAdd, Nat.reduceMul, Nat.reduceEqDiff, Nat.reduceLeDiff, reduceCtorEq, Int.reduceAdd, Int.reduceSub, Int.reduceMul, Int.reduceNeg, Int.reduceEq, Int.reduceTMod, Int.reduceTDiv, Int.reduceLT, Int.reduceLE, Int.reduceToNat, Int.reduceBEq, Int.reduceBNe, decide_true, decide_false, and_self, and_true, true_and, w64, dT, dF, bT, bF, nT, nF, if_pos, if_neg, Int.tmod_eq_emod_of_nonneg, Int.tdiv_eq_ediv_of_nonneg, Int.toNat_natCast, Nat.mul_one, Nat.one_mul, Nat.zero_add, Nat.add_zero, Nat.zero_mul]
  simp (maxSteps := 1000000) (disch := omega) only [ax6, ax5, ax1, ax2, ax3, ax4, reduceIte, Nat.reduceAdd, Nat.reduceMul, Nat.reduceEqDiff, Nat.reduceLeDiff, reduceCtorEq, Int.reduceAdd, Int.reduceSub, Int.reduceMul, Int.reduceNeg, Int.reduceEq, Int.reduceTMod, Int.reduceTDiv, Int.reduceLT, Int.reduceLE, Int.reduceToNat, Int.reduceBEq, Int.reduceBNe, decide_true, decide_false, and_self, and_true, true_and, w64, dT, dF, bT, bF, nT, nF, if_pos, if_neg, Int.tmod_eq_emod_of_nonneg, Int.tdiv_eq_ediv_of_nonneg, Int.toNat_natCast, Nat.mul_one, Nat.one_mul, Nat.zero_add, Nat.add_zero, Nat.zero_mul]
  rw [m226_1]
  simp (maxSteps := 1000000) (disch := omega) only [ax6, ax1, ax2, ax3, ax4, reduceIte, Nat.reduceAdd, Nat.reduceMul, Nat.reduceEqDiff, Nat.reduceLeDiff, reduceCtorEq, Int.reduceAdd, Int.reduceSub, Int.reduceMul, Int.reduceNeg, Int.reduceEq, Int.reduceTMod, Int.reduceTDiv, Int.reduceLT, Int.reduceLE, Int.reduceToNat, Int.reduceBEq, Int.reduceBNe, decide_true, decide_false, and_self, and_true, true_and, w64, dT, dF, bT, bF, nT, nF, if_pos, if_neg, Int.tmod_eq_emod_of_nonneg, Int.tdiv_eq_ediv_of_nonneg, Int.toNat_natCast, Nat.mul_one, Nat.one_mul, Nat.zero_add, Nat.add_zero, Nat.zero_mul]
  rw [r226a (by decide) (by decide) (by decide) (by decide) (by decide) (by decide)]
  simp only [fmul, Int.reduceAdd]
  rw [r226a (by decide) (by decide) (by decide) (by decide) (by decide) (by decide)]
  simp only [fmul, Int.reduceAdd]
  rw [r226a (by decide) (by decide) (by decide) (by decide) (by decide) (by decide)]
  simp only [fmul, Int.reduceAdd]
  rw [r226a (by decide) (by decide) (by decide) (by decide) (by decide) (by decide)]
  simp only [fmul, Int.reduceAdd]
  rw [r226a (by decide) (by decide) (by decide) (by decide) (by decide) (by decide)]
  simp only [fmul, Int.reduceAdd]
  rw [r226a (by decide) (by decide) (by decide) (by decide) (by decide) (by decide)]
  simp only [fmul, Int.reduceAdd]
  rw [r226a (by decide) (by decide) (by decide) (by decide) (by decide) (by decide)]
  simp only [fmul, Int.reduceAdd]
  rw [r226a (by decide) (by decide) (by decide) (by decide) (by decide) (by decide)]
  simp only [fmul, Int.reduceAdd]
  rw [r226a (by decide) (by decide) (by decide) (by decide) (by decide) (by decide)]
  simp only [fmul, Int.reduceAdd]
  rw [r226a (by decide) (by decide) (by decide) (by decide) (by decide) (by decide)]
  simp only [fmul, Int.reduceAdd]
  rw [r226a (by decide) (by decide) (by decide) (by decide) (by decide) (by decide)]
  simp only [fmul, Int.reduceAdd]
  rw [show XW Tb gl H.length L226_1 = XW Tb gl H.length (ACode.loop [0, 1, 5, 6, 7, 8] _) from rfl, XW_loop_eq]
  simp (maxSteps := 1000000) (disch := omega) only [ax6, ax7, fquo, ax1, ax2, ax3, ax4, reduceIte, Nat.reduceAdd, Nat.reduceMul, Nat.reduceEqDiff, Nat.reduceLeDiff, reduceCtorEq, Int.reduceAdd, Int.reduceSub, Int.reduceMul, Int.reduceNeg, Int.reduceEq, Int.reduceTMod, Int.reduceTDiv, Int.reduceLT, Int.reduceLE, Int.reduceToNat, Int.reduceBEq, Int.reduceBNe, decide_true, decide_false, and_self, and_true, true_and, w64, dT, dF, bT, bF, nT, nF, if_pos, if_neg, Int.tmod_eq_emod_of_nonneg, Int.tdiv_eq_ediv_of_nonneg, Int.toNat_natCast, Nat.mul_one, Nat.one_mul, Nat.zero_add, Nat.add_zero, Nat.zero_mul]
  simp (maxSteps := 1000000) (disch := omega) only [ax6, ax5, ax1, ax2, ax3, ax4, reduceIte, Nat.reduceAdd, Nat.reduceMul, Nat.reduceEqDiff, Nat.reduceLeDiff, reduceCtorEq, Int.reduceAdd, Int.reduceSub, Int.reduceMul, Int.reduceNeg, Int.reduceEq, Int.reduceTMod, Int.reduceTDiv, Int.reduceLT, Int.reduceLE, Int.reduceToNat, Int.reduceBEq, Int.reduceBNe, decide_true, decide_false, and_self, and_true, true_and, w64, dT, dF, bT, bF, nT, nF, if_pos, if_neg, Int.tmod_eq_emod_of_nonneg, Int.tdiv_eq_ediv_of_nonneg, Int.toNat_natCast, Nat.mul_one, Nat.one_mul, Nat.zero_add, Nat.add_zero, Nat.zero_mul]
  rw [m226_1]
  simp (maxSteps := 1000000) (disch := omega) only [ax6, ax1, ax2, ax3, ax4, reduceIte, Nat.reduceAdd, Nat.reduceMul, Nat.reduceEqDiff, Nat.reduceLeDiff, reduceCtorEq, Int.reduceAdd, Int.reduceSub, Int.reduceMul, Int.reduceNeg, Int.reduceEq, Int.reduceTMod, Int.reduceTDiv, Int.reduceLT, Int.reduceLE, Int.reduceToNat, Int.reduceBEq, Int.reduceBNe, decide_true, decide_false, and_self, and_true, true_and, w64, dT, dF, bT, bF, nT, nF, if_pos, if_neg, Int.tmod_eq_emod_of_nonneg, Int.tdiv_eq_ediv_of_nonneg, Int.toNat_natCast, Nat.mul_one, Nat.one_mul, Nat.zero_add, Nat.add_zero, Nat.zero_mul]
  rw [r226a (by decide) (by decide) (by decide) (by decide) (by decide) (by decide)]
  simp only [fmul, Int.reduceAdd]
  rw [r226a (by decide) (by decide) (by decide) (by decide) (by decide) (by decide)]
  simp only [fmul, Int.reduceAdd]
  rw [r226a (by decide) (by decide) (by decide) (by decide) (by decide) (by decide)]
  simp only [fmul, Int.reduceAdd]
  rw [r226a (by decide) (by decide) (by decide) (by decide) (by decide) (by decide)]
  simp only [fmul, Int.reduceAdd]
  rw [r226a (by decide) (by decide) (by decide) (by decide) (by decide) (by decide)]
  simp only [fmul, Int.reduceAdd]
  rw [r226a (by decide) (by decide) (by decide) (by decide) (by decide) (by decide)]
  simp only [fmul, Int.reduceAdd]
  rw [r226a (by decide) (by decide) (by decide) (by decide) (by decide) (by decide)]
  simp only [fmul, Int.reduceAdd]
  rw [r226a (by decide) (by decide) (by decide) (by decide) (by decide) (by decide)]
  simp only [fmul, Int.reduceAdd]
  rw [r226a (by decide) (by decide) (by decide) (by decide) (by decide) (by decide)]
  simp only [fmul, Int.reduceAdd]
  rw [show XW Tb gl H.length L226_1 = XW Tb gl H.length (ACode.loop [0, 1, 5, 6, 7, 8] _) from rfl, XW_loop_eq]
  simp (maxSteps := 1000000) (disch := omega) only [ax6, ax7, fquo, ax1, ax2, ax3, ax4, reduceIte, Nat.reduceAdd, Nat.reduceMul, Nat.reduceEqDiff, Nat.reduceLeDiff, reduceCtorEq, Int.reduceAdd, Int.reduceSub, Int.reduceMul, Int.reduceNeg, Int.reduceEq, Int.reduceTMod, Int.reduceTDiv, Int.reduceLT, Int.reduceLE, Int.reduceToNat, Int.reduceBEq, Int.reduceBNe, decide_true, decide_false, and_self, and_true, true_and, w64, dT, dF, bT, bF, nT, nF, if_pos, if_neg, Int.tmod_eq_emod_of_nonneg, Int.tdiv_eq_ediv_of_nonneg, Int.toNat_natCast, Nat.mul_one, Nat.one_mul, Nat.zero_add, Nat.add_zero, Nat.zero_mul]
  simp (maxSteps := 1000000) (disch := omega) only [ax6, ax5, ax1, ax2, ax3, ax4, reduceIte, Nat.reduceAdd, Nat.reduceMul, Nat.reduceEqDiff, Nat.reduceLeDiff, reduceCtorEq, Int.reduceAdd, Int.reduceSub, Int.reduceMul, Int.reduceNeg, Int.reduceEq, Int.reduceTMod, Int.reduceTDiv, Int.reduceLT, Int.reduceLE, Int.reduceToNat, Int.reduceBEq, Int.reduceBNe, decide_true, decide_false, and_self, and_true, true_and, w64, dT, dF, bT, bF, nT, nF, if_pos, if_neg, Int.tmod_eq_emod_of_nonneg, Int.tdiv_eq_ediv_of_nonneg, Int.toNat_natCast, Nat.mul_one, Nat.one_mul, Nat.zero_add, Nat.add_zero, Nat.zero_mul]
  rw [m226_1]
  simp (maxSteps := 1000000) (disch := omega) only [ax6, ax1, ax2, ax3, ax4, reduceIte, Nat.reduceAdd, Nat.reduceMul, Nat.reduceEqDiff, Nat.reduceLeDiff, reduceCtorEq, Int.reduceAdd, Int.reduceSub, Int.reduceMul, Int.reduceNeg, Int.reduceEq, Int.reduceTMod, Int.reduceTDiv, Int.reduceLT, Int.reduceLE, Int.reduceToNat, Int.reduceBEq, Int.reduceBNe, decide_true, decide_false, and_self, and_true, true_and, w64, dT, dF, bT, bF, nT, nF, if_pos, if_neg, Int.tmod_eq_emod_of_nonneg, Int.tdiv_eq_ediv_of_nonneg, Int.toNat_natCast, Nat.mul_one, Nat.one_mul, Nat.zero_add, Nat.add_zero, Nat.zero_mul]
  rw [r226a (by decide) (by decide) (by decide) (by decide) (by decide) (by decide)]
  simp only [fmul, Int.reduceAdd]
  rw [r226a (by decide) (by decide) (by decide) (by decide) (by decide) (by decide)]
  simp only [fmul, Int.reduceAdd]
  rw [r226a (by decide) (by decide) (by decide) (by decide) (by decide) (by decide)]
  simp only [fmul, Int.reduceAdd]
  rw [r226a (by decide) (by decide) (by decide) (by decide) (by decide) (by decide)]
  simp only [fmul, Int.reduceAdd]
  rw [r226a (by decide) (by decide) (by decide) (by decide) (by decide) (by decide)]
  simp only [fmul, Int.reduceAdd]
  rw [r226a (by decide) (by decide) (by decide) (by decide) (by decide) (by decide)]
  simp only [fmul, Int.reduceAdd]
  rw [r226a (by decide) (by decide) (by decide) (by decide) (by decide) (by decide)]
  simp only [fmul, Int.reduceAdd]
  rw [show XW Tb gl H.length L226_1 = XW Tb gl H.length (ACode.loop [0, 1, 5, 6, 7, 8] _) from rfl, XW_loop_eq]
  simp (maxSteps := 1000000) (disch := omega) only [ax6, ax7, fquo, ax1, ax2, ax3, ax4, reduceIte, Nat.reduceAdd, Nat.reduceMul, Nat.reduceEqDiff, Nat.reduceLeDiff, reduceCtorEq, Int.reduceAdd, Int.reduceSub, Int.reduceMul, Int.reduceNeg, Int.reduceEq, Int.reduceTMod, Int.reduceTDiv, Int.reduceLT, Int.reduceLE, Int.reduceToNat, Int.reduceBEq, Int.reduceBNe, decide_true, decide_false, and_self, and_true, true_and, w64, dT, dF, bT, bF, nT, nF, if_pos, if_neg, Int.tmod_eq_emod_of_nonneg, Int.tdiv_eq_ediv_of_nonneg, Int.toNat_natCast, Nat.mul_one, Nat.one_mul, Nat.zero_add, Nat.add_zero, Nat.zero_mul]
  simp (maxSteps := 1000000) (disch := omega) only [ax6, ax5, ax1, ax2, ax3, ax4, reduceIte, Nat.reduceAdd, Nat.reduceMul, Nat.reduceEqDiff, Nat.reduceLeDiff, reduceCtorEq, Int.reduceAdd, Int.reduceSub, Int.reduceMul, Int.reduceNeg, Int.reduceEq, Int.reduceTMod, Int.reduceTDiv, Int.reduceLT, Int.reduceLE, Int.reduceToNat, Int.reduceBEq, Int.reduceBNe, decide_true, decide_false, and_self, and_true, true_and, w64, dT, dF, bT, bF, nT, nF, if_pos, if_neg, Int.tmod_eq_emod_of_nonneg, Int.tdiv_eq_ediv_of_nonneg, Int.toNat_natCast, Nat.mul_one, Nat.one_mul, Nat.zero_add, Nat.add_zero, Nat.zero_mul]
  rw [m226_1]
  simp (maxSteps := 1000000) (disch := omega) only [ax6, ax1, ax2, ax3, ax4, reduceIte, Nat.reduceAdd, Nat.reduceMul, Nat.reduceEqDiff, Nat.reduceLeDiff, reduceCtorEq, Int.reduceAdd, Int.reduceSub, Int.reduceMul, Int.reduceNeg, Int.reduceEq, Int.reduceTMod, Int.reduceTDiv, Int.reduceLT, Int.reduceLE, Int.reduceToNat, Int.reduceBEq, Int.reduceBNe, decide_true, decide_false, and_self, and_true, true_and, w64, dT, dF, bT, bF, nT, nF, if_pos, if_neg, Int.tmod_eq_emod_of_nonneg, Int.tdiv_eq_ediv_of_nonneg, Int.toNat_natCast, Nat.mul_one, Nat.one_mul, Nat.zero_add, Nat.add_zero, Nat.zero_mul]
  rw [r226a (by decide) (by decide) (by decide) (by decide) (by decide) (by decide)]
  simp only [fmul, Int.reduceAdd]
  rw [r226a (by decide) (by decide) (by decide) (by decide) (by decide) (by decide)]
  simp only [fmul, Int.reduceAdd]
  rw [r226a (by decide) (by decide) (by decide) (by decide) (by decide) (by decide)]
  simp only [fmul, Int.reduceAdd]
  rw [r226a (by decide) (by decide) (by decide) (by decide) (by decide) (by decide)]
  simp only [fmul, Int.reduceAdd]
  rw [r226a (by decide) (by decide) (by decide) (by decide) (by decide) (by decide)]
  simp only [fmul, Int.reduceAdd]
  rw [show XW Tb gl H.length L226_1 = XW Tb gl H.length (ACode.loop [0, 1, 5, 6, 7, 8] _) from rfl, XW_loop_eq]
  simp (maxSteps := 1000000) (disch := omega) only [ax6, ax7, fquo, ax1, ax2, ax3, ax4, reduceIte, Nat.reduceAdd, Nat.reduceMul, Nat.reduceEqDiff, Nat.reduceLeDiff, reduceCtorEq, Int.reduceAdd, Int.reduceSub, Int.reduceMul, Int.reduceNeg, Int.reduceEq, Int.reduceTMod, Int.reduceTDiv, Int.reduceLT, Int.reduceLE, Int.reduceToNat, Int.reduceBEq, Int.reduceBNe, decide_true, decide_false, and_self, and_true, true_and, w64, dT, dF, bT, bF, nT, nF, if_pos, if_neg, Int.tmod_eq_emod_of_nonneg, Int.tdiv_eq_ediv_of_nonneg, Int.toNat_natCast, Nat.mul_one, Nat.one_mul, Nat.zero_add, Nat.add_zero, Nat.zero_mul]
  simp (maxSteps := 1000000) (disch := omega) only [ax6, ax5, ax1, ax2, ax3, ax4, reduceIte, Nat.reduceAdd, Nat.reduceMul, Nat.reduceEqDiff, Nat.reduceLeDiff, reduceCtorEq, Int.reduceAdd, Int.reduceSub, Int.reduceMul, Int.reduceNeg, Int.reduceEq, Int.reduceTMod, Int.reduceTDiv, Int.reduceLT, Int.reduceLE, Int.reduceToNat, Int.reduceBEq, Int.reduceBNe, decide_true, decide_false, and_self, and_true, true_and, w64, dT, dF, bT, bF, nT, nF, if_pos, if_neg, Int.tmod_eq_emod_of_nonneg, Int.tdiv_eq_ediv_of_nonneg, Int.toNat_natCast, Nat.mul_one, Nat.one_mul, Nat.zero_add, Nat.add_zero, Nat.zero_mul]
  rw [m226_1]
  simp (maxSteps := 1000000) (disch := omega) only [ax6, ax1, ax2, ax3, ax4, reduceIte, Nat.reduceAdd, Nat.reduceMul, Nat.reduceEqDiff, Nat.reduceLeDiff, reduceCtorEq, Int.reduceAdd, Int.reduceSub, Int.reduceMul, Int.reduceNeg, Int.reduceEq, Int.reduceTMod, Int.reduceTDiv, Int.reduceLT, Int.reduceLE, Int.reduceToNat, Int.reduceBEq, Int.reduceBNe, decide_true, decide_false, and_self, and_true, true_and, w64, dT, dF, bT, bF, nT, nF, if_pos, if_neg, Int.tmod_eq_emod_of_nonneg, Int.tdiv_eq_ediv_of_nonneg, Int.toNat_natCast, Nat.mul_one, Nat.one_mul, Nat.zero_add, Nat.add_zero, Nat.zero_mul]
  rw [r226a (by decide) (by decide) (by decide) (by decide) (by decide) (by decide)]
  simp only [fmul, Int.reduceAdd]
  rw [r226a (by decide) (by decide) (by decide) (by decide) (by decide) (by decide)]
  simp only [fmul, Int.reduceAdd]
  rw [r226a (by decide) (by decide) (by decide) (by decide) (by decide) (by decide)]
  simp only [fmul, Int.reduceAdd]
  rw [show XW Tb gl H.length L226_1 = XW Tb gl H.length (ACode.loop [0, 1, 5, 6, 7, 8] _) from rfl, XW_loop_eq]
  simp (maxSteps := 1000000) (disch := omega) only [ax6, ax7, fquo, ax1, ax2, ax3, ax4, reduceIte, Nat.reduceAdd, Nat.reduceMul, Nat.reduceEqDiff, Nat.reduceLeDiff, reduceCtorEq, Int.reduceAdd, Int.reduceSub, Int.reduceMul, Int.reduceNeg, Int.reduceEq, Int.reduceTMod, Int.reduceTDiv, Int.reduceLT, Int.reduceLE, Int.reduceToNat, Int.reduceBEq, Int.reduceBNe, decide_true, decide_false, and_self, and_true, true_and, w64, dT, dF, bT, bF, nT, nF, if_pos, if_neg, Int.tmod_eq_emod_of_nonneg, Int.tdiv_eq_ediv_of_nonneg, Int.toNat_natCast, Nat.mul_one, Nat.one_mul, Nat.zero_add, Nat.add_zero, Nat.zero_mul]
  simp (maxSteps := 1000000) (disch := omega) only [ax6, ax5, ax1, ax2, ax3, ax4, reduceIte, Nat.reduceAdd, Nat.reduceMul, Nat.reduceEqDiff, Nat.reduceLeDiff, reduceCtorEq, Int.reduceAdd, Int.reduceSub, Int.reduceMul, Int.reduceNeg, Int.reduceEq, Int.reduceTMod, Int.reduceTDiv, Int.reduceLT, Int.reduceLE, Int.reduceToNat, Int.reduceBEq, Int.reduceBNe, decide_true, decide_false, and_self, and_true, true_and, w64, dT, dF, bT, bF, nT, nF, if_pos, if_neg, Int.tmod_eq_emod_of_nonneg, Int.tdiv_eq_ediv_of_nonneg, Int.toNat_natCast, Nat.mul_one, Nat.one_mul, Nat.zero_add, Nat.add_zero, Nat.zero_mul]
  rw [m226_1]
  simp (maxSteps := 1000000) (disch := omega) only [ax6, ax1, ax2, ax3, ax4, reduceIte, Nat.reduceAdd, Nat.reduceMul, Nat.reduceEqDiff, Nat.reduceLeDiff, reduceCtorEq, Int.reduceAdd, Int.reduceSub, Int.reduceMul, Int.reduceNeg, Int.reduceEq, Int.reduceTMod, Int.reduceTDiv, Int.reduceLT, Int.reduceLE, Int.reduceToNat, Int.reduceBEq, Int.reduceBNe, decide_true, decide_false, and_self, and_true, true_and, w64, dT, dF, bT, bF, nT, nF, if_pos, if_neg, Int.tmod_eq_emod_of_nonneg, Int.tdiv_eq_ediv_of_nonneg, Int.toNat_natCast, Nat.mul_one, Nat.one_mul, Nat.zero_add, Nat.add_zero, Nat.zero_mul]
  rw [r226a (by decide) (by decide) (by decide) (by decide) (by decide) (by decide)]
  simp only [fmul, Int.reduceAdd]
  rw [show XW Tb gl H.length L226_1 = XW Tb gl H.length (ACode.loop [0, 1, 5, 6, 7, 8] _) from rfl, XW_loop_eq]
  simp (maxSteps := 1000000) (disch := omega) only [ax6, ax7, fquo, ax1, ax2, ax3, ax4, reduceIte, Nat.reduceAdd, Nat.reduceMul, Nat.reduceEqDiff, Nat.reduceLeDiff, reduceCtorEq, Int.reduceAdd, Int.reduceSub, Int.reduceMul, Int.reduceNeg, Int.reduceEq, Int.reduceTMod, Int.reduceTDiv, Int.reduceLT, Int.reduceLE, Int.reduceToNat, Int.reduceBEq, Int.reduceBNe, decide_true, decide_false, and_self, and_true, true_and, w64, dT, dF, bT, bF, nT, nF, if_pos, if_neg, Int.tmod_eq_emod_of_nonneg, Int.tdiv_eq_ediv_of_nonneg, Int.toNat_natCast, Nat.mul_one, Nat.one_mul, Nat.zero_add, Nat.add_zero, Nat.zero_mul]
  simp (maxSteps := 1000000) (disch := omega) only [ax6, ax5, ax1, ax2, ax3, ax4, reduceIte, Nat.reduceAdd, Nat.reduceMul, Nat.reduceEqDiff, Nat.reduceLeDiff, reduceCtorEq, Int.reduceAdd, Int.reduceSub, Int.reduceMul, Int.reduceNeg, Int.reduceEq, Int.reduceTMod, Int.reduceTDiv, Int.reduceLT, Int.reduceLE, Int.reduceToNat, Int.reduceBEq, Int.reduceBNe, decide_true, decide_false, and_self, and_true, true_and, w64, dT, dF, bT, bF, nT, nF, if_pos, if_neg, Int.tmod_eq_emod_of_nonneg, Int.tdiv_eq_ediv_of_nonneg, Int.toNat_natCast, Nat.mul_one, Nat.one_mul, Nat.zero_add, Nat.add_zero, Nat.zero_mul]
  rw [m226_1]
  simp (maxSteps := 1000000) (disch := omega) only [ax6, ax1, ax2, ax3, ax4, reduceIte, Nat.reduceAdd, Nat.reduceMul, Nat.reduceEqDiff, Nat.reduceLeDiff, reduceCtorEq, Int.reduceAdd, Int.reduceSub, Int.reduceMul, Int.reduceNeg, Int.reduceEq, Int.reduceTMod, Int.reduceTDiv, Int.reduceLT, Int.reduceLE, Int.reduceToNat, Int.reduceBEq, Int.reduceBNe, decide_true, decide_false, and_self, and_true, true_and, w64, dT, dF, bT, bF, nT, nF, if_pos, if_neg, Int.tmod_eq_emod_of_nonneg, Int.tdiv_eq_ediv_of_nonneg, Int.toNat_natCast, Nat.mul_one, Nat.one_mul, Nat.zero_add, Nat.add_zero, Nat.zero_mul]
  rw [show XW Tb gl H.length L226_1 = XW Tb gl H.length (ACode.loop [0, 1, 5, 6, 7, 8] _) from rfl, XW_loop_eq]
  simp (maxSteps := 1000000) (disch := omega) only [ax6, ax7, fquo, ax1, ax2, ax3, ax4, reduceIte, Nat.reduceAdd, Nat.reduceMul, Nat.reduceEqDiff, Nat.reduceLeDiff, reduceCtorEq, Int.reduceAdd, Int.reduceSub, Int.reduceMul, Int.reduceNeg, Int.reduceEq, Int.reduceTMod, Int.reduceTDiv, Int.reduceLT, Int.reduceLE, Int.reduceToNat, Int.reduceBEq, Int.reduceBNe, decide_true, decide_false, and_self, and_true, true_and, w64, dT, dF, bT, bF, nT, nF, if_pos, if_neg, Int.tmod_eq_emod_of_nonneg, Int.tdiv_eq_ediv_of_nonneg, Int.toNat_natCast, Nat.mul_one, Nat.one_mul, Nat.zero_add, Nat.add_zero, Nat.zero_mul]
  simp (maxSteps := 1000000) (disch := omega) only [ax6, ax5, ax1, ax2, ax3, ax4, reduceIte, Nat.reduceAdd, Nat.reduceMul, Nat.reduceEqDiff, Nat.reduceLeDiff, reduceCtorEq, Int.reduceAdd, Int.reduceSub, Int.reduceMul, Int.reduceNeg, Int.reduceEq, Int.reduceTMod, Int.reduceTDiv, Int.reduceLT, Int.reduceLE, Int.reduceToNat, Int.reduceBEq, Int.reduceBNe, decide_true, decide_false, and_self, and_true, true_and, w64, dT, dF, bT, bF, nT, nF, if_pos, if_neg, Int.tmod_eq_emod_of_nonneg, Int.tdiv_eq_ediv_of_nonneg, Int.toNat_natCast, Nat.mul_one, Nat.one_mul, Nat.zero_add, Nat.add_zero, Nat.zero_mul]
  exact ret_drop0 rfl rfl rfl rfl
theorem c226_1 : Cf Tb gl base 226 [.float .f64 y, .int .i64 1] H = some (.float .f64 (horF y [4607182418800017408, 4595172819793696085, 4575957461383581969, 4551452160554016794, 4523617214285662004, 4493156764026750180, 4460272573143870729, 4425604618586929183, 4389130328383466826]), H) := by
  refine Cf_of T226 (by simp) ?_
  simp (maxSteps := 1000000) (disch := omega) only [B226, ax6, ax5, L226_0, ax1, ax2, ax3, ax4, reduceIte, Nat.reduceAdd, Nat.reduceMul, Nat.reduceEqDiff, Nat.reduceLeDiff, reduceCtorEq, Int.reduceAdd, Int.reduceSub, Int.reduceMul, Int.reduceNeg, Int.reduceEq, Int.reduceTMod, Int.reduceTDiv, Int.reduceLT, Int.reduceLE, Int.reduceToNat, Int.reduceBEq, Int.reduceBNe, decide_true, decide_false, and_self, and_true, true_and, w64, dT, dF, bT, bF, nT, nF, if_pos, if_neg, Int.tmod_eq_emod_of_nonneg, Int.tdiv_eq_ediv_of_nonneg, Int.toNat_natCast, Nat.mul_one, Nat.one_mul, Nat.zero_add, Nat.add_zero, Nat.zero_mul]
  rw [m226_1]
  simp (maxSteps := 1000000) (disch := omega) only [ax6, ax1, ax2, ax3, ax4, reduceIte, Nat.reduceAdd, Nat.reduceMul, Nat.reduceEqDiff, Nat.reduceLeDiff, reduceCtorEq, Int.reduceAdd, Int.reduceSub, Int.reduceMul, Int.reduceNeg, Int.reduceEq, Int.reduceTMod, Int.reduceTDiv, Int.reduceLT, Int.reduceLE, Int.reduceToNat, Int.reduceBEq, Int.reduceBNe, decide_true, decide_false, and_self, and_true, true_and, w64, dT, dF, bT, bF, nT, nF, if_pos, if_neg, Int.tmod_eq_emod_of_nonneg, Int.tdiv_eq_ediv_of_nonneg, Int.toNat_natCast, Nat.mul_one, Nat.one_mul, Nat.zero_add, Nat.add_zero, Nat.zero_mul]
  rw [r226a (by decide) (by decide) (by decide) (by decide) (by decide) (by decide)]
  simp only [fmul, Int.reduceAdd]
  rw [r226a (by decide) (by decide) (by decide) (by decide) (by decide) (by decide)]
  simp only [fmul, Int.reduceAdd]
  rw [r226a (by decide) (by decide) (by decide) (by decide) (by decide) (by decide)]
  simp only [fmul, Int.reduceAdd]
  rw [r226a (by decide) (by decide) (by decide) (by decide) (by decide) (by decide)]
  simp only [fmul, Int.reduceAdd]
  rw [r226a (by decide) (by decide) (by decide) (by decide) (by decide) (by decide)]
  simp only [fmul, Int.reduceAdd]
  rw [r226a (by decide) (by decide) (by decide) (by decide) (by decide) (by decide)]
  simp only [fmul, Int.reduceAdd]
  rw [r226a (by decide) (by decide) (by decide) (by decide) (by decide) (by decide)]
  simp only [fmul, Int.reduceAdd]
  rw [r226a (by decide) (by decide) (by decide) (by decide) (by decide) (by decide)]
  simp only [fmul, Int.reduceAdd]
  rw [r226a (by decide) (by decide) (by decide) (by decide) (by decide) (by decide)]
  simp only [fmul, Int.reduceAdd]
  rw [r226a (by decide) (by decide) (by decide) (by decide) (by decide) (by decide)]
  simp only [fmul, Int.reduceAdd]
  rw [r226a (by decide) (by decide) (by decide) (by decide) (by decide) (by decide)]
  simp only [fmul, Int.reduceAdd]
  rw [r226a (by decide) (by decide) (by decide) (by decide) (by decide) (by decide)]
  simp only [fmul, Int.reduceAdd]
  rw [r226a (by decide) (by decide) (by decide) (by decide) (by decide) (by decide)]
  simp only [fmul, Int.reduceAdd]
  rw [r226a (by decide) (by decide) (by decide) (by decide) (by decide) (by decide)]
  simp only [fmul, Int.reduceAdd]
  rw [r226a (by decide) (by decide) (by decide) (by decide) (by decide) (by decide)]
  simp only [fmul, Int.reduceAdd]
  rw [r226a (by decide) (by decide) (by decide) (by decide) (by decide) (by decide)]
  simp only [fmul, Int.reduceAdd]
  rw [show XW Tb gl H.length L226_1 = XW Tb gl H.length (ACode.loop [0, 1, 5, 6, 7, 8] _) from rfl, XW_loop_eq]
  simp (maxSteps := 1000000) (disch := omega) only [ax6, ax7, fquo, ax1, ax2, ax3, ax4, reduceIte, Nat.reduceAdd, Nat.reduceMul, Nat.reduceEqDiff, Nat.reduceLeDiff, reduceCtorEq, Int.reduceAdd, Int.reduceSub, Int.reduceMul, Int.reduceNeg, Int.reduceEq, Int.reduceTMod, Int.reduceTDiv, Int.reduceLT, Int.reduceLE, Int.reduceToNat, Int.reduceBEq, Int.reduceBNe, decide_true, decide_false, and_self, and_true, true_and, w64, dT, dF, bT, bF, nT, nF, if_pos, if_neg, Int.tmod_eq_emod_of_nonneg, Int.tdiv_eq_ediv_of_nonneg, Int.toNat_natCast, Nat.mul_one, Nat.one_mul, Nat.zero_add, Nat.add_zero, Nat.zero_mul]
  simp (maxSteps := 1000000) (disch := omega) only [ax6, ax5, ax1, ax2, ax3, ax4, reduceIte, Nat.reduceAdd, Nat.reduceMul, Nat.reduceEqDiff, Nat.reduceLeDiff, reduceCtorEq, Int.reduceAdd, Int.reduceSub, Int.reduceMul, Int.reduceNeg, Int.reduceEq, Int.reduceTMod, Int.reduceTDiv, Int.reduceLT, Int.reduceLE, Int.reduceToNat, Int.reduceBEq, Int.reduceBNe, decide_true, decide_false, and_self, and_true, true_and, w64, dT, dF, bT, bF, nT, nF, if_pos, if_neg, Int.tmod_eq_emod_of_nonneg, Int.tdiv_eq_ediv_of_nonneg, Int.toNat_natCast, Nat.mul_one, Nat.one_mul, Nat.zero_add, Nat.add_zero, Nat.zero_mul]
  rw [m226_1]
  simp (maxSteps := 1000000) (disch := omega) only [ax6, ax1, ax2, ax3, ax4, reduceIte, Nat.reduceAdd, Nat.reduceMul, Nat.reduceEqDiff, Nat.reduceLeDiff, reduceCtorEq, Int.reduceAdd, Int.reduceSub, Int.reduceMul, Int.reduceNeg, Int.reduceEq, Int.reduceTMod, Int.reduceTDiv, Int.reduceLT, Int.reduceLE, Int.reduceToNat, Int.reduceBEq, Int.reduceBNe, decide_true, decide_false, and_self, and_true, true_and, w64, dT, dF, bT, bF, nT, nF, if_pos, if_neg, Int.tmod_eq_emod_of_nonneg, Int.tdiv_eq_ediv_of_nonneg, Int.toNat_natCast, Nat.mul_one, Nat.one_mul, Nat.zero_add, Nat.add_zero, Nat.zero_mul]
  rw [r226a (by decide) (by decide) (by decide) (by decide) (by decide) (by decide)]
  simp only [fmul, Int.reduceAdd]
  rw [r226a (by decide) (by decide) (by decide) (by decide) (by decide) (by decide)]
  simp only [fmul, Int.reduceAdd]
  rw [r226a (by decide) (by decide) (by decide) (by decide) (by decide) (by decide)]
  simp only [fmul, Int.reduceAdd]
  rw [r226a (by decide) (by decide) (by decide) (by decide) (by decide) (by decide)]
  simp only [fmul, Int.reduceAdd]
  rw [r226a (by decide) (by decide) (by decide) (by decide) (by decide) (by decide)]
  simp only [fmul, Int.reduceAdd]
  rw [r226a (by decide) (by decide) (by decide) (by decide) (by decide) (by decide)]
  simp only [fmul, Int.reduceAdd]
  rw [r226a (by decide) (by decide) (by decide) (by decide) (by decide) (by decide)]
  simp only [fmul, Int.reduceAdd]
  rw [r226a (by decide) (by decide) (by decide) (by decide) (by decide) (by decide)]
  simp only [fmul, Int.reduceAdd]
  rw [r226a (by decide) (by decide) (by decide) (by decide) (by decide) (by decide)]
  simp only [fmul, Int.reduceAdd]
  rw [r226a (by decide) (by decide) (by decide) (by decide) (by decide) (by decide)]
  simp only [fmul, Int.reduceAdd]
  rw [r226a (by decide) (by decide) (by decide) (by decide) (by decide) (by decide)]
  simp only [fmul, Int.reduceAdd]
  rw [r226a (by decide) (by decide) (by decide) (by decide) (by decide) (by decide)]
  simp only [fmul, Int.reduceAdd]
  rw [r226a (by decide) (by decide) (by decide) (by decide) (by decide) (by decide)]
  simp only [fmul, Int.reduceAdd]
  rw [r226a (by decide) (by decide) (by decide) (by decide) (by decide) (by decide)]
  simp only [fmul, Int.reduceAdd]
  rw [show XW Tb gl H.length L226_1 = XW Tb gl H.length (ACode.loop [0, 1, 5, 6, 7, 8] _) from rfl, XW_loop_eq]
  simp (maxSteps := 1000000) (disch := omega) only [ax6, ax7, fquo, ax1, ax2, ax3, ax4, reduceIte, Nat.reduceAdd, Nat.reduceMul, Nat.reduceEqDiff, Nat.reduceLeDiff, reduceCtorEq, Int.reduceAdd, Int.reduceSub, Int.reduceMul, Int.reduceNeg, Int.reduceEq, Int.reduceTMod, Int.reduceTDiv, Int.reduceLT, Int.reduceLE, Int.reduceToNat, Int.reduceBEq, Int.reduceBNe, decide_true, decide_false, and_self, and_true, true_and, w64, dT, dF, bT, bF, nT, nF, if_pos, if_neg, Int.tmod_eq_emod_of_nonneg, Int.tdiv_eq_ediv_of_nonneg, Int.toNat_natCast, Nat.mul_one, Nat.one_mul, Nat.zero_add, Nat.add_zero, Nat.zero_mul]
  simp (maxSteps := 1000000) (disch := omega) only [ax6, ax5, ax1, ax2, ax3, ax4, reduceIte, Nat.reduceAdd, Nat.reduceMul, Nat.reduceEqDiff, Nat.reduceLeDiff, reduceCtorEq, Int.reduceAdd, Int.reduceSub, Int.reduceMul, Int.reduceNeg, Int.reduceEq, Int.reduceTMod, Int.reduceTDiv, Int.reduceLT, Int.reduceLE, Int.reduceToNat, Int.reduceBEq, Int.reduceBNe, decide_true, decide_false, and_self, and_true, true_and, w64, dT, dF, bT, bF, nT, nF, if_pos, if_neg, Int.tmod_eq_emod_of_nonneg, Int.tdiv_eq_ediv_of_nonneg, Int.toNat_natCast, Nat.mul_one, Nat.one_mul, Nat.zero_add, Nat.add_zero, Nat.zero_mul]
  rw [m226_1]
  simp (maxSteps := 1000000) (disch := omega) only [ax6, ax1, ax2, ax3, ax4, reduceIte, Nat.reduceAdd, Nat.reduceMul, Nat.reduceEqDiff, Nat.reduceLeDiff, reduceCtorEq, Int.reduceAdd, Int.reduceSub, Int.reduceMul, Int.reduceNeg, Int.reduceEq, Int.reduceTMod, Int.reduceTDiv, Int.reduceLT, Int.reduceLE, Int.reduceToNat, Int.reduceBEq, Int.reduceBNe, decide_true, decide_false, and_self, and_true, true_and, w64, dT, dF, bT, bF, nT, nF, if_pos, if_neg, Int.tmod_eq_emod_of_nonneg, Int.tdiv_eq_ediv_of_nonneg, Int.toNat_natCast, Nat.mul_one, Nat.one_mul, Nat.zero_add, Nat.add_zero, Nat.zero_mul]
  rw [r226a (by decide) (by decide) (by decide) (by decide) (by decide) (by decide)]
  simp only [fmul, Int.reduceAdd]
  rw [r226a (by decide) (by decide) (by decide) (by decide) (by decide) (by decide)]
  simp only [fmul, Int.reduceAdd]
  rw [r226a (by decide) (by decide) (by decide) (by decide) (by decide) (by decide)]
  simp only [fmul, Int.reduceAdd]
  rw [r226a (by decide) (by decide) (by decide) (by decide) (by decide) (by decide)]
  simp only [fmul, Int.reduceAdd]
  rw [r226a (by decide) (by decide) (by decide) (by decide) (by decide) (by decide)]
  simp only [fmul, Int.reduceAdd]
  rw [r226a (by decide) (by decide) (by decide) (by decide) (by decide) (by decide)]
  simp only [fmul, Int.reduceAdd]
  rw [r226a (by decide) (by decide) (by decide) (by decide) (by decide) (by decide)]
  simp only [fmul, Int.reduceAdd]
  rw [r226a (by decide) (by decide) (by decide) (by decide) (by decide) (by decide)]
  simp only [fmul, Int.reduceAdd]
  rw [r226a (by decide) (by decide) (by decide) (by decide) (by decide) (by decide)]
  simp only [fmul, Int.reduceAdd]
  rw [r226a (by decide) (by decide) (by decide) (by decide) (by decide) (by decide)]
  simp only [fmul, Int.reduceAdd]
  rw [r226a (by decide) (by decide) (by decide) (by decide) (by decide) (by decide)]
  simp only [fmul, Int.reduceAdd]
  rw [r226a (by decide) (by decide) (by decide) (by decide) (by decide) (by decide)]
  simp only [fmul, Int.reduceAdd]
  rw [show XW Tb gl H.length L226_1 = XW Tb gl H.length (ACode.loop [0, 1, 5, 6, 7, 8] _) from rfl, XW_loop_eq]
  simp (maxSteps := 1000000) (disch := omega) only [ax6, ax7, fquo, ax1, ax2, ax3, ax4, reduceIte, Nat.reduceAdd, Nat.reduceMul, Nat.reduceEqDiff, Nat.reduceLeDiff, reduceCtorEq, Int.reduceAdd, Int.reduceSub, Int.reduceMul, Int.reduceNeg, Int.reduceEq, Int.reduceTMod, Int.reduceTDiv, Int.reduceLT, Int.reduceLE, Int.reduceToNat, Int.reduceBEq, Int.reduceBNe, decide_true, decide_false, and_self, and_true, true_and, w64, dT, dF, bT, bF, nT, nF, if_pos, if_neg, Int.tmod_eq_emod_of_nonneg, Int.tdiv_eq_ediv_of_nonneg, Int.toNat_natCast, Nat.mul_one, Nat.one_mul, Nat.zero_add, Nat.add_zero, Nat.zero_mul]
  simp (maxSteps := 1000000) (disch := omega) only [ax6, ax5, ax1, ax2, ax3, ax4, reduceIte, Nat.reduceAdd, Nat.reduceMul, Nat.reduceEqDiff, Nat.reduceLeDiff, reduceCtorEq, Int.reduceAdd, Int.reduceSub, Int.reduceMul, Int.reduceNeg, Int.reduceEq, Int.reduceTMod, Int.reduceTDiv, Int.reduceLT, Int.reduceLE, Int.reduceToNat, Int.reduceBEq, Int.reduceBNe, decide_true, decide_false, and_self, and_true, true_and, w64, dT, dF, bT, bF, nT, nF, if_pos, if_neg, Int.tmod_eq_emod_of_nonneg, Int.tdiv_eq_ediv_of_nonneg, Int.toNat_natCast, Nat.mul_one, Nat.one_mul, Nat.zero_add, Nat.add_zero, Nat.zero_mul]
  rw [m226_1]
  simp (maxSteps := 1000000) (disch := omega) only [ax6, ax1, ax2, ax3, ax4, reduceIte, Nat.reduceAdd, Nat.reduceMul, Nat.reduceEqDiff, Nat.reduceLeDiff, reduceCtorEq, Int.reduceAdd, Int.reduceSub, Int.reduceMul, Int.reduceNeg, Int.reduceEq, Int.reduceTMod, Int.reduceTDiv, Int.reduceLT, Int.reduceLE, Int.reduceToNat, Int.reduceBEq, Int.reduceBNe, decide_true, decide_false, and_self, and_true, true_and, w64, dT, dF, bT, bF, nT, nF, if_pos, if_neg, Int.tmod_eq_emod_of_nonneg, Int.tdiv_eq_ediv_of_nonneg, Int.toNat_natCast, Nat.mul_one, Nat.one_mul, Nat.zero_add, Nat.add_zero, Nat.zero_mul]
  rw [r226a (by decide) (by decide) (by decide) (by decide) (by decide) (by decide)]
  simp only [fmul, Int.reduceAdd]
  rw [r226a (by decide) (by decide) (by decide) (by decide) (by decide) (by decide)]
  simp only [fmul, Int.reduceAdd]
  rw [r226a (by decide) (by decide) (by decide) (by decide) (by decide) (by decide)]
  simp only [fmul, Int.reduceAdd]
  rw [r226a (by decide) (by decide) (by decide) (by decide) (by decide) (by decide)]
  simp only [fmul, Int.reduceAdd]
  rw [r226a (by decide) (by decide) (by decide) (by decide) (by decide) (by decide)]
  simp only [fmul, Int.reduceAdd]
  rw [r226a (by decide) (by decide) (by decide) (by decide) (by decide) (by decide)]
  simp only [fmul, Int.reduceAdd]
  rw [r226a (by decide) (by decide) (by decide) (by decide) (by decide) (by decide)]
  simp only [fmul, Int.reduceAdd]
  rw [r226a (by decide) (by decide) (by decide) (by decide) (by decide) (by decide)]
  simp only [fmul, Int.reduceAdd]
  rw [r226a (by decide) (by decide) (by decide) (by decide) (by decide) (by decide)]
  simp only [fmul, Int.reduceAdd]
  rw [r226a (by decide) (by decide) (by decide) (by decide) (by decide) (by decide)]
  simp only [fmul, Int.reduceAdd]
  rw [show XW Tb gl H.length L226_1 = XW Tb gl H.length (ACode.loop [0, 1, 5, 6, 7, 8] _) from rfl, XW_loop_eq]
  simp (maxSteps := 1000000) (disch := omega) only [ax6, ax7, fquo, ax1, ax2, ax3, ax4, reduceIte, Nat.reduceAdd, Nat.reduceMul, Nat.reduceEqDiff, Nat.reduceLeDiff, reduceCtorEq, Int.reduceAdd, Int.reduceSub, Int.reduceMul, Int.reduceNeg, Int.reduceEq, Int.reduceTMod, Int.reduceTDiv, Int.reduceLT, Int.reduceLE, Int.reduceToNat, Int.reduceBEq, Int.reduceBNe, decide_true, decide_false, and_self, and_true, true_and, w64, dT, dF, bT, bF, nT, nF, if_pos, if_neg, Int.tmod_eq_emod_of_nonneg, Int.tdiv_eq_ediv_of_nonneg, Int.toNat_natCast, Nat.mul_one, Nat.one_mul, Nat.zero_add, Nat.add_zero, Nat.zero_mul]
  simp (maxSteps := 1000000) (disch := omega) only [ax6, ax5, ax1, ax2, ax3, ax4, reduceIte, Nat.reduceAdd, Nat.reduceMul, Nat.reduceEqDiff, Nat.reduceLeDiff, reduceCtorEq, Int.reduceAdd, Int.reduceSub, Int.reduceMul, Int.reduceNeg, Int.reduceEq, Int.reduceTMod, Int.reduceTDiv, Int.reduceLT, Int.reduceLE, Int.reduceToNat, Int.reduceBEq, Int.reduceBNe, decide_true, decide_false, and_self, and_true, true_and, w64, dT, dF, bT, bF, nT, nF, if_pos, if_neg, Int.tmod_eq_emod_of_nonneg, Int.tdiv_eq_ediv_of_nonneg, Int.toNat_natCast, Nat.mul_one, Nat.one_mul, Nat.zero_add, Nat.add_zero, Nat.zero_mul]
  rw [m226_1]
  simp (maxSteps := 1000000) (disch := omega) only [ax6, ax1, ax2, ax3, ax4, reduceIte, Nat.reduceAdd, Nat.reduceMul, Nat.reduceEqDiff, Nat.reduceLeDiff, reduceCtorEq, Int.reduceAdd, Int.reduceSub, Int.reduceMul, Int.reduceNeg, Int.reduceEq, Int.reduceTMod, Int.reduceTDiv, Int.reduceLT, Int.reduceLE, Int.reduceToNat, Int.reduceBEq, Int.reduceBNe, decide_true, decide_false, and_self, and_true, true_and, w64, dT, dF, bT, bF, nT, nF, if_pos, if_neg, Int.tmod_eq_emod_of_nonneg, Int.tdiv_eq_ediv_of_nonneg, Int.toNat_natCast, Nat.mul_one, Nat.one_mul, Nat.zero_add, Nat.add_zero, Nat.zero_mul]
  rw [r226a (by decide) (by decide) (by decide) (by decide) (by decide) (by decide)]
  simp only [fmul, Int.reduceAdd]
  rw [r226a (by decide) (by decide) (by decide) (by decide) (by decide) (by decide)]
  simp only [fmul, Int.reduceAdd]
  rw [r226a (by decide) (by decide) (by decide) (by decide) (by decide) (by decide)]
  simp only [fmul, Int.reduceAdd]
  rw [r226a (by decide) (by decide) (by decide) (by decide) (by decide) (by decide)]
  simp only [fmul, Int.reduceAdd]
  rw [r226a (by decide) (by decide) (by decide) (by decide) (by decide) (by decide)]
  simp only [fmul, Int.reduceAdd]
  rw [r226a (by decide) (by decide) (by decide) (by decide) (by decide) (by decide)]
  simp only [fmul, Int.reduceAdd]
  rw [r226a (by decide) (by decide) (by decide) (by decide) (by decide) (by decide)]
  simp only [fmul, Int.reduceAdd]
  rw [r226a (by decide) (by decide) (by decide) (by decide) (by decide) (by decide)]
  simp only [fmul, Int.reduceAdd]
  rw [show XW Tb gl H.length L226_1 = XW Tb gl H.length (ACode.loop [0, 1, 5, 6, 7, 8] _) from rfl, XW_loop_eq]
  simp (maxSteps := 1000000) (disch := omega) only [ax6, ax7, fquo, ax1, ax2, ax3, ax4, reduceIte, Nat.reduceAdd, Nat.reduceMul, Nat.reduceEqDiff, Nat.reduceLeDiff, reduceCtorEq, Int.reduceAdd, Int.reduceSub, Int.reduceMul, Int.reduceNeg, Int.reduceEq, Int.reduceTMod, Int.reduceTDiv, Int.reduceLT, Int.reduceLE, Int.reduceToNat, Int.reduceBEq, Int.reduceBNe, decide_true, decide_false, and_self, and_true, true_and, w64, dT, dF, bT, bF, nT, nF, if_pos, if_neg, Int.tmod_eq_emod_of_nonneg, Int.tdiv_eq_ediv_of_nonneg, Int.toNat_natCast, Nat.mul_one, Nat.one_mul, Nat.zero_add, Nat.add_zero, Nat.zero_mul]
  simp (maxSteps := 1000000) (disch := omega) only [ax6, ax5, ax1, ax2, ax3, ax4, reduceIte, Nat.reduceAdd, Nat.reduceMul, Nat.reduceEqDiff, Nat.reduceLeDiff, reduceCtorEq, Int.reduceAdd, Int.reduceSub, Int.reduceMul, Int.reduceNeg, Int.reduceEq, Int.reduceTMod, Int.reduceTDiv, Int.reduceLT, Int.reduceLE, Int.reduceToNat, Int.reduceBEq, Int.reduceBNe, decide_true, decide_false, and_self, and_true, true_and, w64, dT, dF, bT, bF, nT, nF, if_pos, if_neg, Int.tmod_eq_emod_of_nonneg, Int.tdiv_eq_ediv_of_nonneg, Int.toNat_natCast, Nat.mul_one, Nat.one_mul, Nat.zero_add, Nat.add_zero, Nat.zero_mul]
  rw [m226_1]
  simp (maxSteps := 1000000) (disch := omega) only [ax6, ax1, ax2, ax3, ax4, reduceIte, Nat.reduceAdd, Nat.reduceMul, Nat.reduceEqDiff, Nat.reduceLeDiff, reduceCtorEq, Int.reduceAdd, Int.reduceSub, Int.reduceMul, Int.reduceNeg, Int.reduceEq, Int.reduceTMod, Int.reduceTDiv, Int.reduceLT, Int.reduceLE, Int.reduceToNat, Int.reduceBEq, Int.reduceBNe, decide_true, decide_false, and_self, and_true, true_and, w64, dT, dF, bT, bF, nT, nF, if_pos, if_neg, Int.tmod_eq_emod_of_nonneg, Int.tdiv_eq_ediv_of_nonneg, Int.toNat_natCast, Nat.mul_one, Nat.one_mul, Nat.zero_add, Nat.add_zero, Nat.zero_mul]
  rw [r226a (by decide) (by decide) (by decide) (by decide) (by decide) (by decide)]
  simp only [fmul, Int.reduceAdd]
  rw [r226a (by decide) (by decide) (by decide) (by decide) (by decide) (by decide)]
  simp only [fmul, Int.reduceAdd]
  rw [r226a (by decide) (by decide) (by decide) (by decide) (by decide) (by decide)]
  simp only [fmul, Int.reduceAdd]
  rw [r226a (by decide) (by decide) (by decide) (by decide) (by decide) (by decide)]
  simp only [fmul, Int.reduceAdd]
  rw [r226a (by decide) (by decide) (by decide) (by decide) (by decide) (by decide)]
  simp only [fmul, Int.reduceAdd]
  rw [r226a (by decide) (by decide) (by decide) (by decide) (by decide) (by decide)]
  simp only [fmul, Int.reduceAdd]
  rw [show XW Tb gl H.length L226_1 = XW Tb gl H.length (ACode.loop [0, 1, 5, 6, 7, 8] _) from rfl, XW_loop_eq]
  simp (maxSteps := 1000000) (disch := omega) only [ax6, ax7, fquo, ax1, ax2, ax3, ax4, reduceIte, Nat.reduceAdd, Nat.reduceMul, Nat.reduceEqDiff, Nat.reduceLeDiff, reduceCtorEq, Int.reduceAdd, Int.reduceSub, Int.reduceMul, Int.reduceNeg, Int.reduceEq, Int.reduceTMod, Int.reduceTDiv, Int.reduceLT, Int.reduceLE, Int.reduceToNat, Int.reduceBEq, Int.reduceBNe, decide_true, decide_false, and_self, and_true, true_and, w64, dT, dF, bT, bF, nT, nF, if_pos, if_neg, Int.tmod_eq_emod_of_nonneg, Int.tdiv_eq_ediv_of_nonneg, Int.toNat_natCast, Nat.mul_one, Nat.one_mul, Nat.zero_add, Nat.add_zero, Nat.zero_mul]
  simp (maxSteps := 1000000) (disch := omega) only [ax6, ax5, ax1, ax2, ax3, ax4, reduceIte, Nat.reduceAdd, Nat.reduceMul, Nat.reduceEqDiff, Nat.reduceLeDiff, reduceCtorEq, Int.reduceAdd, Int.reduceSub, Int.reduceMul, Int.reduceNeg, Int.reduceEq, Int.reduceTMod, Int.reduceTDiv, Int.reduceLT, Int.reduceLE, Int.reduceToNat, Int.reduceBEq, Int.reduceBNe, decide_true, decide_false, and_self, and_true, true_and, w64, dT, dF, bT, bF, nT, nF, if_pos, if_neg, Int.tmod_eq_emod_of_nonneg, Int.tdiv_eq_ediv_of_nonneg, Int.toNat_natCast, Nat.mul_one, Nat.one_mul, Nat.zero_add, Nat.add_zero, Nat.zero_mul]
  rw [m226_1]
  simp (maxSteps := 1000000) (disch := omega) only [ax6, ax1, ax2, ax3, ax4, reduceIte, Nat.reduceAdd, Nat.reduceMul, Nat.reduceEqDiff, Nat.reduceLeDiff, reduceCtorEq, Int.reduceAdd, Int.reduceSub, Int.reduceMul, Int.reduceNeg, Int.reduceEq, Int.reduceTMod, Int.reduceTDiv, Int.reduceLT, Int.reduceLE, Int.reduceToNat, Int.reduceBEq, Int.reduceBNe, decide_true, decide_false, and_self, and_true, true_and, w64, dT, dF, bT, bF, nT, nF, if_pos, if_neg, Int.tmod_eq_emod_of_nonneg, Int.tdiv_eq_ediv_of_nonneg, Int.toNat_natCast, Nat.mul_one, Nat.one_mul, Nat.zero_add, Nat.add_zero, Nat.zero_mul]
  rw [r226a (by decide) (by decide) (by decide) (by decide) (by decide) (by decide)]
  simp only [fmul, Int.reduceAdd]
  rw [r226a (by decide) (by decide) (by decide) (by decide) (by decide) (by decide)]
  simp only [fmul, Int.reduceAdd]
  rw [r226a (by decide) (by decide) (by decide) (by decide) (by decide) (by decide)]
  simp only [fmul, Int.reduceAdd]
  rw [r226a (by decide) (by decide) (by decide) (by decide) (by decide) (by decide)]
  simp only [fmul, Int.reduceAdd]
  rw [show XW Tb gl H.length L226_1 = XW Tb gl H.length (ACode.loop [0, 1, 5, 6, 7, 8] _) from rfl, XW_loop_eq]
  simp (maxSteps := 1000000) (disch := omega) only [ax6, ax7, fquo, ax1, ax2, ax3, ax4, reduceIte, Nat.reduceAdd, Nat.reduceMul, Nat.reduceEqDiff, Nat.reduceLeDiff, reduceCtorEq, Int.reduceAdd, Int.reduceSub, Int.reduceMul, Int.reduceNeg, Int.reduceEq, Int.reduceTMod, Int.reduceTDiv, Int.reduceLT, Int.reduceLE, Int.reduceToNat, Int.reduceBEq, Int.reduceBNe, decide_true, decide_false, and_self, and_true, true_and, w64, dT, dF, bT, bF, nT, nF, if_pos, if_neg, Int.tmod_eq_emod_of_nonneg, Int.tdiv_eq_ediv_of_nonneg, Int.toNat_natCast, Nat.mul_one, Nat.one_mul, Nat.zero_add, Nat.add_zero, Nat.zero_mul]
  simp (maxSteps := 1000000) (disch := omega) only [ax6, ax5, ax1, ax2, ax3, ax4, reduceIte, Nat.reduceAdd, Nat.reduceMul, Nat.reduceEqDiff, Nat.reduceLeDiff, reduceCtorEq, Int.reduceAdd, Int.reduceSub, Int.reduceMul, Int.reduceNeg, Int.reduceEq, Int.reduceTMod, Int.reduceTDiv, Int.reduceLT, Int.reduceLE, Int.reduceToNat, Int.reduceBEq, Int.reduceBNe, decide_true, decide_false, and_self, and_true, true_and, w64, dT, dF, bT, bF, nT, nF, if_pos, if_neg, Int.tmod_eq_emod_of_nonneg, Int.tdiv_eq_ediv_of_nonneg, Int.toNat_natCast, Nat.mul_one, Nat.one_mul, Nat.zero_add, Nat.add_zero, Nat.zero_mul]
  rw [m226_1]
  simp (maxSteps := 1000000) (disch := omega) only [ax6, ax1, ax2, ax3, ax4, reduceIte, Nat.reduceAdd, Nat.reduceMul, Nat.reduceEqDiff, Nat.reduceLeDiff, reduceCtorEq, Int.reduceAdd, Int.reduceSub, Int.reduceMul, Int.reduceNeg, Int.reduceEq, Int.reduceTMod, Int.reduceTDiv, Int.reduceLT, Int.reduceLE, Int.reduceToNat, Int.reduceBEq, Int.reduceBNe, decide_true, decide_false, and_self, and_true, true_and, w64, dT, dF, bT, bF, nT, nF, if_pos, if_neg, Int.tmod_eq_emod_of_nonneg, Int.tdiv_eq_ediv_of_nonneg, Int.toNat_natCast, Nat.mul_one, Nat.one_mul, Nat.zero_add, Nat.add_zero, Nat.zero_mul]
  rw [r226a (by decide) (by decide) (by decide) (by decide) (by decide) (by decide)]
  simp only [fmul, Int.reduceAdd]
  rw [r226a (by decide) (by decide) (by decide) (by decide) (by decide) (by decide)]
  simp only [fmul, Int.reduceAdd]
  rw [show XW Tb gl H.length L226_1 = XW Tb gl H.length (ACode.loop [0, 1, 5, 6, 7, 8] _) from rfl, XW_loop_eq]
  simp (maxSteps := 1000000) (disch := omega) only [ax6, ax7, fquo, ax1, ax2, ax3, ax4, reduceIte, Nat.reduceAdd, Nat.reduceMul, Nat.reduceEqDiff, Nat.reduceLeDiff, reduceCtorEq, Int.reduceAdd, Int.reduceSub, Int.reduceMul, Int.reduceNeg, Int.reduceEq, Int.reduceTMod, Int.reduceTDiv, Int.reduceLT, Int.reduceLE, Int.reduceToNat, Int.reduceBEq, Int.reduceBNe, decide_true, decide_false, and_self, and_true, true_and, w64, dT, dF, bT, bF, nT, nF, if_pos, if_neg, Int.tmod_eq_emod_of_nonneg, Int.tdiv_eq_ediv_of_nonneg, Int.toNat_natCast, Nat.mul_one, Nat.one_mul, Nat.zero_add, Nat.add_zero, Nat.zero_mul]
  simp (maxSteps := 1000000) (disch := omega) only [ax6, ax5, ax1, ax2, ax3, ax4, reduceIte, Nat.reduceAdd, Nat.reduceMul, Nat.reduceEqDiff, Nat.reduceLeDiff, reduceCtorEq, Int.reduceAdd, Int.reduceSub, Int.reduceMul, Int.reduceNeg, Int.reduceEq, Int.reduceTMod, Int.reduceTDiv, Int.reduceLT, Int.reduceLE, Int.reduceToNat, Int.reduceBEq, Int.reduceBNe, decide_true, decide_false, and_self, and_true, true_and, w64, dT, dF, bT, bF, nT, nF, if_pos, if_neg, Int.tmod_eq_emod_of_nonneg, Int.tdiv_eq_ediv_of_nonneg, Int.toNat_natCast, Nat.mul_one, Nat.one_mul, Nat.zero_add, Nat.add_zero, Nat.zero_mul]
  rw [m226_1]
  simp (maxSteps := 1000000) (disch := omega) only [ax6, ax1, ax2, ax3, ax4, reduceIte, Nat.reduceAdd, Nat.reduceMul, Nat.reduceEqDiff, Nat.reduceLeDiff, reduceCtorEq, Int.reduceAdd, Int.reduceSub, Int.reduceMul, Int.reduceNeg, Int.reduceEq, Int.reduceTMod, Int.reduceTDiv, Int.reduceLT, Int.reduceLE, Int.reduceToNat, Int.reduceBEq, Int.reduceBNe, decide_true, decide_false, and_self, and_true, true_and, w64, dT, dF, bT, bF, nT, nF, if_pos, if_neg, Int.tmod_eq_emod_of_nonneg, Int.tdiv_eq_ediv_of_nonneg, Int.toNat_natCast, Nat.mul_one, Nat.one_mul, Nat.zero_add, Nat.add_zero, Nat.zero_mul]
  rw [show XW Tb gl H.length L226_1 = XW Tb gl H.length (ACode.loop [0, 1, 5, 6, 7, 8] _) from rfl, XW_loop_eq]
  simp (maxSteps := 1000000) (disch := omega) only [ax6, ax7, fquo, ax1, ax2, ax3, ax4, reduceIte, Nat.reduceAdd, Nat.reduceMul, Nat.reduceEqDiff, Nat.reduceLeDiff, reduceCtorEq, Int.reduceAdd, Int.reduceSub, Int.reduceMul, Int.reduceNeg, Int.reduceEq, Int.reduceTMod, Int.reduceTDiv, Int.reduceLT, Int.reduceLE, Int.reduceToNat, Int.reduceBEq, Int.reduceBNe, decide_true, decide_false, and_self, and_true, true_and, w64, dT, dF, bT, bF, nT, nF, if_pos, if_neg, Int.tmod_eq_emod_of_nonneg, Int.tdiv_eq_ediv_of_nonneg, Int.toNat_natCast, Nat.mul_one, Nat.one_mul, Nat.zero_add, Nat.add_zero, Nat.zero_mul]
  simp (maxSteps := 1000000) (disch := omega) only [ax6, ax5, ax1, ax2, ax3, ax4, reduceIte, Nat.reduceAdd, Nat.reduceMul, Nat.reduceEqDiff, Nat.reduceLeDiff, reduceCtorEq, Int.reduceAdd, Int.reduceSub, Int.reduceMul, Int.reduceNeg, Int.reduceEq, Int.reduceTMod, Int.reduceTDiv, Int.reduceLT, Int.reduceLE, Int.reduceToNat, Int.reduceBEq, Int.reduceBNe, decide_true, decide_false, and_self, and_true, true_and, w64, dT, dF, bT, bF, nT, nF, if_pos, if_neg, Int.tmod_eq_emod_of_nonneg, Int.tdiv_eq_ediv_of_nonneg, Int.toNat_natCast, Nat.mul_one, Nat.one_mul, Nat.zero_add, Nat.add_zero, Nat.zero_mul]
  exact ret_drop0 rfl rfl rfl rfl
end
end Go.AM.Cd
/- The roots: cosine and sine, the program's and the document's. No condition. -/
set_option maxRecDepth 20000
set_option maxHeartbeats 2000000
set_option linter.unusedSimpArgs false
namespace Go.AM

theorem canon_fop (op : BinOp) (x y : Nat) : canon (fop op x y) = fop op x y := canon_canon _
theorem canon_fneg {x : Nat} (h : canon x = x) : canon (fneg x) = fneg x := by
  unfold fneg
  cases hx : isNaN x
  · simp only [Bool.false_eq_true, if_false]
    exact canon_of_not (by rw [isNaN_xor]; exact hx)
  · simp only [if_true]; exact canon_of_nan isNaN_nan64
theorem fneg_fneg {x : Nat} (h : canon x = x) : fneg (fneg x) = x := by
  unfold fneg
  cases hx : isNaN x
  · simp only [Bool.false_eq_true, if_false, isNaN_xor, hx]
    rw [Nat.xor_assoc, Nat.xor_self, Nat.xor_zero]
  · simp only [if_true, isNaN_nan64]
    rw [← h, canon_of_nan hx]
theorem tmod_bound {k n : Int} (h : 1 ≤ n) : -n < k.tmod n ∧ k.tmod n < n := by
  have h1 := Int.tmod_lt_of_pos k (show 0 < n by omega)
  have h2 := Int.tmod_lt_of_pos (-k) (show 0 < n by omega)
  rw [Int.neg_tmod] at h2
  omega
theorem tmod_fix {k n : Int} (h : 1 ≤ n) : (k.tmod n + n).tmod n = k % n := by
  obtain ⟨h1, h2⟩ := tmod_bound (k := k) h
  rw [Int.tmod_eq_emod_of_nonneg (by omega), Int.add_emod_right]
  have : k.tmod n % n = k % n := by
    have e := Int.mul_tdiv_add_tmod k n
    have : k.tmod n = k + n * (-(k.tdiv n)) := by rw [Int.mul_neg]; omega
    rw [this, Int.add_mul_emod_self_left]
  exact this
end Go.AM

namespace Go.AM.Cd
def hor0 (y : Nat) : Nat := horF y [4607182418800017408, 4602678819172646912, 4586165620538955093, 4564047942368979991, 4537941361671905306, 4508805057796939612, 4477122120089393304, 4443145680587881629, 4407590220077447199]
def hor1 (y : Nat) : Nat := horF y [4607182418800017408, 4595172819793696085, 4575957461383581969, 4551452160554016794, 4523617214285662004, 4493156764026750180, 4460272573143870729, 4425604618586929183, 4389130328383466826]
def eigF (r n : Int) : Nat × Nat :=
  if r = 0 then (4607182418800017408, 0) else if 8 * r = n then (4604544271217802189, 4604544271217802189) else
    (hor0 (fop .mul (fop .quo (fop .mul 4618760256179416344 (fofi r)) (fofi n)) (fop .quo (fop .mul 4618760256179416344 (fofi r)) (fofi n))),
     fop .mul (fop .quo (fop .mul 4618760256179416344 (fofi r)) (fofi n)) (hor1 (fop .mul (fop .quo (fop .mul 4618760256179416344 (fofi r)) (fofi n)) (fop .quo (fop .mul 4618760256179416344 (fofi r)) (fofi n)))))
def plusF (f : Nat) : Nat := if feq f 0 = true then 0 else f
def rotF (q : Int) (d : Nat × Nat) : Nat × Nat := if q = 1 then (fneg d.2, d.1) else if q = 2 then (fneg d.1, fneg d.2) else if q = 3 then (d.2, fneg d.1) else d
def pairF (n k : Int) : Nat × Nat :=
  let d := rotF (4 * (k % n) / n) (if 2 * (4 * (k % n) % n) ≤ n then eigF (4 * (k % n) % n) (4 * n) else ((eigF (n - 4 * (k % n) % n) (4 * n)).2, (eigF (n - 4 * (k % n) % n) (4 * n)).1))
  (plusF d.1, plusF d.2)

theorem eig_canon (r n : Int) : canon (eigF r n).1 = (eigF r n).1 ∧ canon (eigF r n).2 = (eigF r n).2 := by
  unfold eigF
  split
  · exact ⟨by decide +kernel, by decide +kernel⟩
  · split
    · exact ⟨by decide +kernel, by decide +kernel⟩
    · exact ⟨canon_fop _ _ _, canon_fop _ _ _⟩

section
variable {gl base : Nat} {H : Heap}
theorem c90 (n : Int) : Cf Tb gl base 90 [.int .u64 n] H = some (.float .f64 (canon n.toNat), H) := rfl
theorem cn1 : canon 4604544271217802189 = 4604544271217802189 := by decide +kernel
theorem cn2 : canon 4618760256179416344 = 4618760256179416344 := by decide +kernel
theorem c100 {k n : Int} (h1 : 1 ≤ n) (h2 : n ≤ 16777216) : Cf Tb gl base 100 [.int .i64 k, .int .i64 n] H = some (.int .i64 (k % n), H) := by
  have e1 := tmod_bound (k := k) h1
  have e2 := tmod_fix (k := k) h1
  refine Cf_of T100 (by simp) ?_
  simp (maxSteps := 1000000) (disch := omega) only [B100, e2, ax1, ax2, ax3, ax4, reduceIte, Nat.reduceAdd, Nat.reduceMul, Nat.reduceEqDiff, Nat.reduceLeDiff, reduceCtorEq, Int.reduceAdd, Int.reduceSub, Int.reduceMul, Int.reduceNeg, Int.reduceEq, Int.reduceTMod, Int.reduceTDiv, Int.reduceLT, Int.reduceLE, Int.reduceToNat, Int.reduceBEq, Int.reduceBNe, decide_true, decide_false, and_self, and_true, true_and, w64, dT, dF, bT, bF, nT, nF, if_pos, if_neg, Int.tmod_eq_emod_of_nonneg, Int.tdiv_eq_ediv_of_nonneg, Int.toNat_natCast, Nat.mul_one, Nat.one_mul, Nat.zero_add, Nat.add_zero, Nat.zero_mul]
  exact ret_drop0 rfl rfl rfl rfl
theorem c125 {k n : Int} (h1 : 1 ≤ n) (h2 : n ≤ 16777216) : Cf Tb gl base 125 [.int .i64 k, .int .i64 n] H = some (.int .i64 (k % n), H) := by
  have e1 := tmod_bound (k := k) h1
  have e2 := tmod_fix (k := k) h1
  refine Cf_of T125 (by simp) ?_
  simp (maxSteps := 1000000) (disch := omega) only [B125, e2, ax1, ax2, ax3, ax4, reduceIte, Nat.reduceAdd, Nat.reduceMul, Nat.reduceEqDiff, Nat.reduceLeDiff, reduceCtorEq, Int.reduceAdd, Int.reduceSub, Int.reduceMul, Int.reduceNeg, Int.reduceEq, Int.reduceTMod, Int.reduceTDiv, Int.reduceLT, Int.reduceLE, Int.reduceToNat, Int.reduceBEq, Int.reduceBNe, decide_true, decide_false, and_self, and_true, true_and, w64, dT, dF, bT, bF, nT, nF, if_pos, if_neg, Int.tmod_eq_emod_of_nonneg, Int.tdiv_eq_ediv_of_nonneg, Int.toNat_natCast, Nat.mul_one, Nat.one_mul, Nat.zero_add, Nat.add_zero, Nat.zero_mul]
  exact ret_drop0 rfl rfl rfl rfl
theorem c129 {n : Int} (h1 : 1 ≤ n) (h2 : n ≤ 4194304) : Cf Tb gl base 129 [.int .i64 n] H = some (.bool true, H) := by
  refine Cf_of T129 (by simp) ?_
  simp (maxSteps := 1000000) (disch := omega) only [B129, ax1, ax2, ax3, ax4, reduceIte, Nat.reduceAdd, Nat.reduceMul, Nat.reduceEqDiff, Nat.reduceLeDiff, reduceCtorEq, Int.reduceAdd, Int.reduceSub, Int.reduceMul, Int.reduceNeg, Int.reduceEq, Int.reduceTMod, Int.reduceTDiv, Int.reduceLT, Int.reduceLE, Int.reduceToNat, Int.reduceBEq, Int.reduceBNe, decide_true, decide_false, and_self, and_true, true_and, w64, dT, dF, bT, bF, nT, nF, if_pos, if_neg, Int.tmod_eq_emod_of_nonneg, Int.tdiv_eq_ediv_of_nonneg, Int.toNat_natCast, Nat.mul_one, Nat.one_mul, Nat.zero_add, Nat.add_zero, Nat.zero_mul]
  exact ret_drop0 rfl rfl rfl rfl
theorem c136 {f : Nat} : Cf Tb gl base 136 [.float .f64 f] H = some (.float .f64 (plusF f), H) := by
  refine Cf_of T136 (by simp) ?_
  unfold plusF
  cases h : feq f 0
  · simp (maxSteps := 1000000) (disch := omega) only [B136, h, ax1, ax2, ax3, ax4, reduceIte, Nat.reduceAdd, Nat.reduceMul, Nat.reduceEqDiff, Nat.reduceLeDiff, reduceCtorEq, Int.reduceAdd, Int.reduceSub, Int.reduceMul, Int.reduceNeg, Int.reduceEq, Int.reduceTMod, Int.reduceTDiv, Int.reduceLT, Int.reduceLE, Int.reduceToNat, Int.reduceBEq, Int.reduceBNe, decide_true, decide_false, and_self, and_true, true_and, w64, dT, dF, bT, bF, nT, nF, if_pos, if_neg, Int.tmod_eq_emod_of_nonneg, Int.tdiv_eq_ediv_of_nonneg, Int.toNat_natCast, Nat.mul_one, Nat.one_mul, Nat.zero_add, Nat.add_zero, Nat.zero_mul]
    exact ret_drop0 rfl rfl rfl rfl
  · simp (maxSteps := 1000000) (disch := omega) only [B136, h, ax1, ax2, ax3, ax4, reduceIte, Nat.reduceAdd, Nat.reduceMul, Nat.reduceEqDiff, Nat.reduceLeDiff, reduceCtorEq, Int.reduceAdd, Int.reduceSub, Int.reduceMul, Int.reduceNeg, Int.reduceEq, Int.reduceTMod, Int.reduceTDiv, Int.reduceLT, Int.reduceLE, Int.reduceToNat, Int.reduceBEq, Int.reduceBNe, decide_true, decide_false, and_self, and_true, true_and, w64, dT, dF, bT, bF, nT, nF, if_pos, if_neg, Int.tmod_eq_emod_of_nonneg, Int.tdiv_eq_ediv_of_nonneg, Int.toNat_natCast, Nat.mul_one, Nat.one_mul, Nat.zero_add, Nat.add_zero, Nat.zero_mul]
    exact ret_drop0 rfl rfl rfl rfl
theorem c173 {r n : Int} (h1 : 0 ≤ r) (h2 : r ≤ 16777216) : Cf Tb gl base 173 [.int .i64 r, .int .i64 n] H = some (.tuple #[.float .f64 (eigF r n).1, .float .f64 (eigF r n).2], H) := by
  refine Cf_of T173 (by simp) ?_
  unfold eigF
  by_cases hr : r = 0
  · subst hr
    simp (maxSteps := 1000000) (disch := omega) only [B173, ax6, ax1, ax2, ax3, ax4, reduceIte, Nat.reduceAdd, Nat.reduceMul, Nat.reduceEqDiff, Nat.reduceLeDiff, reduceCtorEq, Int.reduceAdd, Int.reduceSub, Int.reduceMul, Int.reduceNeg, Int.reduceEq, Int.reduceTMod, Int.reduceTDiv, Int.reduceLT, Int.reduceLE, Int.reduceToNat, Int.reduceBEq, Int.reduceBNe, decide_true, decide_false, and_self, and_true, true_and, w64, dT, dF, bT, bF, nT, nF, if_pos, if_neg, Int.tmod_eq_emod_of_nonneg, Int.tdiv_eq_ediv_of_nonneg, Int.toNat_natCast, Nat.mul_one, Nat.one_mul, Nat.zero_add, Nat.add_zero, Nat.zero_mul]
    exact ret_drop0 rfl rfl rfl rfl
  · by_cases h8 : 8 * r = n
    · subst h8
      simp (maxSteps := 1000000) (disch := omega) only [B173, ax6, c90, cn1, ax1, ax2, ax3, ax4, reduceIte, Nat.reduceAdd, Nat.reduceMul, Nat.reduceEqDiff, Nat.reduceLeDiff, reduceCtorEq, Int.reduceAdd, Int.reduceSub, Int.reduceMul, Int.reduceNeg, Int.reduceEq, Int.reduceTMod, Int.reduceTDiv, Int.reduceLT, Int.reduceLE, Int.reduceToNat, Int.reduceBEq, Int.reduceBNe, decide_true, decide_false, and_self, and_true, true_and, w64, dT, dF, bT, bF, nT, nF, if_pos, if_neg, Int.tmod_eq_emod_of_nonneg, Int.tdiv_eq_ediv_of_nonneg, Int.toNat_natCast, Nat.mul_one, Nat.one_mul, Nat.zero_add, Nat.add_zero, Nat.zero_mul]
      exact ret_drop0 rfl rfl rfl rfl
    · simp (maxSteps := 1000000) (disch := omega) only [B173, ax6, c90, cn2, c225_0, c225_1, ax1, ax2, ax3, ax4, reduceIte, Nat.reduceAdd, Nat.reduceMul, Nat.reduceEqDiff, Nat.reduceLeDiff, reduceCtorEq, Int.reduceAdd, Int.reduceSub, Int.reduceMul, Int.reduceNeg, Int.reduceEq, Int.reduceTMod, Int.reduceTDiv, Int.reduceLT, Int.reduceLE, Int.reduceToNat, Int.reduceBEq, Int.reduceBNe, decide_true, decide_false, and_self, and_true, true_and, w64, dT, dF, bT, bF, nT, nF, if_pos, if_neg, Int.tmod_eq_emod_of_nonneg, Int.tdiv_eq_ediv_of_nonneg, Int.toNat_natCast, Nat.mul_one, Nat.one_mul, Nat.zero_add, Nat.add_zero, Nat.zero_mul]
      exact ret_drop0 rfl rfl rfl rfl
theorem c174 {r n : Int} (h1 : 0 ≤ r) (h2 : r ≤ 16777216) : Cf Tb gl base 174 [.int .i64 r, .int .i64 n] H = some (.tuple #[.float .f64 (eigF r n).1, .float .f64 (eigF r n).2], H) := by
  refine Cf_of T174 (by simp) ?_
  unfold eigF
  by_cases hr : r = 0
  · subst hr
    simp (maxSteps := 1000000) (disch := omega) only [B174, ax6, ax1, ax2, ax3, ax4, reduceIte, Nat.reduceAdd, Nat.reduceMul, Nat.reduceEqDiff, Nat.reduceLeDiff, reduceCtorEq, Int.reduceAdd, Int.reduceSub, Int.reduceMul, Int.reduceNeg, Int.reduceEq, Int.reduceTMod, Int.reduceTDiv, Int.reduceLT, Int.reduceLE, Int.reduceToNat, Int.reduceBEq, Int.reduceBNe, decide_true, decide_false, and_self, and_true, true_and, w64, dT, dF, bT, bF, nT, nF, if_pos, if_neg, Int.tmod_eq_emod_of_nonneg, Int.tdiv_eq_ediv_of_nonneg, Int.toNat_natCast, Nat.mul_one, Nat.one_mul, Nat.zero_add, Nat.add_zero, Nat.zero_mul]
    exact ret_drop0 rfl rfl rfl rfl
  · by_cases h8 : 8 * r = n
    · subst h8
      simp (maxSteps := 1000000) (disch := omega) only [B174, ax6, c90, cn1, ax1, ax2, ax3, ax4, reduceIte, Nat.reduceAdd, Nat.reduceMul, Nat.reduceEqDiff, Nat.reduceLeDiff, reduceCtorEq, Int.reduceAdd, Int.reduceSub, Int.reduceMul, Int.reduceNeg, Int.reduceEq, Int.reduceTMod, Int.reduceTDiv, Int.reduceLT, Int.reduceLE, Int.reduceToNat, Int.reduceBEq, Int.reduceBNe, decide_true, decide_false, and_self, and_true, true_and, w64, dT, dF, bT, bF, nT, nF, if_pos, if_neg, Int.tmod_eq_emod_of_nonneg, Int.tdiv_eq_ediv_of_nonneg, Int.toNat_natCast, Nat.mul_one, Nat.one_mul, Nat.zero_add, Nat.add_zero, Nat.zero_mul]
      exact ret_drop0 rfl rfl rfl rfl
    · simp (maxSteps := 1000000) (disch := omega) only [B174, ax6, c90, cn2, c226_0, c226_1, ax1, ax2, ax3, ax4, reduceIte, Nat.reduceAdd, Nat.reduceMul, Nat.reduceEqDiff, Nat.reduceLeDiff, reduceCtorEq, Int.reduceAdd, Int.reduceSub, Int.reduceMul, Int.reduceNeg, Int.reduceEq, Int.reduceTMod, Int.reduceTDiv, Int.reduceLT, Int.reduceLE, Int.reduceToNat, Int.reduceBEq, Int.reduceBNe, decide_true, decide_false, and_self, and_true, true_and, w64, dT, dF, bT, bF, nT, nF, if_pos, if_neg, Int.tmod_eq_emod_of_nonneg, Int.tdiv_eq_ediv_of_nonneg, Int.toNat_natCast, Nat.mul_one, Nat.one_mul, Nat.zero_add, Nat.add_zero, Nat.zero_mul]
      exact ret_drop0 rfl rfl rfl rfl
end
end Go.AM.Cd
/- The roots: pairs and cosines. No condition. -/
set_option maxRecDepth 20000
set_option maxHeartbeats 2000000
set_option linter.unusedSimpArgs false
namespace Go.AM.Cd
section
variable {gl base : Nat} {H : Heap}
theorem q_cases {n j : Int} (h1 : 1 ≤ n) (h2 : 0 ≤ j) (h3 : j < n) : 4 * j / n = 0 ∨ 4 * j / n = 1 ∨ 4 * j / n = 2 ∨ 4 * j / n = 3 := by
  have a : 0 ≤ 4 * j / n := Int.ediv_nonneg (by omega) (by omega)
  have b : 4 * j / n < 4 := Int.ediv_lt_of_lt_mul (by omega) (by omega)
  omega
theorem c128 {n k : Int} (h1 : 1 ≤ n) (h2 : n ≤ 4194304) : Cf Tb gl base 128 [.int .i64 n, .int .i64 k] H = some (.tuple #[.float .f64 (pairF n k).1, .float .f64 (pairF n k).2, .nilIface], H) := by
  refine Cf_of T128 (by simp) ?_
  unfold pairF
  have hj1 : 0 ≤ k % n := Int.emod_nonneg _ (by omega)
  have hj2 : k % n < n := Int.emod_lt_of_pos _ (by omega)
  have e100 : Cf Tb gl H.length 100 [.int .i64 k, .int .i64 n] H = some (.int .i64 (k % n), H) := c100 h1 (by omega)
  generalize k % n = j at hj1 hj2 e100
  have hr1 : 0 ≤ 4 * j % n := Int.emod_nonneg _ (by omega)
  have hr2 : 4 * j % n < n := Int.emod_lt_of_pos _ (by omega)
  have hq := q_cases h1 hj1 hj2
  generalize hr : 4 * j % n = r at hr1 hr2
  generalize hqq : 4 * j / n = q at hq
  have hc : ∀ r n, fneg (fneg (eigF r n).1) = (eigF r n).1 := fun r n => fneg_fneg (eig_canon r n).1
  have hs : ∀ r n, fneg (fneg (eigF r n).2) = (eigF r n).2 := fun r n => fneg_fneg (eig_canon r n).2
  by_cases hle : 2 * r ≤ n
  · rw [if_pos hle]
    rcases hq with rfl | rfl | rfl | rfl <;> (
      simp (maxSteps := 1000000) (disch := omega) only [B128, L128_0, ax5, ax6, e100, hr, hqq, c173, c136, hc, hs, rotF, List.getElem?_toArray, List.getElem?_cons_zero, List.getElem?_cons_succ, ax1, ax2, ax3, ax4, reduceIte, Nat.reduceAdd, Nat.reduceMul, Nat.reduceEqDiff, Nat.reduceLeDiff, reduceCtorEq, Int.reduceAdd, Int.reduceSub, Int.reduceMul, Int.reduceNeg, Int.reduceEq, Int.reduceTMod, Int.reduceTDiv, Int.reduceLT, Int.reduceLE, Int.reduceToNat, Int.reduceBEq, Int.reduceBNe, decide_true, decide_false, and_self, and_true, true_and, w64, dT, dF, bT, bF, nT, nF, if_pos, if_neg, Int.tmod_eq_emod_of_nonneg, Int.tdiv_eq_ediv_of_nonneg, Int.toNat_natCast, Nat.mul_one, Nat.one_mul, Nat.zero_add, Nat.add_zero, Nat.zero_mul]
      exact ret_drop0 rfl rfl rfl rfl)
  · rw [if_neg hle]
    rcases hq with rfl | rfl | rfl | rfl <;> (
      simp (maxSteps := 1000000) (disch := omega) only [B128, L128_0, ax5, ax6, e100, hr, hqq, c173, c136, hc, hs, rotF, List.getElem?_toArray, List.getElem?_cons_zero, List.getElem?_cons_succ, ax1, ax2, ax3, ax4, reduceIte, Nat.reduceAdd, Nat.reduceMul, Nat.reduceEqDiff, Nat.reduceLeDiff, reduceCtorEq, Int.reduceAdd, Int.reduceSub, Int.reduceMul, Int.reduceNeg, Int.reduceEq, Int.reduceTMod, Int.reduceTDiv, Int.reduceLT, Int.reduceLE, Int.reduceToNat, Int.reduceBEq, Int.reduceBNe, decide_true, decide_false, and_self, and_true, true_and, w64, dT, dF, bT, bF, nT, nF, if_pos, if_neg, Int.tmod_eq_emod_of_nonneg, Int.tdiv_eq_ediv_of_nonneg, Int.toNat_natCast, Nat.mul_one, Nat.one_mul, Nat.zero_add, Nat.add_zero, Nat.zero_mul]
      exact ret_drop0 rfl rfl rfl rfl)
end
end Go.AM.Cd
/- The roots: the document's pairs; cosines. No condition. -/
set_option maxRecDepth 20000
set_option maxHeartbeats 2000000
set_option linter.unusedSimpArgs false
namespace Go.AM.Cd
section
variable {gl base : Nat} {H : Heap}
theorem pF0 {f : Nat} (h : feq f 0 = false) : plusF f = f := by unfold plusF; simp [h]
theorem pF1 {f : Nat} (h : feq f 0 = true) : plusF f = 0 := by unfold plusF; simp [h]
theorem c130 {n k : Int} (h1 : 1 ≤ n) (h2 : n ≤ 4194304) : Cf Tb gl base 130 [.int .i64 n, .int .i64 k] H = some (.tuple #[.float .f64 (pairF n k).1, .float .f64 (pairF n k).2], H) := by
  refine Cf_of T130 (by simp) ?_
  unfold pairF
  have hj1 : 0 ≤ k % n := Int.emod_nonneg _ (by omega)
  have hj2 : k % n < n := Int.emod_lt_of_pos _ (by omega)
  have e125 : Cf Tb gl H.length 125 [.int .i64 k, .int .i64 n] H = some (.int .i64 (k % n), H) := c125 h1 (by omega)
  generalize k % n = j at hj1 hj2 e125
  have hr1 : 0 ≤ 4 * j % n := Int.emod_nonneg _ (by omega)
  have hr2 : 4 * j % n < n := Int.emod_lt_of_pos _ (by omega)
  have hq := q_cases h1 hj1 hj2
  generalize hr : 4 * j % n = r at hr1 hr2
  generalize hqq : 4 * j / n = q at hq
  by_cases hle : 2 * r ≤ n
  · rw [if_pos hle]
    rcases hq with rfl | rfl | rfl | rfl
    · simp (maxSteps := 1000000) (disch := omega) only [B130, ax6, e125, hr, hqq, c174, rotF, List.getElem?_toArray, List.getElem?_cons_zero, List.getElem?_cons_succ, List.replicate_zero, List.append_nil, ax1, ax2, ax3, ax4, reduceIte, Nat.reduceAdd, Nat.reduceMul, Nat.reduceEqDiff, Nat.reduceLeDiff, reduceCtorEq, Int.reduceAdd, Int.reduceSub, Int.reduceMul, Int.reduceNeg, Int.reduceEq, Int.reduceTMod, Int.reduceTDiv, Int.reduceLT, Int.reduceLE, Int.reduceToNat, Int.reduceBEq, Int.reduceBNe, decide_true, decide_false, and_self, and_true, true_and, w64, dT, dF, bT, bF, nT, nF, if_pos, if_neg, Int.tmod_eq_emod_of_nonneg, Int.tdiv_eq_ediv_of_nonneg, Int.toNat_natCast, Nat.mul_one, Nat.one_mul, Nat.zero_add, Nat.add_zero, Nat.zero_mul]
      cases h1 : feq (eigF r (4 * n)).1 0
      · simp (maxSteps := 1000000) (disch := omega) only [ax6, ax1, ax2, ax3, ax4, reduceIte, Nat.reduceAdd, Nat.reduceMul, Nat.reduceEqDiff, Nat.reduceLeDiff, reduceCtorEq, Int.reduceAdd, Int.reduceSub, Int.reduceMul, Int.reduceNeg, Int.reduceEq, Int.reduceTMod, Int.reduceTDiv, Int.reduceLT, Int.reduceLE, Int.reduceToNat, Int.reduceBEq, Int.reduceBNe, decide_true, decide_false, and_self, and_true, true_and, w64, dT, dF, bT, bF, nT, nF, if_pos, if_neg, Int.tmod_eq_emod_of_nonneg, Int.tdiv_eq_ediv_of_nonneg, Int.toNat_natCast, Nat.mul_one, Nat.one_mul, Nat.zero_add, Nat.add_zero, Nat.zero_mul]
        cases h2 : feq (eigF r (4 * n)).2 0
        · simp (maxSteps := 1000000) (disch := omega) only [ax6, pF0 h1, pF0 h2, ax1, ax2, ax3, ax4, reduceIte, Nat.reduceAdd, Nat.reduceMul, Nat.reduceEqDiff, Nat.reduceLeDiff, reduceCtorEq, Int.reduceAdd, Int.reduceSub, Int.reduceMul, Int.reduceNeg, Int.reduceEq, Int.reduceTMod, Int.reduceTDiv, Int.reduceLT, Int.reduceLE, Int.reduceToNat, Int.reduceBEq, Int.reduceBNe, decide_true, decide_false, and_self, and_true, true_and, w64, dT, dF, bT, bF, nT, nF, if_pos, if_neg, Int.tmod_eq_emod_of_nonneg, Int.tdiv_eq_ediv_of_nonneg, Int.toNat_natCast, Nat.mul_one, Nat.one_mul, Nat.zero_add, Nat.add_zero, Nat.zero_mul]
          exact ret_drop0 rfl rfl rfl rfl
        · simp (maxSteps := 1000000) (disch := omega) only [ax6, pF0 h1, pF1 h2, ax1, ax2, ax3, ax4, reduceIte, Nat.reduceAdd, Nat.reduceMul, Nat.reduceEqDiff, Nat.reduceLeDiff, reduceCtorEq, Int.reduceAdd, Int.reduceSub, Int.reduceMul, Int.reduceNeg, Int.reduceEq, Int.reduceTMod, Int.reduceTDiv, Int.reduceLT, Int.reduceLE, Int.reduceToNat, Int.reduceBEq, Int.reduceBNe, decide_true, decide_false, and_self, and_true, true_and, w64, dT, dF, bT, bF, nT, nF, if_pos, if_neg, Int.tmod_eq_emod_of_nonneg, Int.tdiv_eq_ediv_of_nonneg, Int.toNat_natCast, Nat.mul_one, Nat.one_mul, Nat.zero_add, Nat.add_zero, Nat.zero_mul]
          exact ret_drop0 rfl rfl rfl rfl
      · simp (maxSteps := 1000000) (disch := omega) only [ax6, ax1, ax2, ax3, ax4, reduceIte, Nat.reduceAdd, Nat.reduceMul, Nat.reduceEqDiff, Nat.reduceLeDiff, reduceCtorEq, Int.reduceAdd, Int.reduceSub, Int.reduceMul, Int.reduceNeg, Int.reduceEq, Int.reduceTMod, Int.reduceTDiv, Int.reduceLT, Int.reduceLE, Int.reduceToNat, Int.reduceBEq, Int.reduceBNe, decide_true, decide_false, and_self, and_true, true_and, w64, dT, dF, bT, bF, nT, nF, if_pos, if_neg, Int.tmod_eq_emod_of_nonneg, Int.tdiv_eq_ediv_of_nonneg, Int.toNat_natCast, Nat.mul_one, Nat.one_mul, Nat.zero_add, Nat.add_zero, Nat.zero_mul]
        cases h2 : feq (eigF r (4 * n)).2 0
        · simp (maxSteps := 1000000) (disch := omega) only [ax6, pF1 h1, pF0 h2, ax1, ax2, ax3, ax4, reduceIte, Nat.reduceAdd, Nat.reduceMul, Nat.reduceEqDiff, Nat.reduceLeDiff, reduceCtorEq, Int.reduceAdd, Int.reduceSub, Int.reduceMul, Int.reduceNeg, Int.reduceEq, Int.reduceTMod, Int.reduceTDiv, Int.reduceLT, Int.reduceLE, Int.reduceToNat, Int.reduceBEq, Int.reduceBNe, decide_true, decide_false, and_self, and_true, true_and, w64, dT, dF, bT, bF, nT, nF, if_pos, if_neg, Int.tmod_eq_emod_of_nonneg, Int.tdiv_eq_ediv_of_nonneg, Int.toNat_natCast, Nat.mul_one, Nat.one_mul, Nat.zero_add, Nat.add_zero, Nat.zero_mul]
          exact ret_drop0 rfl rfl rfl rfl
        · simp (maxSteps := 1000000) (disch := omega) only [ax6, pF1 h1, pF1 h2, ax1, ax2, ax3, ax4, reduceIte, Nat.reduceAdd, Nat.reduceMul, Nat.reduceEqDiff, Nat.reduceLeDiff, reduceCtorEq, Int.reduceAdd, Int.reduceSub, Int.reduceMul, Int.reduceNeg, Int.reduceEq, Int.reduceTMod, Int.reduceTDiv, Int.reduceLT, Int.reduceLE, Int.reduceToNat, Int.reduceBEq, Int.reduceBNe, decide_true, decide_false, and_self, and_true, true_and, w64, dT, dF, bT, bF, nT, nF, if_pos, if_neg, Int.tmod_eq_emod_of_nonneg, Int.tdiv_eq_ediv_of_nonneg, Int.toNat_natCast, Nat.mul_one, Nat.one_mul, Nat.zero_add, Nat.add_zero, Nat.zero_mul]
          exact ret_drop0 rfl rfl rfl rfl
    · simp (maxSteps := 1000000) (disch := omega) only [B130, ax6, e125, hr, hqq, c174, rotF, List.getElem?_toArray, List.getElem?_cons_zero, List.getElem?_cons_succ, List.replicate_zero, List.append_nil, ax1, ax2, ax3, ax4, reduceIte, Nat.reduceAdd, Nat.reduceMul, Nat.reduceEqDiff, Nat.reduceLeDiff, reduceCtorEq, Int.reduceAdd, Int.reduceSub, Int.reduceMul, Int.reduceNeg, Int.reduceEq, Int.reduceTMod, Int.reduceTDiv, Int.reduceLT, Int.reduceLE, Int.reduceToNat, Int.reduceBEq, Int.reduceBNe, decide_true, decide_false, and_self, and_true, true_and, w64, dT, dF, bT, bF, nT, nF, if_pos, if_neg, Int.tmod_eq_emod_of_nonneg, Int.tdiv_eq_ediv_of_nonneg, Int.toNat_natCast, Nat.mul_one, Nat.one_mul, Nat.zero_add, Nat.add_zero, Nat.zero_mul]
      cases h1 : feq (fneg (eigF r (4 * n)).2) 0
      · simp (maxSteps := 1000000) (disch := omega) only [ax6, ax1, ax2, ax3, ax4, reduceIte, Nat.reduceAdd, Nat.reduceMul, Nat.reduceEqDiff, Nat.reduceLeDiff, reduceCtorEq, Int.reduceAdd, Int.reduceSub, Int.reduceMul, Int.reduceNeg, Int.reduceEq, Int.reduceTMod, Int.reduceTDiv, Int.reduceLT, Int.reduceLE, Int.reduceToNat, Int.reduceBEq, Int.reduceBNe, decide_true, decide_false, and_self, and_true, true_and, w64, dT, dF, bT, bF, nT, nF, if_pos, if_neg, Int.tmod_eq_emod_of_nonneg, Int.tdiv_eq_ediv_of_nonneg, Int.toNat_natCast, Nat.mul_one, Nat.one_mul, Nat.zero_add, Nat.add_zero, Nat.zero_mul]
        cases h2 : feq (eigF r (4 * n)).1 0
        · simp (maxSteps := 1000000) (disch := omega) only [ax6, pF0 h1, pF0 h2, ax1, ax2, ax3, ax4, reduceIte, Nat.reduceAdd, Nat.reduceMul, Nat.reduceEqDiff, Nat.reduceLeDiff, reduceCtorEq, Int.reduceAdd, Int.reduceSub, Int.reduceMul, Int.reduceNeg, Int.reduceEq, Int.reduceTMod, Int.reduceTDiv, Int.reduceLT, Int.reduceLE, Int.reduceToNat, Int.reduceBEq, Int.reduceBNe, decide_true, decide_false, and_self, and_true, true_and, w64, dT, dF, bT, bF, nT, nF, if_pos, if_neg, Int.tmod_eq_emod_of_nonneg, Int.tdiv_eq_ediv_of_nonneg, Int.toNat_natCast, Nat.mul_one, Nat.one_mul, Nat.zero_add, Nat.add_zero, Nat.zero_mul]
          exact ret_drop0 rfl rfl rfl rfl
        · simp (maxSteps := 1000000) (disch := omega) only [ax6, pF0 h1, pF1 h2, ax1, ax2, ax3, ax4, reduceIte, Nat.reduceAdd, Nat.reduceMul, Nat.reduceEqDiff, Nat.reduceLeDiff, reduceCtorEq, Int.reduceAdd, Int.reduceSub, Int.reduceMul, Int.reduceNeg, Int.reduceEq, Int.reduceTMod, Int.reduceTDiv, Int.reduceLT, Int.reduceLE, Int.reduceToNat, Int.reduceBEq, Int.reduceBNe, decide_true, decide_false, and_self, and_true, true_and, w64, dT, dF, bT, bF, nT, nF, if_pos, if_neg, Int.tmod_eq_emod_of_nonneg, Int.tdiv_eq_ediv_of_nonneg, Int.toNat_natCast, Nat.mul_one, Nat.one_mul, Nat.zero_add, Nat.add_zero, Nat.zero_mul]
          exact ret_drop0 rfl rfl rfl rfl
      · simp (maxSteps := 1000000) (disch := omega) only [ax6, ax1, ax2, ax3, ax4, reduceIte, Nat.reduceAdd, Nat.reduceMul, Nat.reduceEqDiff, Nat.reduceLeDiff, reduceCtorEq, Int.reduceAdd, Int.reduceSub, Int.reduceMul, Int.reduceNeg, Int.reduceEq, Int.reduceTMod, Int.reduceTDiv, Int.reduceLT, Int.reduceLE, Int.reduceToNat, Int.reduceBEq, Int.reduceBNe, decide_true, decide_false, and_self, and_true, true_and, w64, dT, dF, bT, bF, nT, nF, if_pos, if_neg, Int.tmod_eq_emod_of_nonneg, Int.tdiv_eq_ediv_of_nonneg, Int.toNat_natCast, Nat.mul_one, Nat.one_mul, Nat.zero_add, Nat.add_zero, Nat.zero_mul]
        cases h2 : feq (eigF r (4 * n)).1 0
        · simp (maxSteps := 1000000) (disch := omega) only [ax6, pF1 h1, pF0 h2, ax1, ax2, ax3, ax4, reduceIte, Nat.reduceAdd, Nat.reduceMul, Nat.reduceEqDiff, Nat.reduceLeDiff, reduceCtorEq, Int.reduceAdd, Int.reduceSub, Int.reduceMul, Int.reduceNeg, Int.reduceEq, Int.reduceTMod, Int.reduceTDiv, Int.reduceLT, Int.reduceLE, Int.reduceToNat, Int.reduceBEq, Int.reduceBNe, decide_true, decide_false, and_self, and_true, true_and, w64, dT, dF, bT, bF, nT, nF, if_pos, if_neg, Int.tmod_eq_emod_of_nonneg, Int.tdiv_eq_ediv_of_nonneg, Int.toNat_natCast, Nat.mul_one, Nat.one_mul, Nat.zero_add, Nat.add_zero, Nat.zero_mul]
          exact ret_drop0 rfl rfl rfl rfl
        · simp (maxSteps := 1000000) (disch := omega) only [ax6, pF1 h1, pF1 h2, ax1, ax2, ax3, ax4, reduceIte, Nat.reduceAdd, Nat.reduceMul, Nat.reduceEqDiff, Nat.reduceLeDiff, reduceCtorEq, Int.reduceAdd, Int.reduceSub, Int.reduceMul, Int.reduceNeg, Int.reduceEq, Int.reduceTMod, Int.reduceTDiv, Int.reduceLT, Int.reduceLE, Int.reduceToNat, Int.reduceBEq, Int.reduceBNe, decide_true, decide_false, and_self, and_true, true_and, w64, dT, dF, bT, bF, nT, nF, if_pos, if_neg, Int.tmod_eq_emod_of_nonneg, Int.tdiv_eq_ediv_of_nonneg, Int.toNat_natCast, Nat.mul_one, Nat.one_mul, Nat.zero_add, Nat.add_zero, Nat.zero_mul]
          exact ret_drop0 rfl rfl rfl rfl
    · simp (maxSteps := 1000000) (disch := omega) only [B130, ax6, e125, hr, hqq, c174, rotF, List.getElem?_toArray, List.getElem?_cons_zero, List.getElem?_cons_succ, List.replicate_zero, List.append_nil, ax1, ax2, ax3, ax4, reduceIte, Nat.reduceAdd, Nat.reduceMul, Nat.reduceEqDiff, Nat.reduceLeDiff, reduceCtorEq, Int.reduceAdd, Int.reduceSub, Int.reduceMul, Int.reduceNeg, Int.reduceEq, Int.reduceTMod, Int.reduceTDiv, Int.reduceLT, Int.reduceLE, Int.reduceToNat, Int.reduceBEq, Int.reduceBNe, decide_true, decide_false, and_self, and_true, true_and, w64, dT, dF, bT, bF, nT, nF, if_pos, if_neg, Int.tmod_eq_emod_of_nonneg, Int.tdiv_eq_ediv_of_nonneg, Int.toNat_natCast, Nat.mul_one, Nat.one_mul, Nat.zero_add, Nat.add_zero, Nat.zero_mul]
      cases h1 : feq (fneg (eigF r (4 * n)).1) 0
      · simp (maxSteps := 1000000) (disch := omega) only [ax6, ax1, ax2, ax3, ax4, reduceIte, Nat.reduceAdd, Nat.reduceMul, Nat.reduceEqDiff, Nat.reduceLeDiff, reduceCtorEq, Int.reduceAdd, Int.reduceSub, Int.reduceMul, Int.reduceNeg, Int.reduceEq, Int.reduceTMod, Int.reduceTDiv, Int.reduceLT, Int.reduceLE, Int.reduceToNat, Int.reduceBEq, Int.reduceBNe, decide_true, decide_false, and_self, and_true, true_and, w64, dT, dF, bT, bF, nT, nF, if_pos, if_neg, Int.tmod_eq_emod_of_nonneg, Int.tdiv_eq_ediv_of_nonneg, Int.toNat_natCast, Nat.mul_one, Nat.one_mul, Nat.zero_add, Nat.add_zero, Nat.zero_mul]
        cases h2 : feq (fneg (eigF r (4 * n)).2) 0
        · simp (maxSteps := 1000000) (disch := omega) only [ax6, pF0 h1, pF0 h2, ax1, ax2, ax3, ax4, reduceIte, Nat.reduceAdd, Nat.reduceMul, Nat.reduceEqDiff, Nat.reduceLeDiff, reduceCtorEq, Int.reduceAdd, Int.reduceSub, Int.reduceMul, Int.reduceNeg, Int.reduceEq, Int.reduceTMod, Int.reduceTDiv, Int.reduceLT, Int.reduceLE, Int.reduceToNat, Int.reduceBEq, Int.reduceBNe, decide_true, decide_false, and_self, and_true, true_and, w64, dT, dF, bT, bF, nT, nF, if_pos, if_neg, Int.tmod_eq_emod_of_nonneg, Int.tdiv_eq_ediv_of_nonneg, Int.toNat_natCast, Nat.mul_one, Nat.one_mul, Nat.zero_add, Nat.add_zero, Nat.zero_mul]
          exact ret_drop0 rfl rfl rfl rfl
        · simp (maxSteps := 1000000) (disch := omega) only [ax6, pF0 h1, pF1 h2, ax1, ax2, ax3, ax4, reduceIte, Nat.reduceAdd, Nat.reduceMul, Nat.reduceEqDiff, Nat.reduceLeDiff, reduceCtorEq, Int.reduceAdd, Int.reduceSub, Int.reduceMul, Int.reduceNeg, Int.reduceEq, Int.reduceTMod, Int.reduceTDiv, Int.reduceLT, Int.reduceLE, Int.reduceToNat, Int.reduceBEq, Int.reduceBNe, decide_true, decide_false, and_self, and_true, true_and, w64, dT, dF, bT, bF, nT, nF, if_pos, if_neg, Int.tmod_eq_emod_of_nonneg, Int.tdiv_eq_ediv_of_nonneg, Int.toNat_natCast, Nat.mul_one, Nat.one_mul, Nat.zero_add, Nat.add_zero, Nat.zero_mul]
          exact ret_drop0 rfl rfl rfl rfl
      · simp (maxSteps := 1000000) (disch := omega) only [ax6, ax1, ax2, ax3, ax4, reduceIte, Nat.reduceAdd, Nat.reduceMul, Nat.reduceEqDiff, Nat.reduceLeDiff, reduceCtorEq, Int.reduceAdd, Int.reduceSub, Int.reduceMul, Int.reduceNeg, Int.reduceEq, Int.reduceTMod, Int.reduceTDiv, Int.reduceLT, Int.reduceLE, Int.reduceToNat, Int.reduceBEq, Int.reduceBNe, decide_true, decide_false, and_self, and_true, true_and, w64, dT, dF, bT, bF, nT, nF, if_pos, if_neg, Int.tmod_eq_emod_of_nonneg, Int.tdiv_eq_ediv_of_nonneg, Int.toNat_natCast, Nat.mul_one, Nat.one_mul, Nat.zero_add, Nat.add_zero, Nat.zero_mul]
        cases h2 : feq (fneg (eigF r (4 * n)).2) 0
        · simp (maxSteps := 1000000) (disch := omega) only [ax6, pF1 h1, pF0 h2, ax1, ax2, ax3, ax4, reduceIte, Nat.reduceAdd, Nat.reduceMul, Nat.reduceEqDiff, Nat.reduceLeDiff, reduceCtorEq, Int.reduceAdd, Int.reduceSub, Int.reduceMul, Int.reduceNeg, Int.reduceEq, Int.reduceTMod, Int.reduceTDiv, Int.reduceLT, Int.reduceLE, Int.reduceToNat, Int.reduceBEq, Int.reduceBNe, decide_true, decide_false, and_self, and_true, true_and, w64, dT, dF, bT, bF, nT, nF, if_pos, if_neg, Int.tmod_eq_emod_of_nonneg, Int.tdiv_eq_ediv_of_nonneg, Int.toNat_natCast, Nat.mul_one, Nat.one_mul, Nat.zero_add, Nat.add_zero, Nat.zero_mul]
          exact ret_drop0 rfl rfl rfl rfl
        · simp (maxSteps := 1000000) (disch := omega) only [ax6, pF1 h1, pF1 h2, ax1, ax2, ax3, ax4, reduceIte, Nat.reduceAdd, Nat.reduceMul, Nat.reduceEqDiff, Nat.reduceLeDiff, reduceCtorEq, Int.reduceAdd, Int.reduceSub, Int.reduceMul, Int.reduceNeg, Int.reduceEq, Int.reduceTMod, Int.reduceTDiv, Int.reduceLT, Int.reduceLE, Int.reduceToNat, Int.reduceBEq, Int.reduceBNe, decide_true, decide_false, and_self, and_true, true_and, w64, dT, dF, bT, bF, nT, nF, if_pos, if_neg, Int.tmod_eq_emod_of_nonneg, Int.tdiv_eq_ediv_of_nonneg, Int.toNat_natCast, Nat.mul_one, Nat.one_mul, Nat.zero_add, Nat.add_zero, Nat.zero_mul]
          exact ret_drop0 rfl rfl rfl rfl
    · simp (maxSteps := 1000000) (disch := omega) only [B130, ax6, e125, hr, hqq, c174, rotF, List.getElem?_toArray, List.getElem?_cons_zero, List.getElem?_cons_succ, List.replicate_zero, List.append_nil, ax1, ax2, ax3, ax4, reduceIte, Nat.reduceAdd, Nat.reduceMul, Nat.reduceEqDiff, Nat.reduceLeDiff, reduceCtorEq, Int.reduceAdd, Int.reduceSub, Int.reduceMul, Int.reduceNeg, Int.reduceEq, Int.reduceTMod, Int.reduceTDiv, Int.reduceLT, Int.reduceLE, Int.reduceToNat, Int.reduceBEq, Int.reduceBNe, decide_true, decide_false, and_self, and_true, true_and, w64, dT, dF, bT, bF, nT, nF, if_pos, if_neg, Int.tmod_eq_emod_of_nonneg, Int.tdiv_eq_ediv_of_nonneg, Int.toNat_natCast, Nat.mul_one, Nat.one_mul, Nat.zero_add, Nat.add_zero, Nat.zero_mul]
      cases h1 : feq (eigF r (4 * n)).2 0
      · simp (maxSteps := 1000000) (disch := omega) only [ax6, ax1, ax2, ax3, ax4, reduceIte, Nat.reduceAdd, Nat.reduceMul, Nat.reduceEqDiff, Nat.reduceLeDiff, reduceCtorEq, Int.reduceAdd, Int.reduceSub, Int.reduceMul, Int.reduceNeg, Int.reduceEq, Int.reduceTMod, Int.reduceTDiv, Int.reduceLT, Int.reduceLE, Int.reduceToNat, Int.reduceBEq, Int.reduceBNe, decide_true, decide_false, and_self, and_true, true_and, w64, dT, dF, bT, bF, nT, nF, if_pos, if_neg, Int.tmod_eq_emod_of_nonneg, Int.tdiv_eq_ediv_of_nonneg, Int.toNat_natCast, Nat.mul_one, Nat.one_mul, Nat.zero_add, Nat.add_zero, Nat.zero_mul]
        cases h2 : feq (fneg (eigF r (4 * n)).1) 0
        · simp (maxSteps := 1000000) (disch := omega) only [ax6, pF0 h1, pF0 h2, ax1, ax2, ax3, ax4, reduceIte, Nat.reduceAdd, Nat.reduceMul, Nat.reduceEqDiff, Nat.reduceLeDiff, reduceCtorEq, Int.reduceAdd, Int.reduceSub, Int.reduceMul, Int.reduceNeg, Int.reduceEq, Int.reduceTMod, Int.reduceTDiv, Int.reduceLT, Int.reduceLE, Int.reduceToNat, Int.reduceBEq, Int.reduceBNe, decide_true, decide_false, and_self, and_true, true_and, w64, dT, dF, bT, bF, nT, nF, if_pos, if_neg, Int.tmod_eq_emod_of_nonneg, Int.tdiv_eq_ediv_of_nonneg, Int.toNat_natCast, Nat.mul_one, Nat.one_mul, Nat.zero_add, Nat.add_zero, Nat.zero_mul]
          exact ret_drop0 rfl rfl rfl rfl
        · simp (maxSteps := 1000000) (disch := omega) only [ax6, pF0 h1, pF1 h2, ax1, ax2, ax3, ax4, reduceIte, Nat.reduceAdd, Nat.reduceMul, Nat.reduceEqDiff, Nat.reduceLeDiff, reduceCtorEq, Int.reduceAdd, Int.reduceSub, Int.reduceMul, Int.reduceNeg, Int.reduceEq, Int.reduceTMod, Int.reduceTDiv, Int.reduceLT, Int.reduceLE, Int.reduceToNat, Int.reduceBEq, Int.reduceBNe, decide_true, decide_false, and_self, and_true, true_and, w64, dT, dF, bT, bF, nT, nF, if_pos, if_neg, Int.tmod_eq_emod_of_nonneg, Int.tdiv_eq_ediv_of_nonneg, Int.toNat_natCast, Nat.mul_one, Nat.one_mul, Nat.zero_add, Nat.add_zero, Nat.zero_mul]
          exact ret_drop0 rfl rfl rfl rfl
      · simp (maxSteps := 1000000) (disch := omega) only [ax6, ax1, ax2, ax3, ax4, reduceIte, Nat.reduceAdd, Nat.reduceMul, Nat.reduceEqDiff, Nat.reduceLeDiff, reduceCtorEq, Int.reduceAdd, Int.reduceSub, Int.reduceMul, Int.reduceNeg, Int.reduceEq, Int.reduceTMod, Int.reduceTDiv, Int.reduceLT, Int.reduceLE, Int.reduceToNat, Int.reduceBEq, Int.reduceBNe, decide_true, decide_false, and_self, and_true, true_and, w64, dT, dF, bT, bF, nT, nF, if_pos, if_neg, Int.tmod_eq_emod_of_nonneg, Int.tdiv_eq_ediv_of_nonneg, Int.toNat_natCast, Nat.mul_one, Nat.one_mul, Nat.zero_add, Nat.add_zero, Nat.zero_mul]
        cases h2 : feq (fneg (eigF r (4 * n)).1) 0
        · simp (maxSteps := 1000000) (disch := omega) only [ax6, pF1 h1, pF0 h2, ax1, ax2, ax3, ax4, reduceIte, Nat.reduceAdd, Nat.reduceMul, Nat.reduceEqDiff, Nat.reduceLeDiff, reduceCtorEq, Int.reduceAdd, Int.reduceSub, Int.reduceMul, Int.reduceNeg, Int.reduceEq, Int.reduceTMod, Int.reduceTDiv, Int.reduceLT, Int.reduceLE, Int.reduceToNat, Int.reduceBEq, Int.reduceBNe, decide_true, decide_false, and_self, and_true, true_and, w64, dT, dF, bT, bF, nT, nF, if_pos, if_neg, Int.tmod_eq_emod_of_nonneg, Int.tdiv_eq_ediv_of_nonneg, Int.toNat_natCast, Nat.mul_one, Nat.one_mul, Nat.zero_add, Nat.add_zero, Nat.zero_mul]
          exact ret_drop0 rfl rfl rfl rfl
        · simp (maxSteps := 1000000) (disch := omega) only [ax6, pF1 h1, pF1 h2, ax1, ax2, ax3, ax4, reduceIte, Nat.reduceAdd, Nat.reduceMul, Nat.reduceEqDiff, Nat.reduceLeDiff, reduceCtorEq, Int.reduceAdd, Int.reduceSub, Int.reduceMul, Int.reduceNeg, Int.reduceEq, Int.reduceTMod, Int.reduceTDiv, Int.reduceLT, Int.reduceLE, Int.reduceToNat, Int.reduceBEq, Int.reduceBNe, decide_true, decide_false, and_self, and_true, true_and, w64, dT, dF, bT, bF, nT, nF, if_pos, if_neg, Int.tmod_eq_emod_of_nonneg, Int.tdiv_eq_ediv_of_nonneg, Int.toNat_natCast, Nat.mul_one, Nat.one_mul, Nat.zero_add, Nat.add_zero, Nat.zero_mul]
          exact ret_drop0 rfl rfl rfl rfl
  · rw [if_neg hle]
    rcases hq with rfl | rfl | rfl | rfl
    · simp (maxSteps := 1000000) (disch := omega) only [B130, ax6, e125, hr, hqq, c174, rotF, List.getElem?_toArray, List.getElem?_cons_zero, List.getElem?_cons_succ, List.replicate_zero, List.append_nil, ax1, ax2, ax3, ax4, reduceIte, Nat.reduceAdd, Nat.reduceMul, Nat.reduceEqDiff, Nat.reduceLeDiff, reduceCtorEq, Int.reduceAdd, Int.reduceSub, Int.reduceMul, Int.reduceNeg, Int.reduceEq, Int.reduceTMod, Int.reduceTDiv, Int.reduceLT, Int.reduceLE, Int.reduceToNat, Int.reduceBEq, Int.reduceBNe, decide_true, decide_false, and_self, and_true, true_and, w64, dT, dF, bT, bF, nT, nF, if_pos, if_neg, Int.tmod_eq_emod_of_nonneg, Int.tdiv_eq_ediv_of_nonneg, Int.toNat_natCast, Nat.mul_one, Nat.one_mul, Nat.zero_add, Nat.add_zero, Nat.zero_mul]
      cases h1 : feq (eigF (n - r) (4 * n)).2 0
      · simp (maxSteps := 1000000) (disch := omega) only [ax6, ax1, ax2, ax3, ax4, reduceIte, Nat.reduceAdd, Nat.reduceMul, Nat.reduceEqDiff, Nat.reduceLeDiff, reduceCtorEq, Int.reduceAdd, Int.reduceSub, Int.reduceMul, Int.reduceNeg, Int.reduceEq, Int.reduceTMod, Int.reduceTDiv, Int.reduceLT, Int.reduceLE, Int.reduceToNat, Int.reduceBEq, Int.reduceBNe, decide_true, decide_false, and_self, and_true, true_and, w64, dT, dF, bT, bF, nT, nF, if_pos, if_neg, Int.tmod_eq_emod_of_nonneg, Int.tdiv_eq_ediv_of_nonneg, Int.toNat_natCast, Nat.mul_one, Nat.one_mul, Nat.zero_add, Nat.add_zero, Nat.zero_mul]
        cases h2 : feq (eigF (n - r) (4 * n)).1 0
        · simp (maxSteps := 1000000) (disch := omega) only [ax6, pF0 h1, pF0 h2, ax1, ax2, ax3, ax4, reduceIte, Nat.reduceAdd, Nat.reduceMul, Nat.reduceEqDiff, Nat.reduceLeDiff, reduceCtorEq, Int.reduceAdd, Int.reduceSub, Int.reduceMul, Int.reduceNeg, Int.reduceEq, Int.reduceTMod, Int.reduceTDiv, Int.reduceLT, Int.reduceLE, Int.reduceToNat, Int.reduceBEq, Int.reduceBNe, decide_true, decide_false, and_self, and_true, true_and, w64, dT, dF, bT, bF, nT, nF, if_pos, if_neg, Int.tmod_eq_emod_of_nonneg, Int.tdiv_eq_ediv_of_nonneg, Int.toNat_natCast, Nat.mul_one, Nat.one_mul, Nat.zero_add, Nat.add_zero, Nat.zero_mul]
          exact ret_drop0 rfl rfl rfl rfl
        · simp (maxSteps := 1000000) (disch := omega) only [ax6, pF0 h1, pF1 h2, ax1, ax2, ax3, ax4, reduceIte, Nat.reduceAdd, Nat.reduceMul, Nat.reduceEqDiff, Nat.reduceLeDiff, reduceCtorEq, Int.reduceAdd, Int.reduceSub, Int.reduceMul, Int.reduceNeg, Int.reduceEq, Int.reduceTMod, Int.reduceTDiv, Int.reduceLT, Int.reduceLE, Int.reduceToNat, Int.reduceBEq, Int.reduceBNe, decide_true, decide_false, and_self, and_true, true_and, w64, dT, dF, bT, bF, nT, nF, if_pos, if_neg, Int.tmod_eq_emod_of_nonneg, Int.tdiv_eq_ediv_of_nonneg, Int.toNat_natCast, Nat.mul_one, Nat.one_mul, Nat.zero_add, Nat.add_zero, Nat.zero_mul]
          exact ret_drop0 rfl rfl rfl rfl
      · simp (maxSteps := 1000000) (disch := omega) only [ax6, ax1, ax2, ax3, ax4, reduceIte, Nat.reduceAdd, Nat.reduceMul, Nat.reduceEqDiff, Nat.reduceLeDiff, reduceCtorEq, Int.reduceAdd, Int.reduceSub, Int.reduceMul, Int.reduceNeg, Int.reduceEq, Int.reduceTMod, Int.reduceTDiv, Int.reduceLT, Int.reduceLE, Int.reduceToNat, Int.reduceBEq, Int.reduceBNe, decide_true, decide_false, and_self, and_true, true_and, w64, dT, dF, bT, bF, nT, nF, if_pos, if_neg, Int.tmod_eq_emod_of_nonneg, Int.tdiv_eq_ediv_of_nonneg, Int.toNat_natCast, Nat.mul_one, Nat.one_mul, Nat.zero_add, Nat.add_zero, Nat.zero_mul]
        cases h2 : feq (eigF (n - r) (4 * n)).1 0
        · simp (maxSteps := 1000000) (disch := omega) only [ax6, pF1 h1, pF0 h2, ax1, ax2, ax3, ax4, reduceIte, Nat.reduceAdd, Nat.reduceMul, Nat.reduceEqDiff, Nat.reduceLeDiff, reduceCtorEq, Int.reduceAdd, Int.reduceSub, Int.reduceMul, Int.reduceNeg, Int.reduceEq, Int.reduceTMod, Int.reduceTDiv, Int.reduceLT, Int.reduceLE, Int.reduceToNat, Int.reduceBEq, Int.reduceBNe, decide_true, decide_false, and_self, and_true, true_and, w64, dT, dF, bT, bF, nT, nF, if_pos, if_neg, Int.tmod_eq_emod_of_nonneg, Int.tdiv_eq_ediv_of_nonneg, Int.toNat_natCast, Nat.mul_one, Nat.one_mul, Nat.zero_add, Nat.add_zero, Nat.zero_mul]
          exact ret_drop0 rfl rfl rfl rfl
        · simp (maxSteps := 1000000) (disch := omega) only [ax6, pF1 h1, pF1 h2, ax1, ax2, ax3, ax4, reduceIte, Nat.reduceAdd, Nat.reduceMul, Nat.reduceEqDiff, Nat.reduceLeDiff, reduceCtorEq, Int.reduceAdd, Int.reduceSub, Int.reduceMul, Int.reduceNeg, Int.reduceEq, Int.reduceTMod, Int.reduceTDiv, Int.reduceLT, Int.reduceLE, Int.reduceToNat, Int.reduceBEq, Int.reduceBNe, decide_true, decide_false, and_self, and_true, true_and, w64, dT, dF, bT, bF, nT, nF, if_pos, if_neg, Int.tmod_eq_emod_of_nonneg, Int.tdiv_eq_ediv_of_nonneg, Int.toNat_natCast, Nat.mul_one, Nat.one_mul, Nat.zero_add, Nat.add_zero, Nat.zero_mul]
          exact ret_drop0 rfl rfl rfl rfl
    · simp (maxSteps := 1000000) (disch := omega) only [B130, ax6, e125, hr, hqq, c174, rotF, List.getElem?_toArray, List.getElem?_cons_zero, List.getElem?_cons_succ, List.replicate_zero, List.append_nil, ax1, ax2, ax3, ax4, reduceIte, Nat.reduceAdd, Nat.reduceMul, Nat.reduceEqDiff, Nat.reduceLeDiff, reduceCtorEq, Int.reduceAdd, Int.reduceSub, Int.reduceMul, Int.reduceNeg, Int.reduceEq, Int.reduceTMod, Int.reduceTDiv, Int.reduceLT, Int.reduceLE, Int.reduceToNat, Int.reduceBEq, Int.reduceBNe, decide_true, decide_false, and_self, and_true, true_and, w64, dT, dF, bT, bF, nT, nF, if_pos, if_neg, Int.tmod_eq_emod_of_nonneg, Int.tdiv_eq_ediv_of_nonneg, Int.toNat_natCast, Nat.mul_one, Nat.one_mul, Nat.zero_add, Nat.add_zero, Nat.zero_mul]
      cases h1 : feq (fneg (eigF (n - r) (4 * n)).1) 0
      · simp (maxSteps := 1000000) (disch := omega) only [ax6, ax1, ax2, ax3, ax4, reduceIte, Nat.reduceAdd, Nat.reduceMul, Nat.reduceEqDiff, Nat.reduceLeDiff, reduceCtorEq, Int.reduceAdd, Int.reduceSub, Int.reduceMul, Int.reduceNeg, Int.reduceEq, Int.reduceTMod, Int.reduceTDiv, Int.reduceLT, Int.reduceLE, Int.reduceToNat, Int.reduceBEq, Int.reduceBNe, decide_true, decide_false, and_self, and_true, true_and, w64, dT, dF, bT, bF, nT, nF, if_pos, if_neg, Int.tmod_eq_emod_of_nonneg, Int.tdiv_eq_ediv_of_nonneg, Int.toNat_natCast, Nat.mul_one, Nat.one_mul, Nat.zero_add, Nat.add_zero, Nat.zero_mul]
        cases h2 : feq (eigF (n - r) (4 * n)).2 0
        · simp (maxSteps := 1000000) (disch := omega) only [ax6, pF0 h1, pF0 h2, ax1, ax2, ax3, ax4, reduceIte, Nat.reduceAdd, Nat.reduceMul, Nat.reduceEqDiff, Nat.reduceLeDiff, reduceCtorEq, Int.reduceAdd, Int.reduceSub, Int.reduceMul, Int.reduceNeg, Int.reduceEq, Int.reduceTMod, Int.reduceTDiv, Int.reduceLT, Int.reduceLE, Int.reduceToNat, Int.reduceBEq, Int.reduceBNe, decide_true, decide_false, and_self, and_true, true_and, w64, dT, dF, bT, bF, nT, nF, if_pos, if_neg, Int.tmod_eq_emod_of_nonneg, Int.tdiv_eq_ediv_of_nonneg, Int.toNat_natCast, Nat.mul_one, Nat.one_mul, Nat.zero_add, Nat.add_zero, Nat.zero_mul]
          exact ret_drop0 rfl rfl rfl rfl
        · simp (maxSteps := 1000000) (disch := omega) only [ax6, pF0 h1, pF1 h2, ax1, ax2, ax3, ax4, reduceIte, Nat.reduceAdd, Nat.reduceMul, Nat.reduceEqDiff, Nat.reduceLeDiff, reduceCtorEq, Int.reduceAdd, Int.reduceSub, Int.reduceMul, Int.reduceNeg, Int.reduceEq, Int.reduceTMod, Int.reduceTDiv, Int.reduceLT, Int.reduceLE, Int.reduceToNat, Int.reduceBEq, Int.reduceBNe, decide_true, decide_false, and_self, and_true, true_and, w64, dT, dF, bT, bF, nT, nF, if_pos, if_neg, Int.tmod_eq_emod_of_nonneg, Int.tdiv_eq_ediv_of_nonneg, Int.toNat_natCast, Nat.mul_one, Nat.one_mul, Nat.zero_add, Nat.add_zero, Nat.zero_mul]
          exact ret_drop0 rfl rfl rfl rfl
      · simp (maxSteps := 1000000) (disch := omega) only [ax6, ax1, ax2, ax3, ax4, reduceIte, Nat.reduceAdd, Nat.reduceMul, Nat.reduceEqDiff, Nat.reduceLeDiff, reduceCtorEq, Int.reduceAdd, Int.reduceSub, Int.reduceMul, Int.reduceNeg, Int.reduceEq, Int.reduceTMod, Int.reduceTDiv, Int.reduceLT, Int.reduceLE, Int.reduceToNat, Int.reduceBEq, Int.reduceBNe, decide_true, decide_false, and_self, and_true, true_and, w64, dT, dF, bT, bF, nT, nF, if_pos, if_neg, Int.tmod_eq_emod_of_nonneg, Int.tdiv_eq_ediv_of_nonneg, Int.toNat_natCast, Nat.mul_one, Nat.one_mul, Nat.zero_add, Nat.add_zero, Nat.zero_mul]
        cases h2 : feq (eigF (n - r) (4 * n)).2 0
        · simp (maxSteps := 1000000) (disch := omega) only [ax6, pF1 h1, pF0 h2, ax1, ax2, ax3, ax4, reduceIte, Nat.reduceAdd, Nat.reduceMul, Nat.reduceEqDiff, Nat.reduceLeDiff, reduceCtorEq, Int.reduceAdd, Int.reduceSub, Int.reduceMul, Int.reduceNeg, Int.reduceEq, Int.reduceTMod, Int.reduceTDiv, Int.reduceLT, Int.reduceLE, Int.reduceToNat, Int.reduceBEq, Int.reduceBNe, decide_true, decide_false, and_self, and_true, true_and, w64, dT, dF, bT, bF, nT, nF, if_pos, if_neg, Int.tmod_eq_emod_of_nonneg, Int.tdiv_eq_ediv_of_nonneg, Int.toNat_natCast, Nat.mul_one, Nat.one_mul, Nat.zero_add, Nat.add_zero, Nat.zero_mul]
          exact ret_drop0 rfl rfl rfl rfl
        · simp (maxSteps := 1000000) (disch := omega) only [ax6, pF1 h1, pF1 h2, ax1, ax2, ax3, ax4, reduceIte, Nat.reduceAdd, Nat.reduceMul, Nat.reduceEqDiff, Nat.reduceLeDiff, reduceCtorEq, Int.reduceAdd, Int.reduceSub, Int.reduceMul, Int.reduceNeg, Int.reduceEq, Int.reduceTMod, Int.reduceTDiv, Int.reduceLT, Int.reduceLE, Int.reduceToNat, Int.reduceBEq, Int.reduceBNe, decide_true, decide_false, and_self, and_true, true_and, w64, dT, dF, bT, bF, nT, nF, if_pos, if_neg, Int.tmod_eq_emod_of_nonneg, Int.tdiv_eq_ediv_of_nonneg, Int.toNat_natCast, Nat.mul_one, Nat.one_mul, Nat.zero_add, Nat.add_zero, Nat.zero_mul]
          exact ret_drop0 rfl rfl rfl rfl
    · simp (maxSteps := 1000000) (disch := omega) only [B130, ax6, e125, hr, hqq, c174, rotF, List.getElem?_toArray, List.getElem?_cons_zero, List.getElem?_cons_succ, List.replicate_zero, List.append_nil, ax1, ax2, ax3, ax4, reduceIte, Nat.reduceAdd, Nat.reduceMul, Nat.reduceEqDiff, Nat.reduceLeDiff, reduceCtorEq, Int.reduceAdd, Int.reduceSub, Int.reduceMul, Int.reduceNeg, Int.reduceEq, Int.reduceTMod, Int.reduceTDiv, Int.reduceLT, Int.reduceLE, Int.reduceToNat, Int.reduceBEq, Int.reduceBNe, decide_true, decide_false, and_self, and_true, true_and, w64, dT, dF, bT, bF, nT, nF, if_pos, if_neg, Int.tmod_eq_emod_of_nonneg, Int.tdiv_eq_ediv_of_nonneg, Int.toNat_natCast, Nat.mul_one, Nat.one_mul, Nat.zero_add, Nat.add_zero, Nat.zero_mul]
      cases h1 : feq (fneg (eigF (n - r) (4 * n)).2) 0
      · simp (maxSteps := 1000000) (disch := omega) only [ax6, ax1, ax2, ax3, ax4, reduceIte, Nat.reduceAdd, Nat.reduceMul, Nat.reduceEqDiff, Nat.reduceLeDiff, reduceCtorEq, Int.reduceAdd, Int.reduceSub, Int.reduceMul, Int.reduceNeg, Int.reduceEq, Int.reduceTMod, Int.reduceTDiv, Int.reduceLT, Int.reduceLE, Int.reduceToNat, Int.reduceBEq, Int.reduceBNe, decide_true, decide_false, and_self, and_true, true_and, w64, dT, dF, bT, bF, nT, nF, if_pos, if_neg, Int.tmod_eq_emod_of_nonneg, Int.tdiv_eq_ediv_of_nonneg, Int.toNat_natCast, Nat.mul_one, Nat.one_mul, Nat.zero_add, Nat.add_zero, Nat.zero_mul]
        cases h2 : feq (fneg (eigF (n - r) (4 * n)).1) 0
        · simp (maxSteps := 1000000) (disch := omega) only [ax6, pF0 h1, pF0 h2, ax1, ax2, ax3, ax4, reduceIte, Nat.reduceAdd, Nat.reduceMul, Nat.reduceEqDiff, Nat.reduceLeDiff, reduceCtorEq, Int.reduceAdd, Int.reduceSub, Int.reduceMul, Int.reduceNeg, Int.reduceEq, Int.reduceTMod, Int.reduceTDiv, Int.reduceLT, Int.reduceLE, Int.reduceToNat, Int.reduceBEq, Int.reduceBNe, decide_true, decide_false, and_self, and_true, true_and, w64, dT, dF, bT, bF, nT, nF, if_pos, if_neg, Int.tmod_eq_emod_of_nonneg, Int.tdiv_eq_ediv_of_nonneg, Int.toNat_natCast, Nat.mul_one, Nat.one_mul, Nat.zero_add, Nat.add_zero, Nat.zero_mul]
          exact ret_drop0 rfl rfl rfl rfl
        · simp (maxSteps := 1000000) (disch := omega) only [ax6, pF0 h1, pF1 h2, ax1, ax2, ax3, ax4, reduceIte, Nat.reduceAdd, Nat.reduceMul, Nat.reduceEqDiff, Nat.reduceLeDiff, reduceCtorEq, Int.reduceAdd, Int.reduceSub, Int.reduceMul, Int.reduceNeg, Int.reduceEq, Int.reduceTMod, Int.reduceTDiv, Int.reduceLT, Int.reduceLE, Int.reduceToNat, Int.reduceBEq, Int.reduceBNe, decide_true, decide_false, and_self, and_true, true_and, w64, dT, dF, bT, bF, nT, nF, if_pos, if_neg, Int.tmod_eq_emod_of_nonneg, Int.tdiv_eq_ediv_of_nonneg, Int.toNat_natCast, Nat.mul_one, Nat.one_mul, Nat.zero_add, Nat.add_zero, Nat.zero_mul]
          exact ret_drop0 rfl rfl rfl rfl
      · simp (maxSteps := 1000000) (disch := omega) only [ax6, ax1, ax2, ax3, ax4, reduceIte, Nat.reduceAdd, Nat.reduceMul, Nat.reduceEqDiff, Nat.reduceLeDiff, reduceCtorEq, Int.reduceAdd, Int.reduceSub, Int.reduceMul, Int.reduceNeg, Int.reduceEq, Int.reduceTMod, Int.reduceTDiv, Int.reduceLT, Int.reduceLE, Int.reduceToNat, Int.reduceBEq, Int.reduceBNe, decide_true, decide_false, and_self, and_true, true_and, w64, dT, dF, bT, bF, nT, nF, if_pos, if_neg, Int.tmod_eq_emod_of_nonneg, Int.tdiv_eq_ediv_of_nonneg, Int.toNat_natCast, Nat.mul_one, Nat.one_mul, Nat.zero_add, Nat.add_zero, Nat.zero_mul]
        cases h2 : feq (fneg (eigF (n - r) (4 * n)).1) 0
        · simp (maxSteps := 1000000) (disch := omega) only [ax6, pF1 h1, pF0 h2, ax1, ax2, ax3, ax4, reduceIte, Nat.reduceAdd, Nat.reduceMul, Nat.reduceEqDiff, Nat.reduceLeDiff, reduceCtorEq, Int.reduceAdd, Int.reduceSub, Int.reduceMul, Int.reduceNeg, Int.reduceEq, Int.reduceTMod, Int.reduceTDiv, Int.reduceLT, Int.reduceLE, Int.reduceToNat, Int.reduceBEq, Int.reduceBNe, decide_true, decide_false, and_self, and_true, true_and, w64, dT, dF, bT, bF, nT, nF, if_pos, if_neg, Int.tmod_eq_emod_of_nonneg, Int.tdiv_eq_ediv_of_nonneg, Int.toNat_natCast, Nat.mul_one, Nat.one_mul, Nat.zero_add, Nat.add_zero, Nat.zero_mul]
          exact ret_drop0 rfl rfl rfl rfl
        · simp (maxSteps := 1000000) (disch := omega) only [ax6, pF1 h1, pF1 h2, ax1, ax2, ax3, ax4, reduceIte, Nat.reduceAdd, Nat.reduceMul, Nat.reduceEqDiff, Nat.reduceLeDiff, reduceCtorEq, Int.reduceAdd, Int.reduceSub, Int.reduceMul, Int.reduceNeg, Int.reduceEq, Int.reduceTMod, Int.reduceTDiv, Int.reduceLT, Int.reduceLE, Int.reduceToNat, Int.reduceBEq, Int.reduceBNe, decide_true, decide_false, and_self, and_true, true_and, w64, dT, dF, bT, bF, nT, nF, if_pos, if_neg, Int.tmod_eq_emod_of_nonneg, Int.tdiv_eq_ediv_of_nonneg, Int.toNat_natCast, Nat.mul_one, Nat.one_mul, Nat.zero_add, Nat.add_zero, Nat.zero_mul]
          exact ret_drop0 rfl rfl rfl rfl
    · simp (maxSteps := 1000000) (disch := omega) only [B130, ax6, e125, hr, hqq, c174, rotF, List.getElem?_toArray, List.getElem?_cons_zero, List.getElem?_cons_succ, List.replicate_zero, List.append_nil, ax1, ax2, ax3, ax4, reduceIte, Nat.reduceAdd, Nat.reduceMul, Nat.reduceEqDiff, Nat.reduceLeDiff, reduceCtorEq, Int.reduceAdd, Int.reduceSub, Int.reduceMul, Int.reduceNeg, Int.reduceEq, Int.reduceTMod, Int.reduceTDiv, Int.reduceLT, Int.reduceLE, Int.reduceToNat, Int.reduceBEq, Int.reduceBNe, decide_true, decide_false, and_self, and_true, true_and, w64, dT, dF, bT, bF, nT, nF, if_pos, if_neg, Int.tmod_eq_emod_of_nonneg, Int.tdiv_eq_ediv_of_nonneg, Int.toNat_natCast, Nat.mul_one, Nat.one_mul, Nat.zero_add, Nat.add_zero, Nat.zero_mul]
      cases h1 : feq (eigF (n - r) (4 * n)).1 0
      · simp (maxSteps := 1000000) (disch := omega) only [ax6, ax1, ax2, ax3, ax4, reduceIte, Nat.reduceAdd, Nat.reduceMul, Nat.reduceEqDiff, Nat.reduceLeDiff, reduceCtorEq, Int.reduceAdd, Int.reduceSub, Int.reduceMul, Int.reduceNeg, Int.reduceEq, Int.reduceTMod, Int.reduceTDiv, Int.reduceLT, Int.reduceLE, Int.reduceToNat, Int.reduceBEq, Int.reduceBNe, decide_true, decide_false, and_self, and_true, true_and, w64, dT, dF, bT, bF, nT, nF, if_pos, if_neg, Int.tmod_eq_emod_of_nonneg, Int.tdiv_eq_ediv_of_nonneg, Int.toNat_natCast, Nat.mul_one, Nat.one_mul, Nat.zero_add, Nat.add_zero, Nat.zero_mul]
        cases h2 : feq (fneg (eigF (n - r) (4 * n)).2) 0
        · simp (maxSteps := 1000000) (disch := omega) only [ax6, pF0 h1, pF0 h2, ax1, ax2, ax3, ax4, reduceIte, Nat.reduceAdd, Nat.reduceMul, Nat.reduceEqDiff, Nat.reduceLeDiff, reduceCtorEq, Int.reduceAdd, Int.reduceSub, Int.reduceMul, Int.reduceNeg, Int.reduceEq, Int.reduceTMod, Int.reduceTDiv, Int.reduceLT, Int.reduceLE, Int.reduceToNat, Int.reduceBEq, Int.reduceBNe, decide_true, decide_false, and_self, and_true, true_and, w64, dT, dF, bT, bF, nT, nF, if_pos, if_neg, Int.tmod_eq_emod_of_nonneg, Int.tdiv_eq_ediv_of_nonneg, Int.toNat_natCast, Nat.mul_one, Nat.one_mul, Nat.zero_add, Nat.add_zero, Nat.zero_mul]
          exact ret_drop0 rfl rfl rfl rfl
        · simp (maxSteps := 1000000) (disch := omega) only [ax6, pF0 h1, pF1 h2, ax1, ax2, ax3, ax4, reduceIte, Nat.reduceAdd, Nat.reduceMul, Nat.reduceEqDiff, Nat.reduceLeDiff, reduceCtorEq, Int.reduceAdd, Int.reduceSub, Int.reduceMul, Int.reduceNeg, Int.reduceEq, Int.reduceTMod, Int.reduceTDiv, Int.reduceLT, Int.reduceLE, Int.reduceToNat, Int.reduceBEq, Int.reduceBNe, decide_true, decide_false, and_self, and_true, true_and, w64, dT, dF, bT, bF, nT, nF, if_pos, if_neg, Int.tmod_eq_emod_of_nonneg, Int.tdiv_eq_ediv_of_nonneg, Int.toNat_natCast, Nat.mul_one, Nat.one_mul, Nat.zero_add, Nat.add_zero, Nat.zero_mul]
          exact ret_drop0 rfl rfl rfl rfl
      · simp (maxSteps := 1000000) (disch := omega) only [ax6, ax1, ax2, ax3, ax4, reduceIte, Nat.reduceAdd, Nat.reduceMul, Nat.reduceEqDiff, Nat.reduceLeDiff, reduceCtorEq, Int.reduceAdd, Int.reduceSub, Int.reduceMul, Int.reduceNeg, Int.reduceEq, Int.reduceTMod, Int.reduceTDiv, Int.reduceLT, Int.reduceLE, Int.reduceToNat, Int.reduceBEq, Int.reduceBNe, decide_true, decide_false, and_self, and_true, true_and, w64, dT, dF, bT, bF, nT, nF, if_pos, if_neg, Int.tmod_eq_emod_of_nonneg, Int.tdiv_eq_ediv_of_nonneg, Int.toNat_natCast, Nat.mul_one, Nat.one_mul, Nat.zero_add, Nat.add_zero, Nat.zero_mul]
        cases h2 : feq (fneg (eigF (n - r) (4 * n)).2) 0
        · simp (maxSteps := 1000000) (disch := omega) only [ax6, pF1 h1, pF0 h2, ax1, ax2, ax3, ax4, reduceIte, Nat.reduceAdd, Nat.reduceMul, Nat.reduceEqDiff, Nat.reduceLeDiff, reduceCtorEq, Int.reduceAdd, Int.reduceSub, Int.reduceMul, Int.reduceNeg, Int.reduceEq, Int.reduceTMod, Int.reduceTDiv, Int.reduceLT, Int.reduceLE, Int.reduceToNat, Int.reduceBEq, Int.reduceBNe, decide_true, decide_false, and_self, and_true, true_and, w64, dT, dF, bT, bF, nT, nF, if_pos, if_neg, Int.tmod_eq_emod_of_nonneg, Int.tdiv_eq_ediv_of_nonneg, Int.toNat_natCast, Nat.mul_one, Nat.one_mul, Nat.zero_add, Nat.add_zero, Nat.zero_mul]
          exact ret_drop0 rfl rfl rfl rfl
        · simp (maxSteps := 1000000) (disch := omega) only [ax6, pF1 h1, pF1 h2, ax1, ax2, ax3, ax4, reduceIte, Nat.reduceAdd, Nat.reduceMul, Nat.reduceEqDiff, Nat.reduceLeDiff, reduceCtorEq, Int.reduceAdd, Int.reduceSub, Int.reduceMul, Int.reduceNeg, Int.reduceEq, Int.reduceTMod, Int.reduceTDiv, Int.reduceLT, Int.reduceLE, Int.reduceToNat, Int.reduceBEq, Int.reduceBNe, decide_true, decide_false, and_self, and_true, true_and, w64, dT, dF, bT, bF, nT, nF, if_pos, if_neg, Int.tmod_eq_emod_of_nonneg, Int.tdiv_eq_ediv_of_nonneg, Int.toNat_natCast, Nat.mul_one, Nat.one_mul, Nat.zero_add, Nat.add_zero, Nat.zero_mul]
          exact ret_drop0 rfl rfl rfl rfl

theorem c91 {n k : Int} (h1 : 1 ≤ n) (h2 : n ≤ 4194304) : Cf Tb gl base 91 [.int .i64 n, .int .i64 k] H = some (.tuple #[.float .f64 (pairF n k).1, .nilIface], H) := by
  refine Cf_of T91 (by simp) ?_
  simp (maxSteps := 1000000) (disch := omega) only [B91, c128 h1 h2, List.getElem?_toArray, List.getElem?_cons_zero, List.getElem?_cons_succ, ax1, ax2, ax3, ax4, reduceIte, Nat.reduceAdd, Nat.reduceMul, Nat.reduceEqDiff, Nat.reduceLeDiff, reduceCtorEq, Int.reduceAdd, Int.reduceSub, Int.reduceMul, Int.reduceNeg, Int.reduceEq, Int.reduceTMod, Int.reduceTDiv, Int.reduceLT, Int.reduceLE, Int.reduceToNat, Int.reduceBEq, Int.reduceBNe, decide_true, decide_false, and_self, and_true, true_and, w64, dT, dF, bT, bF, nT, nF, if_pos, if_neg, Int.tmod_eq_emod_of_nonneg, Int.tdiv_eq_ediv_of_nonneg, Int.toNat_natCast, Nat.mul_one, Nat.one_mul, Nat.zero_add, Nat.add_zero, Nat.zero_mul]
  exact ret_drop0 rfl rfl rfl rfl
theorem c94 {n k : Int} (h1 : 1 ≤ n) (h2 : n ≤ 4194304) : Cf Tb gl base 94 [.int .i64 n, .int .i64 k] H = some (.tuple #[.float .f64 (pairF n k).1, .int .i64 0], H) := by
  refine Cf_of T94 (by simp) ?_
  simp (maxSteps := 1000000) (disch := omega) only [B94, c129, c130 h1 h2, List.getElem?_toArray, List.getElem?_cons_zero, List.getElem?_cons_succ, ax1, ax2, ax3, ax4, reduceIte, Nat.reduceAdd, Nat.reduceMul, Nat.reduceEqDiff, Nat.reduceLeDiff, reduceCtorEq, Int.reduceAdd, Int.reduceSub, Int.reduceMul, Int.reduceNeg, Int.reduceEq, Int.reduceTMod, Int.reduceTDiv, Int.reduceLT, Int.reduceLE, Int.reduceToNat, Int.reduceBEq, Int.reduceBNe, decide_true, decide_false, and_self, and_true, true_and, w64, dT, dF, bT, bF, nT, nF, if_pos, if_neg, Int.tmod_eq_emod_of_nonneg, Int.tdiv_eq_ediv_of_nonneg, Int.toNat_natCast, Nat.mul_one, Nat.one_mul, Nat.zero_add, Nat.add_zero, Nat.zero_mul]
  exact ret_drop0 rfl rfl rfl rfl
end
end Go.AM.Cd
/- Lists of floats, alike; the errors' numbers. No condition. -/
set_option maxRecDepth 20000
set_option maxHeartbeats 2000000
set_option linter.unusedSimpArgs false
namespace Go.AM

/-- A slice that reads as this list. -/
def Rd (H : Heap) (v : Value) (l : List Value) : Prop :=
  ∃ a x, v = .slice a l.length x ∧ (l = [] ∨ ∃ id o g e vs, a = some ⟨id, o, some g⟩ ∧ H.at id g = some (e, vs) ∧ o + l.length ≤ vs.length ∧ ∀ i, i < l.length → vs[o + i]? = l[i]?)
theorem Rd.app {H : Heap} {v : Value} {l : List Value} (h : Rd H v l) (T : Heap) : Rd (H ++ T) v l := by
  obtain ⟨a, x, rfl, h⟩ := h
  refine ⟨a, x, rfl, h.imp id fun ⟨id, o, g, e, vs, h1, h2, h3⟩ => ⟨id, o, g, e, vs, h1, at_old h2 T, h3⟩⟩
def fl (xs : List Nat) : List Value := xs.map (.float .f64)
theorem fl_length (xs : List Nat) : (fl xs).length = xs.length := by simp [fl]
theorem fl_get (xs : List Nat) (i : Nat) : (fl xs)[i]? = (xs[i]?).map (.float .f64) := by simp [fl]

/-- The package-level errors lie where they were laid. -/
structure Glob (H : Heap) : Prop where
  errs : ∀ i, i < 19 → H.at i 0 = some (0, [.iface 329 (ptr (24 + i) 0 0)])
  live : ∀ i, i < 19 → (H.at (24 + i) 0).isSome = true
theorem Glob.app {H : Heap} (h : Glob H) (T : Heap) : Glob (H ++ T) := by
  refine ⟨fun i hi => at_old (h.errs i hi) T, fun i hi => ?_⟩
  obtain ⟨x, hx⟩ := Option.isSome_iff_exists.1 (h.live i hi)
  rw [at_old hx T]; rfl
theorem Glob.at_ {H : Heap} (h : Glob H) {i : Nat} (hi : i < 19) : H.at i 0 = some (0, [.iface 329 (.pointer (some ⟨24 + i, 0, some 0⟩))]) := h.errs i hi
theorem Glob.eqi {H : Heap} (h : Glob H) (n c : Bool) {p q : Nat} (h1 : 24 ≤ p) (h2 : p < 43) (h3 : 24 ≤ q) (h4 : q < 43) :
    eqiV 43 H 329 n c (some (.iface 329 (.pointer (some ⟨p, 0, some 0⟩)))) (some (.iface 329 (.pointer (some ⟨q, 0, some 0⟩)))) = some (.bool (if p = q then !n else n)) := by
  have l1 : H.lives ⟨p, 0, some 0⟩ = true := by have := h.live (p - 24) (by omega); rw [show 24 + (p - 24) = p by omega] at this; exact this
  have l2 : H.lives ⟨q, 0, some 0⟩ = true := by have := h.live (q - 24) (by omega); rw [show 24 + (q - 24) = q by omega] at this; exact this
  unfold eqiV eqIf
  simp only [and_self, if_true, eqp, h2, h4, l1, l2]
  by_cases hpq : p = q
  · subst hpq; cases n <;> simp
  · cases n <;> simp [hpq]
theorem Glob.eqi_nil (H : Heap) (n c : Bool) (t : Nat) (v : Value) : eqiV 43 H 329 n c (some .nilIface) (some (.iface t v)) = some (.bool n) := by
  cases n <;> rfl
end Go.AM

namespace Go.AM.Cd
section
variable {gl base : Nat} {H : Heap}
theorem c103 {f : Nat} : Cf Tb gl base 103 [.float .f64 f] H = some (.int .u64 f, H) := rfl
theorem c46 {a b : Nat} : Cf Tb gl base 46 [.float .f64 a, .float .f64 b] H = some (.bool ((a : Int) == (b : Int)), H) := by
  refine Cf_of T46 (by simp) ?_
  simp (maxSteps := 1000000) (disch := omega) only [B46, c103, ax1, ax2, ax3, ax4, reduceIte, Nat.reduceAdd, Nat.reduceMul, Nat.reduceEqDiff, Nat.reduceLeDiff, reduceCtorEq, Int.reduceAdd, Int.reduceSub, Int.reduceMul, Int.reduceNeg, Int.reduceEq, Int.reduceTMod, Int.reduceTDiv, Int.reduceLT, Int.reduceLE, Int.reduceToNat, Int.reduceBEq, Int.reduceBNe, decide_true, decide_false, and_self, and_true, true_and, w64, dT, dF, bT, bF, nT, nF, if_pos, if_neg, Int.tmod_eq_emod_of_nonneg, Int.tdiv_eq_ediv_of_nonneg, Int.toNat_natCast, Nat.mul_one, Nat.one_mul, Nat.zero_add, Nat.add_zero, Nat.zero_mul]
  exact ret_drop0 rfl rfl rfl rfl

theorem l95 {la lb : List Nat} {va vb : Value} (ha : Rd H va (fl la)) (hb : Rd H vb (fl lb)) (hl : la.length = lb.length) (hn : la.length ≤ 1000000000000000) : ∀ (d i : Nat), i + d = la.length →
    XW Tb gl H.length L95_0 (Env.ofList [(0, va), (1, vb), (13, .int .i64 la.length), (14, .int .i64 i)]) H
      (blockQ 0 (seqQ Tb gl H.length (.seq (.region [⟨some 4, .mv (.c (.bool true)), none⟩]) (.ret)) (retQ H base .drop R95 (some (.bool (decide (la.drop i = lb.drop i)), H))))) := by
  intro d
  induction d with
  | zero =>
    intro i hi
    have e1 : la.drop i = [] := List.drop_eq_nil_of_le (by omega)
    have e2 : lb.drop i = [] := List.drop_eq_nil_of_le (by omega)
    rw [e1, e2]
    unfold L95_0
    simp (maxSteps := 1000000) (disch := omega) only [ax5, ax6, ax1, ax2, ax3, ax4, reduceIte, Nat.reduceAdd, Nat.reduceMul, Nat.reduceEqDiff, Nat.reduceLeDiff, reduceCtorEq, Int.reduceAdd, Int.reduceSub, Int.reduceMul, Int.reduceNeg, Int.reduceEq, Int.reduceTMod, Int.reduceTDiv, Int.reduceLT, Int.reduceLE, Int.reduceToNat, Int.reduceBEq, Int.reduceBNe, decide_true, decide_false, and_self, and_true, true_and, w64, dT, dF, bT, bF, nT, nF, if_pos, if_neg, Int.tmod_eq_emod_of_nonneg, Int.tdiv_eq_ediv_of_nonneg, Int.toNat_natCast, Nat.mul_one, Nat.one_mul, Nat.zero_add, Nat.add_zero, Nat.zero_mul]
    exact ret_drop0 rfl rfl rfl rfl
  | succ d ih =>
    intro i hi
    obtain ⟨aa, xa, rfl, ha'⟩ := ha
    obtain ⟨ab, xb, rfl, hb'⟩ := hb
    have hia : i < la.length := by omega
    have hib : i < lb.length := by omega
    rcases ha' with h | ⟨ida, oa, ga, ea, vsa, rfl, a1, a2, a3⟩
    · have := congrArg List.length h; rw [fl_length] at this; simp only [List.length_nil] at this; omega
    rcases hb' with h | ⟨idb, ob, gb, eb, vsb, rfl, b1, b2, b3⟩
    · have := congrArg List.length h; rw [fl_length] at this; simp only [List.length_nil] at this; omega
    have a4 := a3 i (by rw [fl_length]; omega)
    have b4 := b3 i (by rw [fl_length]; omega)
    rw [fl_get, List.getElem?_eq_getElem hia] at a4
    rw [fl_get, List.getElem?_eq_getElem hib] at b4
    simp only [Option.map_some] at a4 b4
    have ih' := ih (i + 1) (by omega)
    rw [fl_length] at ih' ⊢
    rw [fl_length] at ih' ⊢
    rw [List.drop_eq_getElem_cons hia, List.drop_eq_getElem_cons hib]
    generalize la[i] = u at a4
    generalize lb[i] = v at b4
    unfold L95_0
    rw [XW_loop_eq]
    by_cases huv : u = v
    · subst huv
      simp (maxSteps := 1000000) (disch := omega) only [ax6, ax7, a1, b1, part, a4, b4, c46, List.replicate_zero, List.append_nil, ax1, ax2, ax3, ax4, reduceIte, Nat.reduceAdd, Nat.reduceMul, Nat.reduceEqDiff, Nat.reduceLeDiff, reduceCtorEq, Int.reduceAdd, Int.reduceSub, Int.reduceMul, Int.reduceNeg, Int.reduceEq, Int.reduceTMod, Int.reduceTDiv, Int.reduceLT, Int.reduceLE, Int.reduceToNat, Int.reduceBEq, Int.reduceBNe, decide_true, decide_false, and_self, and_true, true_and, w64, dT, dF, bT, bF, nT, nF, if_pos, if_neg, Int.tmod_eq_emod_of_nonneg, Int.tdiv_eq_ediv_of_nonneg, Int.toNat_natCast, Nat.mul_one, Nat.one_mul, Nat.zero_add, Nat.add_zero, Nat.zero_mul]
      rw [XW_mask]
      simp (maxSteps := 1000000) (disch := omega) only [ax6, ax1, ax2, ax3, ax4, reduceIte, Nat.reduceAdd, Nat.reduceMul, Nat.reduceEqDiff, Nat.reduceLeDiff, reduceCtorEq, Int.reduceAdd, Int.reduceSub, Int.reduceMul, Int.reduceNeg, Int.reduceEq, Int.reduceTMod, Int.reduceTDiv, Int.reduceLT, Int.reduceLE, Int.reduceToNat, Int.reduceBEq, Int.reduceBNe, decide_true, decide_false, and_self, and_true, true_and, w64, dT, dF, bT, bF, nT, nF, if_pos, if_neg, Int.tmod_eq_emod_of_nonneg, Int.tdiv_eq_ediv_of_nonneg, Int.toNat_natCast, Nat.mul_one, Nat.one_mul, Nat.zero_add, Nat.add_zero, Nat.zero_mul]
      have e : decide (u :: la.drop (i + 1) = u :: lb.drop (i + 1)) = decide (la.drop (i + 1) = lb.drop (i + 1)) := by simp
      rw [e]
      exact ih'
    · simp (maxSteps := 1000000) (disch := omega) only [ax6, ax7, a1, b1, part, a4, b4, c46, List.replicate_zero, List.append_nil, ax1, ax2, ax3, ax4, reduceIte, Nat.reduceAdd, Nat.reduceMul, Nat.reduceEqDiff, Nat.reduceLeDiff, reduceCtorEq, Int.reduceAdd, Int.reduceSub, Int.reduceMul, Int.reduceNeg, Int.reduceEq, Int.reduceTMod, Int.reduceTDiv, Int.reduceLT, Int.reduceLE, Int.reduceToNat, Int.reduceBEq, Int.reduceBNe, decide_true, decide_false, and_self, and_true, true_and, w64, dT, dF, bT, bF, nT, nF, if_pos, if_neg, Int.tmod_eq_emod_of_nonneg, Int.tdiv_eq_ediv_of_nonneg, Int.toNat_natCast, Nat.mul_one, Nat.one_mul, Nat.zero_add, Nat.add_zero, Nat.zero_mul]
      have e : decide (u :: la.drop (i + 1) = v :: lb.drop (i + 1)) = false := by simp [huv]
      rw [e]
      exact ret_drop0 rfl rfl rfl rfl
theorem c95 {la lb : List Nat} {va vb : Value} (ha : Rd H va (fl la)) (hb : Rd H vb (fl lb)) (hn : la.length ≤ 1000000000000000) (hn' : lb.length ≤ 1000000000000000) :
    Cf Tb gl base 95 [va, vb] H = some (.bool (decide (la = lb)), H) := by
  refine Cf_of T95 (by simp) ?_
  have ha' := ha
  have hb' := hb
  obtain ⟨aa, xa, rfl, _⟩ := ha'
  obtain ⟨ab, xb, rfl, _⟩ := hb'
  by_cases hl : la.length = lb.length
  · have h := l95 (gl := gl) (base := base) ha hb hl hn la.length 0 (by omega)
    simp only [fl_length] at h ⊢
    simp (maxSteps := 1000000) (disch := omega) only [B95, ax6, ax1, ax2, ax3, ax4, reduceIte, Nat.reduceAdd, Nat.reduceMul, Nat.reduceEqDiff, Nat.reduceLeDiff, reduceCtorEq, Int.reduceAdd, Int.reduceSub, Int.reduceMul, Int.reduceNeg, Int.reduceEq, Int.reduceTMod, Int.reduceTDiv, Int.reduceLT, Int.reduceLE, Int.reduceToNat, Int.reduceBEq, Int.reduceBNe, decide_true, decide_false, and_self, and_true, true_and, w64, dT, dF, bT, bF, nT, nF, if_pos, if_neg, Int.tmod_eq_emod_of_nonneg, Int.tdiv_eq_ediv_of_nonneg, Int.toNat_natCast, Nat.mul_one, Nat.one_mul, Nat.zero_add, Nat.add_zero, Nat.zero_mul]
    rw [show L95_0 = ACode.loop [0, 1, 13, 14] _ from rfl, XW_mask]
    simp (maxSteps := 1000000) (disch := omega) only [ax6, ax1, ax2, ax3, ax4, reduceIte, Nat.reduceAdd, Nat.reduceMul, Nat.reduceEqDiff, Nat.reduceLeDiff, reduceCtorEq, Int.reduceAdd, Int.reduceSub, Int.reduceMul, Int.reduceNeg, Int.reduceEq, Int.reduceTMod, Int.reduceTDiv, Int.reduceLT, Int.reduceLE, Int.reduceToNat, Int.reduceBEq, Int.reduceBNe, decide_true, decide_false, and_self, and_true, true_and, w64, dT, dF, bT, bF, nT, nF, if_pos, if_neg, Int.tmod_eq_emod_of_nonneg, Int.tdiv_eq_ediv_of_nonneg, Int.toNat_natCast, Nat.mul_one, Nat.one_mul, Nat.zero_add, Nat.add_zero, Nat.zero_mul]
    simp only [List.drop_zero] at h
    exact h
  · have e : decide (la = lb) = false := decide_eq_false fun h => hl (by rw [h])
    rw [e]
    simp only [fl_length]
    simp (maxSteps := 1000000) (disch := omega) only [B95, ax6, ax1, ax2, ax3, ax4, reduceIte, Nat.reduceAdd, Nat.reduceMul, Nat.reduceEqDiff, Nat.reduceLeDiff, reduceCtorEq, Int.reduceAdd, Int.reduceSub, Int.reduceMul, Int.reduceNeg, Int.reduceEq, Int.reduceTMod, Int.reduceTDiv, Int.reduceLT, Int.reduceLE, Int.reduceToNat, Int.reduceBEq, Int.reduceBNe, decide_true, decide_false, and_self, and_true, true_and, w64, dT, dF, bT, bF, nT, nF, if_pos, if_neg, Int.tmod_eq_emod_of_nonneg, Int.tdiv_eq_ediv_of_nonneg, Int.toNat_natCast, Nat.mul_one, Nat.one_mul, Nat.zero_add, Nat.add_zero, Nat.zero_mul]
    exact ret_drop0 rfl rfl rfl rfl
theorem c39 {la lb : List Nat} {va vb : Value} (ha : Rd H va (fl la)) (hb : Rd H vb (fl lb)) (hn : la.length ≤ 1000000000000000) (hn' : lb.length ≤ 1000000000000000) :
    Cf Tb gl base 39 [va, vb] H = some (.bool (decide (la = lb)), H) := by
  refine Cf_of T39 (by simp) ?_
  simp (maxSteps := 1000000) (disch := omega) only [B39, c95 ha hb hn hn', ax1, ax2, ax3, ax4, reduceIte, Nat.reduceAdd, Nat.reduceMul, Nat.reduceEqDiff, Nat.reduceLeDiff, reduceCtorEq, Int.reduceAdd, Int.reduceSub, Int.reduceMul, Int.reduceNeg, Int.reduceEq, Int.reduceTMod, Int.reduceTDiv, Int.reduceLT, Int.reduceLE, Int.reduceToNat, Int.reduceBEq, Int.reduceBNe, decide_true, decide_false, and_self, and_true, true_and, w64, dT, dF, bT, bF, nT, nF, if_pos, if_neg, Int.tmod_eq_emod_of_nonneg, Int.tdiv_eq_ediv_of_nonneg, Int.toNat_natCast, Nat.mul_one, Nat.one_mul, Nat.zero_add, Nat.add_zero, Nat.zero_mul]
  exact ret_drop0 rfl rfl rfl rfl

end
end Go.AM.Cd
/- A law's call, from the machine's run in the first memory; and a slice of integers as an argument. No condition. -/
set_option maxRecDepth 100000
namespace Go.AM
open Go.RowKit Go.ChangeShapes Go.WideShapes Go.ChangeAt Go.WideMaps Go.WideElems Go.Proofs Go.Proofs.YtncmmcmmdidmaaaGreatDoor

theorem ownP : ownKnob Tryz.prog.godebug = none := by kernel_rfl
theorem laidOutP : laidOutB Tryz.prog = true := by kernel_rfl
def pos : Nat → Nat := fun k => [19, 9, 3, 4, 5, 6, 7, 8, 10, 11, 12, 13, 14, 15, 16, 17, 18, 20, 21, 22].getD k 0
theorem pos_tab : ∀ i, i < 19 → pos i ≠ pos 19 := by decide
theorem pos_ne : ∀ i j, i < 19 → j < 19 → i ≠ j → pos i ≠ pos j := by
  have h : ∀ i, i < 19 → ∀ j, j < 19 → i ≠ j → pos i ≠ pos j := by decide
  exact fun i j a b => h i a j b
/-- What the row's list gives. -/
theorem senL {W : World} (h : laidMetH Tryz.prog Rows.cosineSumsRow.laid W) : ∃ (f : Nat → List MemPlace) (A : Nat → Pl), (∀ k, k < 19 → Sen W k (f (pos k)) (A k)) ∧ Tab W (f (pos 19)) ∧ ∀ i j q, i ≠ j → q ∈ f i → q ∉ f j := by
  rw [MakeChecks.laidMetH_plain _ _ _ (by kernel_rfl)] at h
  obtain ⟨ps, hv, hn, hr⟩ := h
  obtain ⟨f, f1, f2, f3, f4⟩ := laid_split _ _ hv hn
  have hA : ∀ k, ∃ a, k < 19 → Sen W k (f (pos k)) a := fun k => by
    by_cases hk : k < 19
    · suffices ∃ a, Sen W k (f (pos k)) a by
        obtain ⟨a, ha⟩ := this; exact ⟨a, fun _ => ha⟩
      match k, hk with
      | 0, _ => exact sen f1 f2 f3 hr (i := 19) (g := 0) (n := "timbre/api.ErrMode") rfl (by kernel_rfl) (by kernel_rfl)
      | 1, _ => exact sen f1 f2 f3 hr (i := 9) (g := 1) (n := "timbre/api.ErrLength") rfl (by kernel_rfl) (by kernel_rfl)
      | 2, _ => exact sen f1 f2 f3 hr (i := 3) (g := 2) (n := "timbre/api.ErrShort") rfl (by kernel_rfl) (by kernel_rfl)
      | 3, _ => exact sen f1 f2 f3 hr (i := 4) (g := 3) (n := "timbre/api.ErrVarint") rfl (by kernel_rfl) (by kernel_rfl)
      | 4, _ => exact sen f1 f2 f3 hr (i := 5) (g := 4) (n := "timbre/api.ErrLimit") rfl (by kernel_rfl) (by kernel_rfl)
      | 5, _ => exact sen f1 f2 f3 hr (i := 6) (g := 5) (n := "timbre/api.ErrTail") rfl (by kernel_rfl) (by kernel_rfl)
      | 6, _ => exact sen f1 f2 f3 hr (i := 7) (g := 6) (n := "timbre/api.ErrRange") rfl (by kernel_rfl) (by kernel_rfl)
      | 7, _ => exact sen f1 f2 f3 hr (i := 8) (g := 7) (n := "timbre/api.ErrText") rfl (by kernel_rfl) (by kernel_rfl)
      | 8, _ => exact sen f1 f2 f3 hr (i := 10) (g := 8) (n := "timbre/api.ErrOrder") rfl (by kernel_rfl) (by kernel_rfl)
      | 9, _ => exact sen f1 f2 f3 hr (i := 11) (g := 9) (n := "timbre/api.ErrProgram") rfl (by kernel_rfl) (by kernel_rfl)
      | 10, _ => exact sen f1 f2 f3 hr (i := 12) (g := 10) (n := "timbre/api.ErrState") rfl (by kernel_rfl) (by kernel_rfl)
      | 11, _ => exact sen f1 f2 f3 hr (i := 13) (g := 11) (n := "timbre/api.ErrRoot") rfl (by kernel_rfl) (by kernel_rfl)
      | 12, _ => exact sen f1 f2 f3 hr (i := 14) (g := 12) (n := "timbre/api.ErrPerm") rfl (by kernel_rfl) (by kernel_rfl)
      | 13, _ => exact sen f1 f2 f3 hr (i := 15) (g := 13) (n := "timbre/api.ErrNumber") rfl (by kernel_rfl) (by kernel_rfl)
      | 14, _ => exact sen f1 f2 f3 hr (i := 16) (g := 14) (n := "timbre/api.ErrWorkers") rfl (by kernel_rfl) (by kernel_rfl)
      | 15, _ => exact sen f1 f2 f3 hr (i := 17) (g := 15) (n := "timbre/api.ErrDone") rfl (by kernel_rfl) (by kernel_rfl)
      | 16, _ => exact sen f1 f2 f3 hr (i := 18) (g := 16) (n := "timbre/api.ErrUnknown") rfl (by kernel_rfl) (by kernel_rfl)
      | 17, _ => exact sen f1 f2 f3 hr (i := 20) (g := 17) (n := "timbre/api.ErrCommand") rfl (by kernel_rfl) (by kernel_rfl)
      | 18, _ => exact sen f1 f2 f3 hr (i := 21) (g := 18) (n := "timbre/api.ErrExact") rfl (by kernel_rfl) (by kernel_rfl)
      | k + 19, h => omega
    · exact ⟨⟨0, 0, 0⟩, fun h => absurd h hk⟩
  obtain ⟨A, hA⟩ := Classical.skolem.1 hA
  exact ⟨f, A, hA, tab f1 f3 hr (i := 22) rfl (by kernel_rfl) (by kernel_rfl), f4⟩

/-- A call of the program, out of the machine's run. -/
theorem calls_of {W : World} {A : Nat → Pl} {f : Nat → List MemPlace} (hA : ∀ k, k < 19 → Sen W k (f (pos k)) (A k)) (hB : Tab W (f (pos 19))) (hf : ∀ i j q, i ≠ j → q ∈ f i → q ∉ f j)
    {T : Heap} {ν : Nat → Pl} (hT : ∀ k b, T[k]? = some b → ArgB W (ν k) b) {k : Nat} {body : ACode} {res : List Res} {mode : Mode} (hk : Cd.Tb k = some (.code body res mode))
    {vs cs : List Value} (hl : LR (mu0 A ν) (Hg ++ T) vs cs) (hx : ∃ H', Cf Cd.Tb 43 (Hg ++ T).length k vs (Hg ++ T) = some (.bool true, H')) :
    Calls Tryz.prog k cs.toArray W fun e W' => e = .returned (.bool true) ∧ Below W.heap.size W W' := by
  obtain ⟨H', hx⟩ := hx
  obtain ⟨n, hn⟩ := callF_fin Cd.Tb 43 hx
  have hR := rh0 (okC := okCode Tryz.prog) hA pos_ne pos_tab hB hf T ν hT
  refine ((simF Cd.funsOk (Cd.simT 43 n) hk hn hl hR (by simp [Hg_len]) (Nat.le_refl _)).calls (fun k => by intro d hd; cases hd)).mono fun e W' h => ?_
  obtain ⟨c, μ', rfl, hv, hR', _⟩ := h
  cases hv
  exact ⟨rfl, hR'.below⟩

/-- A slice of integers: how the machine's argument stands to it. -/
theorem ints_arg {H : Type} {enc : TypeId × Value → H} {W : World} {base : Nat} {t e : TypeId} {k : IntKind} {v : Value} {d : DataW H} {p : List MemPlace} (ht : Tryz.prog.underlying t = some (.slice e)) (he : Tryz.prog.underlying e = some (.int k)) (hc : Tryz.prog.cellsOf e = 1)
    (hok : Value.okWide Tryz.prog W .any base t v) (h0 : DataW.Trod enc Tryz.prog W 0 (fun _ => true) true t v d p) (hw : (DataW.weights Tryz.prog t d).all (· ≤ reachBytes) = true) (n : Nat) :
    ∃ (us : List Int) (b : ABlk) (q : Pl) (a : Option Addr), ArgB W q b ∧ (∀ (A ν : Nat → Pl) (T : Heap), T[n]? = some b → ν n = q → VR (mu0 A ν) (Hg ++ T) (.slice a us.length 0) v) ∧
      (∀ T : Heap, T[n]? = some b → Rd (Hg ++ T) (.slice a us.length 0) (us.map (Value.int k))) ∧ us.length * Tryz.prog.bytesOf e ≤ reachBytes := by
  obtain ⟨a0, len, cap, rfl⟩ := okWide_slice ht hok
  obtain ⟨fuel, hf⟩ := h0
  rcases open_ints ht he hc hf with ⟨hcs, _⟩ | ⟨a, len', cap', zs, hcs, _, hl, _, hz, hx, hcell, _⟩
  · simp [Value.cells] at hcs
    obtain ⟨rfl, rfl, rfl⟩ := hcs
    exact ⟨[], .gone, ⟨0, 0, 0⟩, none, .inl rfl, fun A ν T _ _ => .nilSlc, fun T _ => ⟨none, 0, rfl, .inl rfl⟩, by simp⟩
  · simp [Value.cells] at hcs
    obtain ⟨rfl, rfl, rfl⟩ := hcs
    simp only [Prod.mk.injEq] at hx
    obtain ⟨rfl, rfl⟩ := hx
    simp only [if_true] at hz
    have hsp : a.spot = none := by
      simp only [Value.okWide, ht, Cell.okWide, Cell.ok] at hok
      exact hok.2.2.2.1
    obtain ⟨ab, ao, asp⟩ := a
    cases hsp
    have hwt : cap * Tryz.prog.bytesOf e ≤ reachBytes := by
      rw [DataW.weights] at hw
      simp only [ht, List.all_cons, Bool.and_eq_true, decide_eq_true_eq] at hw
      have h1 := hw.1
      simp only [lits, List.length_map, List.length_take, List.length_drop] at h1
      rw [show min len zs.length + (zs.length - len) = cap by omega] at h1
      exact h1
    have hb : (zs.take len).length = len := by simp; omega
    have hwt' : len * Tryz.prog.bytesOf e ≤ reachBytes := Nat.le_trans (Nat.mul_le_mul_right _ hl) hwt
    by_cases h0 : len = 0
    · subst h0
      refine ⟨[], .gone, ⟨0, 0, 0⟩, some ⟨43 + n, 0, some 0⟩, .inl rfl, fun A ν T hT _ => .slc ?_ hl (fun _ e vs hat => ?_), fun T _ => ⟨_, 0, rfl, .inl rfl⟩, by simp⟩
      · unfold okp; rw [Hg_rest, hT]; trivial
      · unfold Heap.at at hat; rw [Hg_rest, hT] at hat; cases hat
    · have hget : ∀ i, i < len → ∃ cs el fr, W.heap[ab]? = some (.cells cs el fr) ∧ cs[ao + i]? = some (.int k (zs.getD i 0)) := fun i hi => by
        have := hcell i (by omega)
        unfold World.cell? Addr.add at this
        by_cases hi0 : i = 0
        · subst hi0
          simp only [if_true] at this
          split at this <;> try contradiction
          rename_i cs el fr hb
          exact ⟨cs, el, fr, hb, by simpa using this⟩
        · simp only [hi0, if_false] at this
          split at this <;> try contradiction
          rename_i cs el fr hb
          exact ⟨cs, el, fr, hb, by simpa using this⟩
      obtain ⟨cs, el, fr, hblk, _⟩ := hget 0 (by omega)
      have hcs : ∀ i, i < len → cs[ao + i]? = some (.int k (zs.getD i 0)) := fun i hi => by
        obtain ⟨cs', el', fr', hb', h⟩ := hget i hi
        rw [hblk] at hb'; cases hb'
        exact h
      have htk : ∀ i, i < len → (zs.take len)[i]? = some (zs.getD i 0) := fun i hi => by
        rw [List.getElem?_take, if_pos hi, List.getD_eq_getElem?_getD, List.getElem?_eq_getElem (by omega)]; rfl
      refine ⟨zs.take len, .cells 0 0 ((zs.take len).map (Value.int k)), ⟨ab, ao, cs.size⟩, some ⟨43 + n, 0, some 0⟩, .inr ⟨_, _, _, rfl, cs, el, fr, hblk, rfl, ?_, fun j v hj => ?_⟩, fun A ν T hT hν => ?_, fun T hT => ?_, by rw [hb]; exact hwt'⟩
      · have := (Array.getElem?_eq_some_iff.1 (hcs (len - 1) (by omega))).1
        simp only [List.length_map, hb]; omega
      · rw [List.getElem?_map] at hj
        have hjl : j < len := by
          rcases Nat.lt_or_ge j len with h | h
          · exact h
          · rw [List.getElem?_eq_none (by omega)] at hj; cases hj
        rw [htk j hjl] at hj
        cases hj
        exact ⟨_, hcs j hjl, fun _ _ => .int _ _⟩
      · rw [hb]
        refine .slc ?_ hl (fun _ e vs _ => ⟨⟨ab, ao, cs.size⟩, ?_, rfl, rfl, fun h => absurd rfl h⟩)
        · unfold okp; rw [Hg_rest, hT]; exact Nat.le_refl _
        · unfold mu0; rw [if_neg (by omega), if_neg (by omega), if_neg (by omega), if_neg (by omega), Nat.add_sub_cancel_left, hν]
      · refine ⟨_, 0, by rw [List.length_map], .inr ⟨43 + n, 0, 0, 0, (zs.take len).map (Value.int k), rfl, ?_, ?_, fun i _ => ?_⟩⟩
        · unfold Heap.at; rw [Hg_rest, hT]; rfl
        · simp
        · rw [Nat.zero_add]
end Go.AM
/- The sum: the program's. No condition. -/
set_option maxRecDepth 20000
set_option maxHeartbeats 2000000
set_option linter.unusedSimpArgs false
namespace Go.AM.Cd
/-- Element k of the sum, from element j on. -/
def sumK (n k : Nat) : List Nat → Nat → Nat → Nat
  | [], _, acc => acc
  | v :: l, j, acc => sumK n k l (j + 1) (if j = 0 then fop .mul v (pairF (4 * n) ((2 * j + 1) * k)).1 else fop .add acc (fop .mul v (pairF (4 * n) ((2 * j + 1) * k)).1))
section
variable {gl base : Nat} {H : Heap} {Q : AX → Env → Heap → Prop}
theorem l33_1 {xs : List Nat} {id o g e x : Nat} {vs : List Value} (hx : H.at id g = some (e, vs)) (hv : ∀ i, i < xs.length → vs[o + i]? = (fl xs)[i]?) (hn : xs.length ≤ 1024) {k : Nat} (hk : k < xs.length) :
    ∀ (d j : Nat) (acc : Nat) (cs : List Value), j + d = xs.length → cs.length = xs.length → cs[k]? = some (.float .f64 acc) →
    XW Tb gl H.length L33_1 (Env.ofList [(0, .slice (some ⟨id, o, some g⟩) xs.length x), (4, .int .i64 xs.length), (5, .slice (some ⟨H.length, 0, some 0⟩) xs.length 1), (6, .int .i64 k), (24, .int .i64 xs.length), (25, .int .i64 k), (28, .slice (some ⟨id, o, some g⟩) xs.length x), (29, .int .i64 xs.length), (30, .int .i64 j)]) (H ++ [.cells 0 1 cs]) Q =
    Q (.exit 2) (Env.ofList [(31, .bool false), (0, .slice (some ⟨id, o, some g⟩) xs.length x), (4, .int .i64 xs.length), (5, .slice (some ⟨H.length, 0, some 0⟩) xs.length 1), (6, .int .i64 k), (24, .int .i64 xs.length), (25, .int .i64 k), (28, .slice (some ⟨id, o, some g⟩) xs.length x), (29, .int .i64 xs.length), (30, .int .i64 xs.length)]) (H ++ [.cells 0 1 (cs.set k (.float .f64 (sumK xs.length k (xs.drop j) j acc)))]) := by
  intro d
  induction d with
  | zero =>
    intro j acc cs hj hcs hck
    obtain rfl : j = xs.length := by omega
    rw [List.drop_length]
    conv => lhs; unfold L33_1; rw [XW_loop_eq]
    simp (maxSteps := 1000000) (disch := omega) only [ax6, ax7, ax1, ax2, ax3, ax4, reduceIte, Nat.reduceAdd, Nat.reduceMul, Nat.reduceEqDiff, Nat.reduceLeDiff, reduceCtorEq, Int.reduceAdd, Int.reduceSub, Int.reduceMul, Int.reduceNeg, Int.reduceEq, Int.reduceTMod, Int.reduceTDiv, Int.reduceLT, Int.reduceLE, Int.reduceToNat, Int.reduceBEq, Int.reduceBNe, decide_true, decide_false, and_self, and_true, true_and, w64, dT, dF, bT, bF, nT, nF, if_pos, if_neg, Int.tmod_eq_emod_of_nonneg, Int.tdiv_eq_ediv_of_nonneg, Int.toNat_natCast, Nat.mul_one, Nat.one_mul, Nat.zero_add, Nat.add_zero, Nat.zero_mul]
    have e1 : cs.set k (.float .f64 acc) = cs := by
      apply List.ext_getElem?
      intro i
      by_cases hik : k = i
      · subst hik; rw [List.getElem?_set_self (by omega), hck]
      · rw [List.getElem?_set_ne hik]
    simp only [sumK, e1]
  | succ d ih =>
    intro j acc cs hj hcs hck
    have hjl : j < xs.length := by omega
    have hxo : ∀ T : Heap, Heap.at (H ++ T) id g = some (e, vs) := fun T => at_old hx T
    have hv' := hv j hjl
    rw [fl_get, List.getElem?_eq_getElem hjl] at hv'
    simp only [Option.map_some] at hv'
    rw [List.drop_eq_getElem_cons hjl]
    generalize xs[j] = v at hv'
    have hjk : ((2 * j + 1) * k : Int) ≤ 4194304 := by
      have h1 : (2 * j + 1) * k ≤ 2048 * 1024 := Nat.mul_le_mul (by omega) (by omega)
      have h2 : (((2 * j + 1) * k : Nat) : Int) = (2 * j + 1) * k := by simp
      omega
    have hjk0 : (0 : Int) ≤ (2 * j + 1) * k := Int.mul_nonneg (by omega) (by omega)
    conv => lhs; unfold L33_1; rw [XW_loop_eq]
    by_cases hj0 : j = 0
    · simp (maxSteps := 1000000) (disch := omega) only [ax6, ax7, hxo, part, hv', c91, hck, List.getElem?_toArray, List.getElem?_cons_zero, List.getElem?_cons_succ, isC, Bool.or_true, ax1, ax2, ax3, ax4, reduceIte, Nat.reduceAdd, Nat.reduceMul, Nat.reduceEqDiff, Nat.reduceLeDiff, reduceCtorEq, Int.reduceAdd, Int.reduceSub, Int.reduceMul, Int.reduceNeg, Int.reduceEq, Int.reduceTMod, Int.reduceTDiv, Int.reduceLT, Int.reduceLE, Int.reduceToNat, Int.reduceBEq, Int.reduceBNe, decide_true, decide_false, and_self, and_true, true_and, w64, dT, dF, bT, bF, nT, nF, if_pos, if_neg, Int.tmod_eq_emod_of_nonneg, Int.tdiv_eq_ediv_of_nonneg, Int.toNat_natCast, Nat.mul_one, Nat.one_mul, Nat.zero_add, Nat.add_zero, Nat.zero_mul]
      rw [XW_mask]
      simp (maxSteps := 1000000) (disch := omega) only [ax6, ax1, ax2, ax3, ax4, reduceIte, Nat.reduceAdd, Nat.reduceMul, Nat.reduceEqDiff, Nat.reduceLeDiff, reduceCtorEq, Int.reduceAdd, Int.reduceSub, Int.reduceMul, Int.reduceNeg, Int.reduceEq, Int.reduceTMod, Int.reduceTDiv, Int.reduceLT, Int.reduceLE, Int.reduceToNat, Int.reduceBEq, Int.reduceBNe, decide_true, decide_false, and_self, and_true, true_and, w64, dT, dF, bT, bF, nT, nF, if_pos, if_neg, Int.tmod_eq_emod_of_nonneg, Int.tdiv_eq_ediv_of_nonneg, Int.toNat_natCast, Nat.mul_one, Nat.one_mul, Nat.zero_add, Nat.add_zero, Nat.zero_mul]
      refine (ih (j + 1) _ (cs.set k _) (by omega) (by simpa using hcs) (by rw [List.getElem?_set_self (by omega)])).trans ?_
      simp only [sumK, hj0, if_true, List.set_set]
    · simp (maxSteps := 1000000) (disch := omega) only [ax6, ax7, hxo, part, hv', c91, hck, List.getElem?_toArray, List.getElem?_cons_zero, List.getElem?_cons_succ, isC, Bool.or_true, ax1, ax2, ax3, ax4, reduceIte, Nat.reduceAdd, Nat.reduceMul, Nat.reduceEqDiff, Nat.reduceLeDiff, reduceCtorEq, Int.reduceAdd, Int.reduceSub, Int.reduceMul, Int.reduceNeg, Int.reduceEq, Int.reduceTMod, Int.reduceTDiv, Int.reduceLT, Int.reduceLE, Int.reduceToNat, Int.reduceBEq, Int.reduceBNe, decide_true, decide_false, and_self, and_true, true_and, w64, dT, dF, bT, bF, nT, nF, if_pos, if_neg, Int.tmod_eq_emod_of_nonneg, Int.tdiv_eq_ediv_of_nonneg, Int.toNat_natCast, Nat.mul_one, Nat.one_mul, Nat.zero_add, Nat.add_zero, Nat.zero_mul]
      rw [XW_mask]
      simp (maxSteps := 1000000) (disch := omega) only [ax6, ax1, ax2, ax3, ax4, reduceIte, Nat.reduceAdd, Nat.reduceMul, Nat.reduceEqDiff, Nat.reduceLeDiff, reduceCtorEq, Int.reduceAdd, Int.reduceSub, Int.reduceMul, Int.reduceNeg, Int.reduceEq, Int.reduceTMod, Int.reduceTDiv, Int.reduceLT, Int.reduceLE, Int.reduceToNat, Int.reduceBEq, Int.reduceBNe, decide_true, decide_false, and_self, and_true, true_and, w64, dT, dF, bT, bF, nT, nF, if_pos, if_neg, Int.tmod_eq_emod_of_nonneg, Int.tdiv_eq_ediv_of_nonneg, Int.toNat_natCast, Nat.mul_one, Nat.one_mul, Nat.zero_add, Nat.add_zero, Nat.zero_mul]
      refine (ih (j + 1) _ (cs.set k _) (by omega) (by simpa using hcs) (by rw [List.getElem?_set_self (by omega)])).trans ?_
      simp only [sumK, hj0, if_false, List.set_set]
end
end Go.AM.Cd
