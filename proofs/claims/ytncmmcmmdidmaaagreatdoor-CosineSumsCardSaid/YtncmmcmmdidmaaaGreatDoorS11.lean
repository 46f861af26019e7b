/- CosineSums, the tied card: for every input the law's call returns true and the input reads as it did. No condition beyond the row's own (the listed package-level variables read as laid). -/
import Derived.Test.YtncmmcmmdidmaaaGreatDoorCards
import Derived.Test.YtncmmcmmdidmaaaGreatDoorTie
import Derived.Test.YtncmmcmmdidmaaaGreatDoorS10
set_option linter.all false
set_option maxRecDepth 100000
set_option maxHeartbeats 4000000
namespace Go.Proofs.YtncmmcmmdidmaaaGreatDoor
open Go
theorem andT {a b : Bool} (h : a = true) (h2 : b = true) : (a && b) = true := by rw [h, h2]; rfl
theorem cosineSums_joined : joinedFacts Tryz.checked.prog 7 Tryz.f7 Rows.cosineSumsSpec Rows.cosineSumsRow = true := by
  unfold joinedFacts
  repeat' with_reducible refine andT ?_ ?_
  all_goals as_aux_lemma => kernel_rfl
theorem cosineSums_named : Tryz.pinned.checked.prog.funcNamed Rows.cosineSumsRow.func = some 7 := by kernel_rfl
theorem cosineSums_inst : Func.isInstance Tryz.pinned.checked.prog Tryz.f7 Rows.cosineSumsRow.origin Rows.cosineSumsRow.targs := of_decide_eq_true (by kernel_rfl)
theorem cosineSums_wrap : Func.isWrapper Tryz.pinned.checked.prog Tryz.f7 Rows.cosineSumsRow.wrapper Rows.cosineSumsRow.mainSum := by
  unfold Func.isWrapper; first | (rw [if_pos (by decide +kernel)]; kernel_rfl) | (rw [if_neg (by decide +kernel)]; exact ⟨rfl, rfl⟩)
theorem cosineSums_wf : OpenClaim.wfByText (OpenSpec.ofChange Rows.cosineSumsSpec) Rows.cosineSumsRow = true := by kernel_rfl
theorem main_is : Tryz.pinned.checked.prog.mainIs = some (true, ("60b1225d88ad659854f86f402fa0c260389914b811d94e91d9e125a7060e1695").toList) := by kernel_rfl
theorem it_looks : true = Tryz.pinned.checked.prog.looks [] := by kernel_rfl
theorem cosineSums_goesBy : false = Rows.cosineSumsRow.goesBy Tryz.pinned.checked.prog := by kernel_rfl
theorem cosineSums_standIn : ([50].all fun u => !Tryz.pinned.checked.prog.wantsStandIn u) = true := by kernel_rfl
theorem cosineSums_holds : Rows.CosineSumsSaid :=
  OpenClaim.holds_of_wide 7 Tryz.f7 rfl rfl rfl rfl rfl rfl rfl ⟨rfl, rfl, rfl, rfl, rfl⟩ rfl rfl rfl rfl rfl cosineSums_named Tryz.func7 cosineSums_joined cosineSums_inst cosineSums_wrap
    (fun os started H enc _ => AM.sums_lifted os started H enc)
theorem cosineSums_card : Rows.CosineSumsCardSaid :=
  Claim7.holds_tied_plain_at .later [] [.data, .data, .data, .sentinel, .sentinel, .sentinel, .sentinel, .sentinel, .sentinel, .sentinel, .sentinel, .sentinel, .sentinel, .sentinel, .sentinel, .sentinel, .sentinel, .sentinel, .sentinel, .sentinel, .sentinel, .sentinel, .data] true (true, "60b1225d88ad659854f86f402fa0c260389914b811d94e91d9e125a7060e1695") true
    cosineSums_holds (fun _ h => by cases h) cosineSums_wf (fun _ h => by cases h) cosineSums_row_tie rfl ⟨rfl, rfl⟩ main_is rfl
    (fun f fn hf hfn => by
      obtain rfl : f = 7 := Option.some.inj (cosineSums_named.symm.trans hf) |>.symm
      obtain rfl : fn = Tryz.f7 := (Option.some.inj (Tryz.func7.symm.trans hfn)).symm
      exact ⟨it_looks, fun j t ht => by
        rw [Tryz.params7] at ht
        have hm : t ∈ [50] := by simpa using Array.mem_of_getElem? ht
        exact (show Tryz.pinned.checked.prog.wantsStandIn t = false by simpa using List.all_eq_true.1 cosineSums_standIn t hm)⟩)
    cosineSums_goesBy
end Go.Proofs.YtncmmcmmdidmaaaGreatDoor
