/- CosineSums: the call, at the row's condition. No condition. -/
import Derived.Test.YtncmmcmmdidmaaaGreatDoorS9
set_option linter.all false
set_option maxRecDepth 100000
namespace Go.AM
open Go.RowKit Go.ChangeShapes Go.WideShapes Go.ChangeAt Go.WideMaps Go.WideElems Go.Proofs Go.Proofs.YtncmmcmmdidmaaaGreatDoor
theorem Hg_glob (T : Heap) : Glob (Hg ++ T) := by
  refine ⟨fun i hi => ?_, fun i hi => ?_⟩
  · unfold Heap.at; rw [Hg_var hi]; rfl
  · unfold Heap.at; rw [Hg_text (by omega) (by omega)]; rfl
/-- The door's own heap meets the condition. -/
theorem door_met (os : Os) (args : Array Value) : laidMetH Tryz.prog Rows.cosineSumsRow.laid ((World.doorLaid Tryz.prog 402 os).forCall (fun _ _ => 0) ⟨#[], args, []⟩).memory :=
  laidMetH_of_parts3 (fuel := 8) (laidMet_of_run' 8 (by kernel_rfl) (by kernel_rfl)) (by kernel_rfl) (by kernel_rfl)
theorem bytes109 : Tryz.prog.bytesOf 109 = 8 := by kernel_rfl
theorem cells109 : Tryz.prog.cellsOf 109 = 1 := by kernel_rfl

theorem sums_lifted (os : Os) (started : os.Started) (H : Type) (enc : TypeId × Value → H) :
    ReturnsInHanded {} Tryz.checked os 7 .any (fun w args => (Rows.cosineSumsSpec.pre enc Tryz.prog Tryz.f7 [] false w args ∧ laidMetH Tryz.prog Rows.cosineSumsRow.laid w) ∧ sizedMet enc Tryz.prog Tryz.f7 (OpenSpec.ofChange Rows.cosineSumsSpec) false w args)
      (Rows.cosineSumsSpec.post enc Tryz.prog Tryz.f7 false true false false) := by
  refine returnsInHanded_of_change_and (C := Tryz.checked) (X := fun w _ => laidMetH Tryz.prog Rows.cosineSumsRow.laid w) (fun _ _ _ hh h => h.of_heap hh) ownP started (by kernel_rfl) Tryz.func7
    (ChangeSpec.witness_shaped (enc := enc) (C := Tryz.checked) (os := os) (X := fun w _ => laidMetH Tryz.prog Rows.cosineSumsRow.laid w) false (World.doorLaid Tryz.prog 402 os) #[.slice none 0 0] 8 rfl (World.shaped_of_RefB (by kernel_rfl) (by kernel_rfl)) (by kernel_rfl) (by kernel_rfl) (by kernel_rfl) (door_met os _)) ?_
  intro W base args ds gs before hval0 hW _ hwt hL _
  have hval : ∀ (j : Nat) t v, Tryz.f7.params[j]? = some t → args[j]? = some v → Value.okWide Tryz.prog W .any base t v := hval0
  have hW' := hW
  obtain ⟨p, q, hA0, hV, rfl, hfz, hnd⟩ := hW
  have hA : DataW.TrodAll enc Tryz.prog W 0 (fun _ => true) true Tryz.f7.params.toList args.toList ds p := hA0
  rw [Tryz.params7] at hA hval
  obtain ⟨v0, d0, rfl, rfl, h0⟩ := trodAll_one hA
  obtain ⟨rfl, rfl⟩ := trodVars_none hV
  have hw : (DataW.weights Tryz.prog 50 d0).all (· ≤ reachBytes) = true := by
    have hw1 : (DataW.weightsEach Tryz.prog (Tryz.f7.params.toList ++ Rows.cosineSumsSpec.plain.varTypes Tryz.prog) ([d0] ++ [])).all (· ≤ reachBytes) = true := hwt
    rw [Tryz.params7] at hw1
    rw [List.all_eq_true] at hw1 ⊢
    intro x hx
    refine hw1 x ?_
    show x ∈ DataW.weightsEach Tryz.prog (50 :: _) (d0 :: _)
    rw [DataW.weightsEach]
    exact List.mem_append_left _ hx
  obtain ⟨us, b, q, a, hb, hv, hr, hlen⟩ := ints_arg Tryz.underlying50 Tryz.underlying109 cells109 (hval 0 50 v0 rfl rfl) h0 hw 0
  rw [bytes109] at hlen
  obtain ⟨f, A, hA1, hB1, hf1⟩ := senL hL
  have hT : ∀ (k : Nat) (b' : ABlk), ([b] : Heap)[k]? = some b' → ArgB W ((fun _ => q) k) b' := fun k b' h => by
    cases k with
    | zero => cases h; exact hb
    | succ k => simp at h
  have hc := calls_of hA1 hB1 hf1 hT (k := 7) Cd.T7 (.cons (hv A _ [b] rfl rfl) .nil) (Cd.law7 (Hg_glob _) (Cd.lives b) (hr [b] rfl) (by unfold reachBytes at hlen; omega))
  simp only [List.append_nil] at hW'
  have hlt : ∀ x ∈ p, x.block < W.heap.size := fun x hx => by simpa using hW'.lt x hx
  refine hc.mono fun e W' ⟨he, hbel⟩ => ?_
  subst he
  refine ⟨_, rfl, [d0], [], p, [], p, [], hW', ?_, ?_, rfl, hbel.frame _, fun h => by cases h⟩
  · exact trodAll_mk1 (shut_bool Tryz.underlying4 _)
  · exact trodAll_mk1 (Below.trod laidOutP (by kernel_rfl) (of_decide_eq_true (by kernel_rfl)) h0 hbel hlt)
end Go.AM
