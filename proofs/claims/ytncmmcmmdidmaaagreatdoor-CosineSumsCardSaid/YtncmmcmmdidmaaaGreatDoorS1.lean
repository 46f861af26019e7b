/- How memory goes on by one operation. No condition. -/
import Derived.Laws.Tables
import Derived.Laws.BitsLemmas
import Derived.Laws.CopyRow
import Derived.Laws.Append
import Derived.Test.YtncmmcmmdidmaaaGreatDoorS0
set_option linter.all false
namespace Go.AM
open Go.RowKit (Below)

/-- Memory has gone on: what lies below base is as it was. -/
structure Stp (base : Nat) (μ : Mu) (H : Heap) (w : World) (μ' : Mu) (H' : Heap) (w' : World) : Prop where
  ext : Ext μ H μ' H'
  size : w.heap.size ≤ w'.heap.size
  keep : ∀ b, b < w.heap.size → (∀ id p, base ≤ id → alive H id → μ id = some p → p.b ≠ b) → w'.heap[b]? = w.heap[b]?
  own : ∀ id p, base ≤ id → alive H' id → μ' id = some p → w.heap.size ≤ p.b ∨ (alive H id ∧ ∃ p0, μ id = some p0 ∧ p0.b = p.b)
  low : ∀ id, id < base → H'[id]? = H[id]? ∧ μ' id = μ id
  len : H.length ≤ H'.length

theorem Stp.refl (base : Nat) (μ : Mu) (H : Heap) (w : World) : Stp base μ H w μ H w :=
  ⟨.refl _ _, Nat.le_refl _, fun _ _ _ => rfl, fun _ p _ ha hp => .inr ⟨ha, p, hp, rfl⟩, fun _ _ => ⟨rfl, rfl⟩, Nat.le_refl _⟩
theorem Stp.drawn {base : Nat} {μ μ' : Mu} {H H' : Heap} {w w' w'' : World} (h : Stp base μ H w μ' H' w') (d : Drawn w' w'') : Stp base μ H w μ' H' w'' :=
  ⟨h.ext, by rw [d.heap]; exact h.size, fun b hb hn => by rw [d.heap]; exact h.keep b hb hn, h.own, h.low, h.len⟩
theorem Stp.drawn0 {base : Nat} {μ μ' : Mu} {H H' : Heap} {w w' w'' : World} (d : Drawn w w') (h : Stp base μ H w' μ' H' w'') : Stp base μ H w μ' H' w'' :=
  ⟨h.ext, by rw [← d.heap]; exact h.size, fun b hb hn => by rw [← d.heap] at hb ⊢; exact h.keep b hb hn, fun id p a b c => by rw [← d.heap]; exact h.own id p a b c, h.low, h.len⟩
theorem alive_of_eq {H H' : Heap} {id : Nat} (h : H'[id]? = H[id]?) : alive H' id ↔ alive H id := by unfold alive; rw [h]
theorem Stp.trans {base : Nat} {μ μ1 μ2 : Mu} {H H1 H2 : Heap} {w w1 w2 : World} (h : Stp base μ H w μ1 H1 w1) (k : Stp base μ1 H1 w1 μ2 H2 w2) : Stp base μ H w μ2 H2 w2 := by
  refine ⟨h.ext.trans k.ext, Nat.le_trans h.size k.size, fun b hb hn => ?_, fun id p hi ha hp => ?_, fun id hi => ?_, Nat.le_trans h.len k.len⟩
  · rw [k.keep b (Nat.lt_of_lt_of_le hb h.size) fun id p hi ha hp hpb => ?_, h.keep b hb hn]
    rcases h.own id p hi ha hp with hs | ⟨ha0, p0, hp0, he⟩
    · omega
    · exact hn id p0 hi ha0 hp0 (he.trans hpb)
  · rcases k.own id p hi ha hp with hs | ⟨ha1, p1, hp1, he⟩
    · exact .inl (Nat.le_trans h.size hs)
    · rcases h.own id p1 hi ha1 hp1 with hs | ⟨ha0, p0, hp0, he'⟩
      · exact .inl (by omega)
      · exact .inr ⟨ha0, p0, hp0, he'.trans he⟩
  · exact ⟨(k.low id hi).1.trans (h.low id hi).1, (k.low id hi).2.trans (h.low id hi).2⟩
theorem Stp.weaken {base base' : Nat} {μ μ' : Mu} {H H' : Heap} {w w' : World} (h : Stp base' μ H w μ' H' w') (hb : base ≤ base') : Stp base μ H w μ' H' w' := by
  refine ⟨h.ext, h.size, fun b hb' hn => h.keep b hb' fun id p hi => hn id p (Nat.le_trans hb hi), fun id p hi ha hp => ?_, fun id hi => h.low id (Nat.lt_of_lt_of_le hi hb), h.len⟩
  by_cases hi' : base' ≤ id
  · exact h.own id p hi' ha hp
  · obtain ⟨e1, e2⟩ := h.low id (by omega)
    exact .inr ⟨(alive_of_eq e1).1 ha, p, e2 ▸ hp, rfl⟩

section
variable {P : Program} {B0 : Nat} {w0 : World} {gl b0 : Nat} {okC : Nat → Code → ACode → Bool}

/-- What is asked of one block. -/
def BlkR (B0 : Nat) (gl b0 : Nat) (okC : Nat → Code → ACode → Bool) (μ : Mu) (H : Heap) (w : World) (id : Nat) : ABlk → Prop
  | .cells _ _ vs => ∃ p cs el fr, μ id = some p ∧ w.heap[p.b]? = some (.cells cs el fr) ∧ cs.size = p.n ∧ p.o + vs.length ≤ p.n ∧
    (∀ j v, vs[j]? = some v → ∃ c, cs[p.o + j]? = some c ∧ VR μ H v c) ∧ (b0 ≤ id → fr = (0, 0) ∧ B0 ≤ p.b) ∧ (id < gl → fr = (0, 0))
  | .map es => ∃ b ces clk, μ id = some ⟨b, 0, 0⟩ ∧ B0 ≤ b ∧ w.heap[b]? = some (.map ces clk) ∧ MapR μ H es ces.toList
  | .loop ρ ps as bd base => b0 ≤ base ∧ LoopR B0 okC μ H w id .ready ρ ps as bd
  | .busy ρ ps as bd base => b0 ≤ base ∧ LoopR B0 okC μ H w id .busy ρ ps as bd
  | .defer => ∃ b, μ id = some ⟨b, 0, 0⟩ ∧ B0 ≤ b ∧ w.heap[b]? = some (.deferred (some []))
  | .dead | .gone => True

theorem RH.blk {μ : Mu} {H : Heap} {w : World} (h : RH B0 w0 gl b0 okC μ H w) {id : Nat} {b : ABlk} (hb : H[id]? = some b) : BlkR B0 gl b0 okC μ H w id b := by
  cases b with
  | cells g e vs => exact h.cells id g e vs hb
  | map es => exact h.maps id es hb
  | loop ρ ps as bd base => exact h.loops id ρ ps as bd base hb
  | busy ρ ps as bd base => exact h.busys id ρ ps as bd base hb
  | defer => exact h.defers id hb
  | dead => trivial
  | gone => trivial

theorem RH.of {μ : Mu} {H : Heap} {w : World} (below : Below B0 w0 w) (glob : ∀ id, id < 24 → okp H id 0 ∧ ∀ p, μ id = some p → p.b = id ∧ p.o = 0)
    (blk : ∀ id b, H[id]? = some b → BlkR B0 gl b0 okC μ H w id b)
    (inj : ∀ id id' p p', id ≠ id' → alive H id → alive H id' → μ id = some p → μ id' = some p' → (b0 ≤ id → p.b ≠ p'.b) ∧ (id < gl → id' < gl → p.b ≠ p'.b ∨ p.o ≠ p'.o)) (ext : b0 ≤ H.length)
    (gb : 24 ≤ gl ∧ gl ≤ b0 ∧ True ∧ B0 ≤ w0.heap.size) : RH B0 w0 gl b0 okC μ H w :=
  ⟨below, glob, fun id g e vs h => blk id _ h, fun id es h => blk id _ h, fun id ρ ps as bd base h => blk id _ h, fun id ρ ps as bd base h => blk id _ h, fun id h => blk id _ h, inj, ext, gb⟩

theorem alive_some {H : Heap} {id : Nat} (h : alive H id) : ∃ b, H[id]? = some b ∧ b ≠ .dead ∧ b ≠ .gone := by
  unfold alive at h
  cases hb : H[id]? with
  | none => simp [hb] at h
  | some b => cases b <;> simp [hb] at h <;> exact ⟨_, rfl, by simp, by simp⟩
theorem alive_lt {H : Heap} {id : Nat} (h : alive H id) : id < H.length := by
  obtain ⟨b, hb, _⟩ := alive_some h
  exact (List.getElem?_eq_some_iff.1 hb).1

/-- A live block has its place. -/
theorem RH.place {μ : Mu} {H : Heap} {w : World} (h : RH B0 w0 gl b0 okC μ H w) {id : Nat} (ha : alive H id) : ∃ p, μ id = some p ∧ p.b < w.heap.size ∧ (b0 ≤ id → B0 ≤ p.b) := by
  obtain ⟨b, hb, h1, h2⟩ := alive_some ha
  have hB := h.blk hb
  have lt : ∀ {i : Nat} {o : Obj}, w.heap[i]? = some o → i < w.heap.size := fun e => (Array.getElem?_eq_some_iff.1 e).1
  cases b with
  | cells g e vs => obtain ⟨p, cs, el, fr, hp, hc, _, _, _, h5, _⟩ := hB; exact ⟨p, hp, lt hc, fun hb => (h5 hb).2⟩
  | map es => obtain ⟨b, _, _, hp, hB, hc, _⟩ := hB; exact ⟨_, hp, lt hc, fun _ => hB⟩
  | loop ρ ps as bd base => obtain ⟨_, b, _, _, _, _, _, hp, hB, hc, _⟩ := hB; exact ⟨_, hp, lt hc, fun _ => hB⟩
  | busy ρ ps as bd base => obtain ⟨_, b, _, _, _, _, _, hp, hB, hc, _⟩ := hB; exact ⟨_, hp, lt hc, fun _ => hB⟩
  | defer => obtain ⟨b, hp, hB, hc⟩ := hB; exact ⟨_, hp, lt hc, fun _ => hB⟩
  | dead => exact absurd rfl h1
  | gone => exact absurd rfl h2

theorem TR.ext {μ μ' : Mu} {H H' : Heap} (x : Ext μ H μ' H') {ρ : Env} {tmps : Array Value} (h : TR μ H ρ tmps) : TR μ' H' ρ tmps := fun t v e n => (h t v e n).ext x
theorem MapR.ext {μ μ' : Mu} {H H' : Heap} (x : Ext μ H μ' H') {es : List (Int × Value)} {ces : List MapEntry} (h : MapR μ H es ces) : MapR μ' H' es ces := by
  refine ⟨h.1, fun k => ?_⟩
  have hk := h.2 k
  split at hk
  · obtain ⟨i, e, a, b, c, d⟩ := hk
    exact ⟨i, e, a, b, c.ext x, d⟩
  · exact hk
theorem LoopR.ext {μ μ' : Mu} {H H' : Heap} {w w' : World} (x : Ext μ H μ' H') {id : Nat} {st : LoopState} {ρ : Env} {ps : List Nat} {as bd : ACode} (hμ : μ' id = μ id)
    (hw : ∀ p, μ id = some p → w'.heap[p.b]? = w.heap[p.b]?) (h : LoopR B0 okC μ H w id st ρ ps as bd) : LoopR B0 okC μ' H' w' id st ρ ps as bd := by
  obtain ⟨b, cas, cbd, tmps, fn, D, hp, hB, hc, ht, hr⟩ := h
  exact ⟨b, cas, cbd, tmps, fn, D, hμ.trans hp, hB, (hw _ hp).trans hc, ht.ext x, hr⟩
theorem BlkR.ext {μ μ' : Mu} {H H' : Heap} {w w' : World} (x : Ext μ H μ' H') {id : Nat} (hμ : μ' id = μ id) (hw : ∀ p, μ id = some p → w'.heap[p.b]? = w.heap[p.b]?) {b : ABlk}
    (h : BlkR B0 gl b0 okC μ H w id b) : BlkR B0 gl b0 okC μ' H' w' id b := by
  cases b with
  | cells g e vs =>
    obtain ⟨p, cs, el, fr, hp, hc, h1, h2, h3, h4⟩ := h
    exact ⟨p, cs, el, fr, hμ.trans hp, (hw _ hp).trans hc, h1, h2, fun j v hj => let ⟨c, hc, hv⟩ := h3 j v hj; ⟨c, hc, hv.ext x⟩, h4⟩
  | map es =>
    obtain ⟨b, ces, clk, hp, hB, hc, hm⟩ := h
    exact ⟨b, ces, clk, hμ.trans hp, hB, (hw _ hp).trans hc, hm.ext x⟩
  | loop ρ ps as bd base => exact ⟨h.1, h.2.ext x hμ hw⟩
  | busy ρ ps as bd base => exact ⟨h.1, h.2.ext x hμ hw⟩
  | defer =>
    obtain ⟨b, hp, hB, hc⟩ := h
    exact ⟨b, hμ.trans hp, hB, (hw _ hp).trans hc⟩
  | dead => trivial
  | gone => trivial

/-- One block is new or has been written. -/
theorem RH.step {μ μ' : Mu} {H H' : Heap} {w w' : World} (hR : RH B0 w0 gl b0 okC μ H w) (hE : Ext μ H μ' H') (hB : Below B0 w w') {id : Nat} (hid : b0 ≤ id) (hlen : H.length ≤ H'.length)
    (hoth : ∀ j, j ≠ id → H'[j]? = H[j]? ∧ μ' j = μ j) (hheap : ∀ j p, j ≠ id → alive H j → μ j = some p → w'.heap[p.b]? = w.heap[p.b]?)
    (hinj : ∀ j p p', j ≠ id → alive H j → μ j = some p → alive H' id → μ' id = some p' → p.b ≠ p'.b)
    (hnew : ∀ b, H'[id]? = some b → BlkR B0 gl b0 okC μ' H' w' id b) : RH B0 w0 gl b0 okC μ' H' w' := by
  obtain ⟨g1, g2, g3⟩ := hR.gb
  refine RH.of (hR.below.trans hB) (fun j hj => ?_) (fun j b hb => ?_) (fun i j p p' hij ai aj hp hp' => ?_) (Nat.le_trans hR.ext hlen) hR.gb
  · obtain ⟨h1, h2⟩ := hR.glob j hj
    exact ⟨hE.okp _ _ h1, fun p hp => h2 p ((hoth j (by omega)).2 ▸ hp)⟩
  · by_cases hj : j = id
    · subst hj; exact hnew b hb
    · obtain ⟨e1, e2⟩ := hoth j hj
      rw [e1] at hb
      by_cases ha : alive H j
      · exact (hR.blk hb).ext hE e2 fun p hp => hheap j p hj ha hp
      · unfold alive at ha
        rw [hb] at ha
        cases b <;> simp at ha <;> trivial
  · by_cases hi : i = id
    · subst hi
      have hj : j ≠ i := Ne.symm hij
      obtain ⟨e1, e2⟩ := hoth j hj
      have hne : p.b ≠ p'.b := fun e => hinj j p' p hj ((alive_of_eq e1).1 aj) (e2 ▸ hp') ai hp e.symm
      exact ⟨fun _ => hne, fun _ _ => .inl hne⟩
    · obtain ⟨e1, e2⟩ := hoth i hi
      by_cases hj : j = id
      · subst hj
        have hne := hinj i p p' hi ((alive_of_eq e1).1 ai) (e2 ▸ hp) aj hp'
        exact ⟨fun _ => hne, fun _ _ => .inl hne⟩
      · obtain ⟨f1, f2⟩ := hoth j hj
        exact hR.inj0 i j p p' hij ((alive_of_eq e1).1 ai) ((alive_of_eq f1).1 aj) (e2 ▸ hp) (f2 ▸ hp')

def Mu.set (μ : Mu) (id : Nat) (p : Pl) : Mu := fun j => if j = id then some p else μ j
theorem Mu.set_same (μ : Mu) (id : Nat) (p : Pl) : μ.set id p id = some p := by simp [Mu.set]
theorem Mu.set_other (μ : Mu) (id : Nat) (p : Pl) {j : Nat} (h : j ≠ id) : μ.set id p j = μ j := by simp [Mu.set, h]

theorem put_spec {H H' : Heap} {r : Option Nat} {b : ABlk} {id : Nat} (h : H.put r b = some (id, H')) :
    (∀ g, ¬ okp H id g) ∧ ¬ alive H id ∧ H'[id]? = some b ∧ (∀ j, j ≠ id → H'[j]? = H[j]?) ∧ H.length ≤ H'.length ∧ (r = none → id = H.length) ∧ (∀ i, r = some i → id = i) := by
  unfold Heap.put at h
  split at h
  · cases h
    refine ⟨fun g => ?_, ?_, by simp, fun j hj => ?_, by simp, fun _ => rfl, fun i hi => by cases hi⟩
    · unfold okp; simp
    · unfold alive; simp
    · by_cases hlt : j < H.length
      · rw [List.getElem?_append_left hlt]
      · have hl : (H ++ [b]).length = H.length + 1 := by simp
        have : j ≠ H.length := hj
        rw [List.getElem?_eq_none (by omega : (H ++ [b]).length ≤ j), List.getElem?_eq_none (by omega : H.length ≤ j)]
  · rename_i i
    split at h <;> try contradiction
    rename_i hd
    cases h
    have hlt := (List.getElem?_eq_some_iff.1 hd).1
    refine ⟨fun g => ?_, ?_, by simp [hlt], fun j hj => by rw [List.getElem?_set_ne (Ne.symm hj)], by simp, (fun h => by cases h), fun i hi => by cases hi; rfl⟩
    · unfold okp; simp [hd]
    · unfold alive; simp [hd]

theorem Ext.of_new {μ μ' : Mu} {H H' : Heap} {id : Nat} (hn : ∀ g, ¬ AM.okp H id g) (hoth : ∀ j, j ≠ id → H'[j]? = H[j]? ∧ μ' j = μ j) : Ext μ H μ' H' := by
  have ne : ∀ {j g}, AM.okp H j g → j ≠ id := fun h e => hn _ (e ▸ h)
  refine ⟨fun j g h => ?_, fun j g e vs h ha => ?_, fun j es h ha => ?_, fun j h ha => ?_, fun j h ha => ?_⟩
  · unfold AM.okp; rw [(hoth j (ne h)).1]; exact h
  · unfold Heap.at at ha ⊢; rw [(hoth j (ne h)).1] at ha; exact ⟨⟨vs, ha⟩, (hoth j (ne h)).2⟩
  · rw [(hoth j (ne h)).1] at ha; exact ⟨⟨es, ha⟩, (hoth j (ne h)).2⟩
  · rw [(hoth j (ne h)).1] at ha; exact ⟨ha, (hoth j (ne h)).2⟩
  · rw [(hoth j (ne h)).1] at ha; exact ⟨ha, (hoth j (ne h)).2⟩

theorem World.heap_push_old {w : World} {o : Obj} {b : Nat} (hb : b < w.heap.size) : (w.heap.push o)[b]? = w.heap[b]? := by
  rw [Array.getElem?_push]; simp [Nat.ne_of_lt hb]

/-- A new block, and the program's own. -/
theorem put_step {μ : Mu} {H H' : Heap} {w : World} {r : Option Nat} {b : ABlk} {id n base : Nat} (hR : RH B0 w0 gl b0 okC μ H w) (h : H.put r b = some (id, H')) (hb0 : b0 ≤ base) (hbase : base ≤ id) (o : Obj)
    (hnew : ∀ μ' w', Ext μ H μ' H' → μ' id = some ⟨w.heap.size, 0, n⟩ → w'.heap[w.heap.size]? = some o → B0 ≤ w.heap.size → BlkR B0 gl b0 okC μ' H' w' id b) :
    RH B0 w0 gl b0 okC (μ.set id ⟨w.heap.size, 0, n⟩) H' { w with heap := w.heap.push o } ∧ Stp base μ H w (μ.set id ⟨w.heap.size, 0, n⟩) H' { w with heap := w.heap.push o } := by
  obtain ⟨h1, h2, h3, h4, h5, _⟩ := put_spec h
  obtain ⟨g1, g2, g3, g4⟩ := hR.gb
  have hsz : B0 ≤ w.heap.size := Nat.le_trans g4 hR.below.size
  have hoth : ∀ j, j ≠ id → H'[j]? = H[j]? ∧ μ.set id ⟨w.heap.size, 0, n⟩ j = μ j := fun j hj => ⟨h4 j hj, Mu.set_other _ _ _ hj⟩
  have hE := Ext.of_new h1 hoth
  have hold : ∀ k, k < w.heap.size → (w.heap.push o)[k]? = w.heap[k]? := fun k hk => World.heap_push_old hk
  refine ⟨hR.step hE ⟨rfl, rfl, rfl, by simp, fun k hk => hold k (by omega)⟩ (Nat.le_trans hb0 hbase) h5 hoth (fun j p hj ha hp => ?_) (fun j p p' hj ha hp _ hp' => ?_) (fun b' hb' => ?_), ?_⟩
  · obtain ⟨p', hp', hlt, _⟩ := hR.place ha
    rw [hp] at hp'; cases hp'
    exact hold _ hlt
  · obtain ⟨q, hq, hlt, _⟩ := hR.place ha
    rw [hp] at hq; cases hq
    rw [Mu.set_same] at hp'; cases hp'
    exact Nat.ne_of_lt hlt
  · rw [h3] at hb'; cases hb'
    exact hnew _ _ hE (Mu.set_same _ _ _) (by simp) hsz
  · refine ⟨hE, by simp, fun k hk _ => hold k hk, fun j p hj ha hp => ?_, fun j hj => hoth j (by omega), h5⟩
    by_cases hji : j = id
    · subst hji; rw [Mu.set_same] at hp; cases hp; exact .inl (Nat.le_refl _)
    · exact .inr ⟨(alive_of_eq (h4 j hji)).1 ha, p, by rw [Mu.set_other _ _ _ hji] at hp; exact ⟨hp, rfl⟩⟩

end
end Go.AM
/- The operations that make a block: the simulation. No condition. -/
namespace Go.AM
open Go.RowKit (Below)

def okNew (P : Program) : Op → AOp → Bool
  | .alloc e, .al zero => okZ P e zero
  | .box _ x, .bx _ x' => okO x x'
  | .buildSlice t len ps, .bs esz len' zero qs => len == len' && okRs ps.toList qs && okS P t esz && zero.length == esz && decide (len * esz ≤ 2 ^ 24) &&
      (match P.underlying t with | some (.slice e) => okZ P e zero | _ => false)
  | .makeSlice t l c, .ms esz bytes zero l' c' => okO l l' && okO c c' && okS P t esz && zero.length == esz &&
      (match P.underlying t with | some (.slice e) => okZ P e zero && (match P.info? e with | some i => i.bytes == bytes | none => false) | _ => false)
  | .makeMap _ none, .mm => true
  | _, _ => false

section
variable {P : Program} {B0 : Nat} {w0 : World} {gl b0 : Nat} {okC : Nat → Code → ACode → Bool} {μ : Mu} {H : Heap} {w : World} {ρ : Env} {a : Act}

/-- The operation answers a value that stands for v; memory goes on. -/
def SimO (P : Program) (B0 : Nat) (w0 : World) (gl b0 : Nat) (okC : Nat → Code → ACode → Bool) (base : Nat) (μ : Mu) (H : Heap) (w : World) (ρ' : Operand → Value) (o : Oper) (v : Value) (H' : Heap) : Prop :=
  ∃ x c w' μ', (execOp ρ' o).run P w = .ok x w' ∧ (x = .value c ∨ (x = .skip ∧ c = undef)) ∧ VR μ' H' v c ∧ RH B0 w0 gl b0 okC μ' H' w' ∧ Stp base μ H w μ' H' w'

theorem SimV.simO {base : Nat} {o : Oper} {v : Value} (hR : RH B0 w0 gl b0 okC μ H w) (h : SimV P μ H w a.eval o v) : SimO P B0 w0 gl b0 okC base μ H w a.eval o v H := by
  obtain ⟨c, w', hr, hv, hd⟩ := h
  exact ⟨_, c, w', μ, hr, .inl rfl, hv, hR.drawn hd, (Stp.refl base μ H w).drawn hd⟩

/-- A new row of cells. -/
theorem new_cells {r : Option Nat} {base g e id : Nat} {vs : List Value} {H' : Heap} (hR : RH B0 w0 gl b0 okC μ H w) (h : H.put r (.cells g e vs) = some (id, H')) (hb0 : b0 ≤ base) (hbase : base ≤ id) (cs : Array Value) (el : TypeId)
    (hle : vs.length ≤ cs.size) (hl : ∀ (j : Nat) (v : Value), vs[j]? = some v → ∃ c, cs[j]? = some c ∧ VR μ H v c) :
    ∃ μ', RH B0 w0 gl b0 okC μ' H' { w with heap := w.heap.push (.cells cs el) } ∧ Stp base μ H w μ' H' { w with heap := w.heap.push (.cells cs el) } ∧ μ' id = some ⟨w.heap.size, 0, cs.size⟩ := by
  obtain ⟨h1, h2⟩ := put_step (n := cs.size) hR h hb0 hbase (.cells cs el) fun μ' w' hE hμ hw hB => by
    obtain ⟨g1, g2, g3, g4⟩ := hR.gb
    refine ⟨_, cs, el, (0, 0), hμ, hw, rfl, by simpa using hle, fun j v hj => ?_, fun _ => ⟨rfl, hB⟩, fun _ => rfl⟩
    obtain ⟨c, hc, hv⟩ := hl j v hj
    exact ⟨c, by simpa using hc, hv.ext hE⟩
  exact ⟨_, h1, h2, Mu.set_same _ _ _⟩

theorem VR.new_ptr {μ' : Mu} {H' : Heap} {id b n : Nat} {e : Nat} {vs : List Value} (hH : H'[id]? = some (.cells 0 e vs)) (hμ : μ' id = some ⟨b, 0, n⟩) : VR μ' H' (AM.ptr id 0 0) (.pointer (some ⟨b, 0, none⟩)) := by
  refine .ptr (by unfold okp; rw [hH]; exact Nat.le_refl _) fun e vs _ => ⟨_, hμ, rfl, rfl⟩
theorem VR.new_slc {μ' : Mu} {H' : Heap} {id b n g l c esz : Nat} {e : Nat} {vs : List Value} (hH : H'[id]? = some (.cells g e vs)) (hμ : μ' id = some ⟨b, 0, n⟩) (hl : l ≤ c) (hn : c * esz ≤ n) :
    VR μ' H' (AM.slc id 0 g l esz) (.slice (some ⟨b, 0, none⟩) l c) := by
  refine .slc (by unfold okp; rw [hH]; exact Nat.le_refl _) hl fun _ e vs _ => ⟨_, hμ, rfl, rfl, fun _ => by simpa using hn⟩

theorem LR.get_arr {xs : List Value} {ys : Array Value} (h : LR μ H xs ys.toList) : ∀ (j : Nat) (v : Value), xs[j]? = some v → ∃ c, ys[j]? = some c ∧ VR μ H v c := fun j v hj => by
  obtain ⟨c, hc, hv⟩ := h.get? hj
  exact ⟨c, by simpa using hc, hv⟩

theorem reps_length (z : List Value) : ∀ n, (reps z n).length = n * z.length
  | 0 => by simp [reps]
  | n + 1 => by rw [reps, List.length_append, reps_length z n, Nat.add_mul]; omega
theorem reps_get (z : List Value) : ∀ (n j : Nat), j < n * z.length → (reps z n)[j]? = z[j % z.length]?
  | 0, j, h => by simp at h
  | n + 1, j, h => by
    rw [reps]
    by_cases hj : j < z.length
    · rw [List.getElem?_append_left hj, Nat.mod_eq_of_lt hj]
    · rw [List.getElem?_append_right (by omega), reps_get z n _ (by rw [Nat.add_mul] at h; omega)]
      congr 1
      rw [Nat.mod_eq_sub_mod (by omega : z.length ≤ j)]

/-- The cells of so many zero values, as the program makes them. -/
theorem made_LR {zero : List Value} {z : Array Value} (hz : z.toList = zero) (hl : LR μ H zero z.toList) (n : Nat) : LR μ H (reps zero n) ((Array.range (n * z.size)).map (z[· % z.size]!)).toList := by
  have hsz : z.size = zero.length := by rw [← hz]; simp
  refine LR.of (by simp [reps_length, hsz]) fun i => ?_
  by_cases hi : i < n * zero.length
  · have hpos : 0 < zero.length := by
      rcases Nat.eq_zero_or_pos zero.length with h | h
      · rw [h] at hi; omega
      · exact h
    have hm : i % zero.length < zero.length := Nat.mod_lt _ hpos
    have e1 : (reps zero n)[i]? = some zero[i % zero.length] := by rw [reps_get zero n i hi]; simp [hm]
    have e2 : ((Array.range (n * z.size)).map (z[· % z.size]!)).toList[i]? = some (z[i % z.size]!) := by simp [hsz, hi]
    have e3 : z[i % z.size]! = zero[i % zero.length] := by
      have : z[i % z.size]? = some zero[i % zero.length] := by
        rw [← Array.getElem?_toList, hz, hsz]; simp [hm]
      rw [getElem!_def, this]
    rw [List.getD, List.getD, e1, e2, e3]
    have := hl.get? (i := i % zero.length) (x := zero[i % zero.length]) (by simp [hm])
    obtain ⟨y, hy, hv⟩ := this
    rw [hz] at hy
    simp [hm] at hy
    simpa [hy] using hv
  · have : (reps zero n).getD i AM.undf = AM.undf := by
      have : (reps zero n)[i]? = none := List.getElem?_eq_none (by rw [reps_length]; omega)
      simp [List.getD, this]
    rw [this]; exact .undf _

variable {base id : Nat} {r : Option Nat} {k : Nat → Value} {b : ABlk} {H' : Heap}
variable (hR : RH B0 w0 gl b0 okC μ H w) (hT : TR μ H ρ a.tmps) (hb0 : b0 ≤ base) (hbase : base ≤ id)
include hR hT hb0 hbase

theorem sim_al {o : Oper} {zero : List Value} (hok : okNew P o.op (.al zero) = true) (hv : AOp.mkBlk ρ (.al zero) = some (k, b)) (hp : H.put r b = some (id, H')) : SimO P B0 w0 gl b0 okC base μ H w a.eval o (k id) H' := by
  obtain ⟨d, op', t, p, af, g⟩ := o
  cases op' <;> simp [okNew] at hok
  rename_i el
  obtain ⟨i, z, hi, hz, hzc, hl⟩ := okZ_inv hok
  simp only [AOp.mkBlk, Option.some.injEq, Prod.mk.injEq] at hv
  obtain ⟨rfl, rfl⟩ := hv
  have hl' := hl μ H
  obtain ⟨μ', h1, h2, h3⟩ := new_cells hR hp hb0 hbase z.cells el (by have := hl'.length; simp at this; omega) hl'.get_arr
  refine ⟨_, .pointer (some ⟨w.heap.size, 0, none⟩), _, μ', ?_, .inl rfl, VR.new_ptr (put_spec hp).2.2.1 h3, h1, h2⟩
  simp [execOp, Instr.alloc, run_zero hi hz, newVar, newRow]

theorem sim_bx {o : Oper} {n : Nat} {x' : Opnd} (hok : okNew P o.op (.bx n x') = true) (hv : AOp.mkBlk ρ (.bx n x') = some (k, b)) (hp : H.put r b = some (id, H')) : SimO P B0 w0 gl b0 okC base μ H w a.eval o (k id) H' := by
  obtain ⟨d, op', t, p, af, g⟩ := o
  cases op' <;> simp [okNew] at hok
  rename_i el x
  simp only [AOp.mkBlk] at hv
  split at hv <;> try contradiction
  rename_i v e1
  split at hv <;> try contradiction
  rename_i hc
  simp only [Option.some.injEq, Prod.mk.injEq] at hv
  obtain ⟨rfl, rfl⟩ := hv
  have hl' := (ev_sim hok hR hT e1).list hc.2
  obtain ⟨μ', h1, h2, h3⟩ := new_cells hR hp hb0 hbase (a.eval x).cells el (by have := hl'.length; simp at this; omega) hl'.get_arr
  refine ⟨_, .pointer (some ⟨w.heap.size, 0, none⟩), _, μ', ?_, .inl rfl, VR.new_ptr (put_spec hp).2.2.1 h3, h1, h2⟩
  simp [execOp, Instr.box, newVar, newRow]

theorem okRs_PR {esz : Nat} : ∀ (ps : List (Nat × Operand)) (qs : List (Nat × Opnd)) {vs : List (Nat × Nat × Value)}, okRs ps qs = true → evqs ρ esz qs = some vs →
    PR μ H (fun i => some (i * esz, esz)) vs (ps.map fun (i, x) => (i, a.eval x))
  | [], [], vs, _, h => by simp [evqs] at h; subst h; exact .nil
  | [], _ :: _, _, h, _ => by simp [okRs] at h
  | _ :: _, [], _, h, _ => by simp [okRs] at h
  | (i, x) :: ps, (j, y) :: qs, vs, hok, h => by
    simp only [okRs, Bool.and_eq_true, beq_iff_eq] at hok
    obtain ⟨⟨rfl, h1⟩, h3⟩ := hok
    simp only [evqs] at h
    split at h <;> try contradiction
    rename_i v l e1 e2
    cases h
    exact .cons rfl (ev_sim h1 hR hT e1) (okRs_PR ps qs h3 e2)

theorem sim_bs {o : Oper} {esz m : Nat} {zero : List Value} {qs : List (Nat × Opnd)} (hok : okNew P o.op (.bs esz m zero qs) = true) (hv : AOp.mkBlk ρ (.bs esz m zero qs) = some (k, b)) (hp : H.put r b = some (id, H')) : SimO P B0 w0 gl b0 okC base μ H w a.eval o (k id) H' := by
  obtain ⟨d, op', t, p, af, g⟩ := o
  cases op' <;> simp only [okNew, Bool.false_eq_true] at hok
  rename_i t len ps
  simp only [Bool.and_eq_true, beq_iff_eq, decide_eq_true_eq] at hok
  obtain ⟨⟨⟨⟨⟨rfl, h1⟩, h2⟩, h3⟩, h4⟩, h5⟩ := hok
  obtain ⟨e, hu, he, de, hde⟩ := okS_inv h2
  rw [hu] at h5
  obtain ⟨i, z, hi, hz, hzc, hl⟩ := okZ_inv h5
  simp only [AOp.mkBlk] at hv
  split at hv <;> try contradiction
  rename_i vps e1
  split at hv <;> try contradiction
  rename_i cs hf
  simp only [Option.some.injEq, Prod.mk.injEq] at hv
  obtain ⟨rfl, rfl⟩ := hv
  have hzs : z.cells.size = esz := by rw [← h3, ← hzc]; simp
  have hm := made_LR hzc (hl μ H) len
  rw [hzs] at hm
  obtain ⟨cs', hc, hl'⟩ := fill_sim (okRs_PR hR hT hb0 hbase _ _ h1 e1) hm hf
  have hlen := hl'.length
  obtain ⟨μ', k1, k2, k3⟩ := new_cells hR hp hb0 hbase cs' e (by simp at hlen; omega) hl'.get_arr
  have hsz' : len * esz ≤ cs'.size := by
    have hfl : ∀ (ps : List (Nat × Nat × Value)) (vs vs' : List Value), fillAt vs ps = some vs' → vs'.length = vs.length := by
      intro ps
      induction ps with
      | nil => intro vs vs' h; cases h; rfl
      | cons x ps ih =>
        intro vs vs' h
        obtain ⟨o, n, v⟩ := x
        simp only [fillAt] at h
        split at h <;> try contradiction
        rw [ih _ _ h, setAll_length]
    have := hfl _ _ _ hf
    rw [reps_length, h3] at this
    simp at hlen; omega
  refine ⟨_, .slice (some ⟨w.heap.size, 0, none⟩) len len, _, μ', ?_, .inl rfl, VR.new_slc (put_spec hp).2.2.1 k3 (Nat.le_refl _) hsz', k1, k2⟩
  simp only [execOp, Instr.buildSlice, Sem.run_bind, run_underlying hu, Result.andThen_ok, run_sizeOf hde, he, show ¬ (len * esz > 2 ^ 24) by omega, if_false, Sem.run_pure, Array.toList_map]
  by_cases h0 : len * esz = 0
  · have hr : ∀ f : Nat → Value, (Array.range 0).map f = #[] := fun f => by simp
    simp only [h0, hr] at hc
    simp only [h0, if_true, Sem.run_bind, Sem.run_pure, Result.andThen_ok, hr, hc]
    simp [newRow]
  · simp only [h0, if_false, Sem.run_bind, run_zero hi hz, Sem.run_pure, Result.andThen_ok, hzs, hc]
    simp [newRow]

theorem sim_ms {o : Oper} {esz bytes : Nat} {zero : List Value} {l' c' : Opnd} (hok : okNew P o.op (.ms esz bytes zero l' c') = true) (hv : AOp.mkBlk ρ (.ms esz bytes zero l' c') = some (k, b)) (hp : H.put r b = some (id, H')) : SimO P B0 w0 gl b0 okC base μ H w a.eval o (k id) H' := by
  obtain ⟨d, op', t, p, af, g⟩ := o
  cases op' <;> simp only [okNew, Bool.false_eq_true] at hok
  rename_i t lo co
  simp only [Bool.and_eq_true, beq_iff_eq] at hok
  obtain ⟨⟨⟨⟨h1, h2⟩, h3⟩, h4⟩, h5⟩ := hok
  obtain ⟨e, hu, he, de, hde⟩ := okS_inv h3
  rw [hu] at h5
  simp only [Bool.and_eq_true] at h5
  obtain ⟨h5, h6⟩ := h5
  obtain ⟨i, z, hi, hz, hzc, hl⟩ := okZ_inv h5
  rw [hi] at h6
  simp only [beq_iff_eq] at h6
  simp only [AOp.mkBlk] at hv
  split at hv <;> try contradiction
  rename_i l c e1 e2
  split at hv <;> try contradiction
  rename_i hc
  obtain ⟨c1, c2, c3, c4⟩ := hc
  simp only [Option.some.injEq, Prod.mk.injEq] at hv
  obtain ⟨rfl, rfl⟩ := hv
  obtain ⟨kl, el⟩ := asI_inv h1 hR hT e1
  obtain ⟨kc, ec⟩ := asI_inv h2 hR hT e2
  have wl : IntKind.i64.wrap l = l := by rw [IntKind.wrap_i64]; omega
  have wc : IntKind.i64.wrap c = c := by rw [IntKind.wrap_i64]; omega
  have hzs : z.cells.size = esz := by rw [← h4, ← hzc]; simp
  have hm := made_LR hzc (hl μ H) c.toNat
  rw [hzs] at hm
  have hpre : ∀ (j : Nat) (v : Value), (reps zero l.toNat)[j]? = some v → ∃ y, ((Array.range (c.toNat * esz)).map (z.cells[· % esz]!))[j]? = some y ∧ VR μ H v y := by
    intro j v hj
    have hjl : j < (reps zero l.toNat).length := (List.getElem?_eq_some_iff.1 hj).1
    rw [reps_length] at hjl
    refine hm.get_arr j v ?_
    rw [reps_get zero l.toNat j hjl] at hj
    rw [reps_get zero c.toNat j (Nat.lt_of_lt_of_le hjl (Nat.mul_le_mul_right _ (by omega))), hj]
  have hcle : (reps zero l.toNat).length ≤ ((Array.range (c.toNat * esz)).map (z.cells[· % esz]!)).size := by
    rw [reps_length, h4]; simp; exact Nat.mul_le_mul_right _ (by omega)
  obtain ⟨μ', k1, k2, k3⟩ := new_cells hR hp hb0 hbase _ e hcle hpre
  refine ⟨_, .slice (some ⟨w.heap.size, 0, none⟩) l.toNat c.toNat, _, μ', ?_, .inl rfl, VR.new_slc (put_spec hp).2.2.1 k3 (by omega) (by simp), k1, k2⟩
  have hbytes : ¬ ((bytes : Int) * c > 2 ^ 48) := by
    have : (bytes : Int) * c = c * bytes := Int.mul_comm _ _
    omega
  simp only [execOp, Instr.makeSlice, Sem.run_bind, run_underlying hu, Result.andThen_ok, el, ec, asInt, asIntOf, Sem.run_pure, wl, wc, typeInfo, run_program, hi, h6]
  have hcond : (decide (c < 0) || decide ((bytes : Int) * c > 2 ^ 48) || decide (l < 0) || decide (l > c)) = false := by
    simp only [hbytes, decide_false, Bool.or_false, Bool.or_eq_false_iff, decide_eq_false_iff_not]
    omega
  simp only [hcond, Bool.false_eq_true, if_false, Sem.run_pure, Result.andThen_ok, run_askRoom, Sem.run_bind, run_sizeOf hde, he]
  by_cases h0 : c.toNat * esz = 0
  · have hr : ∀ f : Nat → Value, (Array.range 0).map f = #[] := fun f => by simp
    simp only [h0, hr] at k1 k2
    simp only [h0, if_true, Sem.run_bind, Sem.run_pure, Result.andThen_ok, hr]
    simp [newRow]
  · simp only [h0, if_false, Sem.run_bind, run_zero hi hz, Sem.run_pure, Result.andThen_ok, hzs]
    simp [newRow]

theorem sim_mm {o : Oper} (hok : okNew P o.op .mm = true) (hv : AOp.mkBlk ρ .mm = some (k, b)) (hp : H.put r b = some (id, H')) : SimO P B0 w0 gl b0 okC base μ H w a.eval o (k id) H' := by
  obtain ⟨d, op', t, p, af, g⟩ := o
  cases op' <;> simp only [okNew, Bool.false_eq_true] at hok
  rename_i t rs
  cases rs <;> simp [okNew] at hok
  simp only [AOp.mkBlk, Option.some.injEq, Prod.mk.injEq] at hv
  obtain ⟨rfl, rfl⟩ := hv
  obtain ⟨h1, h2⟩ := put_step (n := 0) hR hp hb0 hbase (.map #[] 0) fun μ' w' hE hμ hw hB =>
    ⟨_, #[], 0, hμ, hB, hw, by simp, fun k => by simp⟩
  refine ⟨_, .map (some w.heap.size), _, _, ?_, .inl rfl, ?_, h1, h2⟩
  · simp [execOp, Instr.makeMap]
  · refine .map (by unfold okp; rw [(put_spec hp).2.2.1]; trivial) fun es _ => Mu.set_same _ _ _

theorem sim_new {o : Oper} {x : AOp} (hok : okNew P o.op x = true) (hv : AOp.mkBlk ρ x = some (k, b)) (hp : H.put r b = some (id, H')) : SimO P B0 w0 gl b0 okC base μ H w a.eval o (k id) H' := by
  cases x with
  | al z => exact sim_al hR hT hb0 hbase hok hv hp
  | bx n x => exact sim_bx hR hT hb0 hbase hok hv hp
  | bs e m z ps => exact sim_bs hR hT hb0 hbase hok hv hp
  | ms e b z l c => exact sim_ms hR hT hb0 hbase hok hv hp
  | mm => exact sim_mm hR hT hb0 hbase hok hv hp
  | _ => simp [AOp.mkBlk] at hv

end
end Go.AM
/- The operations that write: the simulation, 1: memory. No condition. -/
namespace Go.AM
open Go.RowKit (Below)

section
variable {P : Program} {B0 : Nat} {w0 : World} {gl b0 : Nat} {okC : Nat → Code → ACode → Bool} {μ : Mu} {H : Heap} {w : World} {ρ : Env} {a : Act}

theorem setAll_spec : ∀ (x vs : List Value) (o : Nat), o + x.length ≤ vs.length → setAll vs o x = vs.take o ++ x ++ vs.drop (o + x.length)
  | [], vs, o, _ => by simp [setAll]
  | v :: l, vs, o, h => by
    simp only [List.length_cons] at h
    rw [setAll, setAll_spec l (vs.set o v) (o + 1) (by simp; omega)]
    rw [List.set_eq_take_append_cons_drop, if_pos (by omega)]
    have h1 : (vs.take o ++ v :: vs.drop (o + 1)).take (o + 1) = vs.take o ++ [v] := by
      rw [List.take_append, List.take_of_length_le (by simp; omega)]
      have : o + 1 - (vs.take o).length = 1 := by simp; omega
      rw [this]; simp
    have h2 : (vs.take o ++ v :: vs.drop (o + 1)).drop (o + 1 + l.length) = vs.drop (o + (l.length + 1)) := by
      rw [List.drop_append, List.drop_of_length_le (by simp; omega)]
      have : o + 1 + l.length - (vs.take o).length = l.length + 1 := by simp; omega
      rw [this]; simp [List.drop_drop]; congr 1; omega
    rw [h1, h2]; simp
theorem setAll_get (x vs : List Value) (o : Nat) (h : o + x.length ≤ vs.length) (j : Nat) : (setAll vs o x)[j]? = if o ≤ j ∧ j < o + x.length then x[j - o]? else vs[j]? := by
  rw [setAll_spec x vs o h]
  by_cases h1 : j < o
  · rw [if_neg (by omega), List.append_assoc, List.getElem?_append_left (by simp; omega)]
    simp [h1]
  · by_cases h2 : j < o + x.length
    · rw [if_pos (by omega), List.append_assoc, List.getElem?_append_right (by simp; omega), List.getElem?_append_left (by simp; omega)]
      congr 1; simp; omega
    · rw [if_neg (by omega), List.getElem?_append_right (by simp; omega)]
      simp
      congr 1; omega

theorem set_get {H : Heap} {id : Nat} {b b' : ABlk} (h : H[id]? = some b) : (H.set id b')[id]? = some b' ∧ ∀ j, j ≠ id → (H.set id b')[j]? = H[j]? := by
  have hlt := (List.getElem?_eq_some_iff.1 h).1
  exact ⟨by simp [hlt], fun j hj => List.getElem?_set_ne (Ne.symm hj)⟩

theorem Ext.of_set {μ μ' : Mu} {H : Heap} {id g g' e e' : Nat} {vs vs' : List Value} (h : H[id]? = some (.cells g e vs)) (hg : g ≤ g') (hsame : g = g' → e = e' ∧ μ' id = μ id) (hoth : ∀ j, j ≠ id → μ' j = μ j) : Ext μ H μ' (H.set id (.cells g' e' vs')) := by
  obtain ⟨h1, h2⟩ := set_get (b' := .cells g' e' vs') h
  refine ⟨fun j k hk => ?_, fun j k e2 vs2 hk ha => ?_, fun j es hk ha => ?_, fun j hk ha => ?_, fun j hk ha => ?_⟩
  · by_cases hj : j = id
    · subst hj; unfold AM.okp at hk ⊢; rw [h] at hk; rw [h1]; exact Nat.le_trans hk hg
    · unfold AM.okp at hk ⊢; rw [h2 j hj]; exact hk
  · by_cases hj : j = id
    · subst hj
      unfold AM.okp at hk; rw [h] at hk
      unfold Heap.at at ha ⊢
      rw [h1] at ha
      simp only at ha hk
      split at ha <;> try contradiction
      rename_i hgk
      cases ha
      have hgg : g = g' := Nat.le_antisymm hg (by omega)
      obtain ⟨rfl, hm⟩ := hsame hgg
      rw [h]
      exact ⟨⟨vs, by simp only; rw [if_pos (by omega)]⟩, hm⟩
    · unfold Heap.at at ha ⊢; rw [h2 j hj] at ha; exact ⟨⟨vs2, ha⟩, hoth j hj⟩
  · by_cases hj : j = id
    · subst hj; rw [h1] at ha; cases ha
    · rw [h2 j hj] at ha; exact ⟨⟨es, ha⟩, hoth j hj⟩
  · by_cases hj : j = id
    · subst hj; rw [h1] at ha; exact ha.elim
    · rw [h2 j hj] at ha; exact ⟨ha, hoth j hj⟩
  · by_cases hj : j = id
    · subst hj; rw [h1] at ha; cases ha
    · rw [h2 j hj] at ha; exact ⟨ha, hoth j hj⟩

theorem alive_cells {H : Heap} {id g e : Nat} {vs : List Value} (h : H[id]? = some (.cells g e vs)) : alive H id := by unfold alive; rw [h]; trivial

/-- Cells of a live block are written in place. -/
theorem store_step {base id g e o : Nat} {vs l cl : List Value} (hR : RH B0 w0 gl b0 okC μ H w) (hb0 : b0 ≤ base) (hbase : base ≤ id) (ha : H[id]? = some (.cells g e vs)) (hle : o + l.length ≤ vs.length) (hl : LR μ H l cl) (h1 : ∀ y ∈ cl, y.oneCell' = true) :
    ∃ p w', μ id = some p ∧ (storeCells ⟨p.b, p.o + o, none⟩ cl).run P w = .ok () w' ∧ RH B0 w0 gl b0 okC μ (H.set id (.cells g e (setAll vs o l))) w' ∧ Stp base μ H w μ (H.set id (.cells g e (setAll vs o l))) w' := by
  obtain ⟨p, cs, el, fr, hp, hb, hsz, hpn, hcs, hfr, _⟩ := hR.cells id g e vs ha
  obtain ⟨rfl, hB⟩ := hfr (Nat.le_trans hb0 hbase)
  have hlen := hl.length
  have hrun := run_storeCells_at (P := P) p.b (p.o + o) el cl 0 cs w hb (by omega) h1
  simp only [Nat.add_zero] at hrun
  rw [← setAll_spec cl cs.toList (p.o + o) (by simp; omega)] at hrun
  refine ⟨p, _, hp, hrun, ?_⟩
  obtain ⟨s1, s2⟩ := set_get (b' := .cells g e (setAll vs o l)) ha
  have hE : Ext μ H μ (H.set id (.cells g e (setAll vs o l))) := Ext.of_set ha (Nat.le_refl _) (fun _ => ⟨rfl, rfl⟩) fun _ _ => rfl
  have hoth : ∀ j, j ≠ id → (H.set id (.cells g e (setAll vs o l)))[j]? = H[j]? ∧ μ j = μ j := fun j hj => ⟨s2 j hj, rfl⟩
  have hlt : p.b < w.heap.size := (Array.getElem?_eq_some_iff.1 hb).1
  refine ⟨hR.step hE ⟨rfl, rfl, rfl, by simp, fun k hk => setRow_other _ _ _ _ (by omega)⟩ (Nat.le_trans hb0 hbase) (by simp) hoth (fun j q hj hal hq => setRow_other _ _ _ _ ?_) (fun j q q' hj hal hq _ hq' => ?_) (fun b hbb => ?_), ?_⟩
  · exact (hR.inj id j p q (Ne.symm hj) (alive_cells ha) hal hp hq (.inl (Nat.le_trans hb0 hbase))).symm
  · rw [hp] at hq'; cases hq'
    exact (hR.inj id j p q (Ne.symm hj) (alive_cells ha) hal hp hq (.inl (Nat.le_trans hb0 hbase))).symm
  · rw [s1] at hbb; cases hbb
    refine ⟨p, _, el, (0, 0), hp, setRow_heap w p.b cs _ el _ hb, ?_, ?_, fun j v hj => ?_, fun _ => ⟨rfl, hB⟩, fun _ => rfl⟩
    · simp [setAll_length, hsz]
    · rw [setAll_length]; exact hpn
    · rw [setAll_get l vs o hle] at hj
      simp only [List.getElem?_toArray]
      rw [setAll_get cl cs.toList (p.o + o) (by simp; omega)]
      split at hj
      · rename_i hc
        rw [if_pos (by omega)]
        obtain ⟨y, hy, hv⟩ := hl.get? hj
        exact ⟨y, by rw [← hy]; congr 1; omega, hv.ext hE⟩
      · rename_i hc
        rw [if_neg (by omega)]
        obtain ⟨y, hy, hv⟩ := hcs j v hj
        exact ⟨y, by simpa using hy, hv.ext hE⟩
  · refine ⟨hE, by simp, fun k hk hn => setRow_other _ _ _ _ fun e => hn id p hbase (alive_cells ha) hp e.symm, fun j q hj hal hq => .inr ⟨?_, q, hq, rfl⟩, fun j hj => ⟨s2 j (by omega), rfl⟩, by simp⟩
    by_cases hji : j = id
    · subst hji; exact alive_cells ha
    · exact (alive_of_eq (s2 j hji)).1 hal

theorem at_of {id g e : Nat} {vs : List Value} (h : H[id]? = some (.cells g e vs)) : H.at id g = some (e, vs) := by unfold Heap.at; rw [h]; simp

/-- A row that has grown where it lay. -/
theorem grow_here {base id g e esz off n m c : Nat} {vs new cl : List Value} (hR : RH B0 w0 gl b0 okC μ H w) (hb0 : b0 ≤ base) (hbase : base ≤ id) (ha : H[id]? = some (.cells g e vs)) (hoff : off + n * esz ≤ vs.length)
    (p : Pl) (hp : μ id = some p) (hcap : p.o + off + c * esz ≤ p.n) (hnm : n + m ≤ c) (hnew : new.length = m * esz) (hl : LR μ H new cl) (h1 : ∀ y ∈ cl, y.oneCell' = true) :
    ∃ w' μ', (storeCells ⟨p.b, p.o + off + n * esz, none⟩ cl).run P w = .ok () w' ∧ μ' id = some ⟨p.b, p.o + off, p.n⟩ ∧
      RH B0 w0 gl b0 okC μ' (H.set id (.cells (g + 1) esz ((vs.drop off).take (n * esz) ++ new))) w' ∧ Stp base μ H w μ' (H.set id (.cells (g + 1) esz ((vs.drop off).take (n * esz) ++ new))) w' := by
  obtain ⟨p', cs, el, fr, hp', hb, hsz, hpn, hcs, hfr, _⟩ := hR.cells id g e vs ha
  rw [hp] at hp'; cases hp'
  obtain ⟨rfl, hB⟩ := hfr (Nat.le_trans hb0 hbase)
  have hlen := hl.length
  have hm : n * esz + m * esz ≤ c * esz := by rw [← Nat.add_mul]; exact Nat.mul_le_mul_right _ hnm
  have hrun := run_storeCells_at (P := P) p.b (p.o + off + n * esz) el cl 0 cs w hb (by omega) h1
  simp only [Nat.add_zero] at hrun
  rw [← setAll_spec cl cs.toList (p.o + off + n * esz) (by simp; omega)] at hrun
  refine ⟨_, μ.set id ⟨p.b, p.o + off, p.n⟩, hrun, Mu.set_same _ _ _, ?_⟩
  generalize hbl : ABlk.cells (g + 1) esz ((vs.drop off).take (n * esz) ++ new) = bl
  obtain ⟨s1, s2⟩ := set_get (b' := bl) ha
  have hE : Ext μ H (μ.set id ⟨p.b, p.o + off, p.n⟩) (H.set id bl) := by subst hbl; exact Ext.of_set ha (by omega) (fun h => by omega) fun _ hj => Mu.set_other _ _ _ hj
  have hoth : ∀ j, j ≠ id → (H.set id bl)[j]? = H[j]? ∧ μ.set id ⟨p.b, p.o + off, p.n⟩ j = μ j := fun j hj => ⟨s2 j hj, Mu.set_other _ _ _ hj⟩
  have hinj : ∀ j q, j ≠ id → alive H j → μ j = some q → q.b ≠ p.b := fun j q hj hal hq => (hR.inj id j p q (Ne.symm hj) (alive_cells ha) hal hp hq (.inl (Nat.le_trans hb0 hbase))).symm
  refine ⟨hR.step hE ⟨rfl, rfl, rfl, by simp, fun k hk => setRow_other _ _ _ _ (by omega)⟩ (Nat.le_trans hb0 hbase) (by simp) hoth (fun j q hj hal hq => setRow_other _ _ _ _ (hinj j q hj hal hq)) (fun j q q' hj hal hq _ hq' => ?_) (fun b hbb => ?_), ?_⟩
  · rw [Mu.set_same] at hq'; cases hq'
    exact hinj j q hj hal hq
  · rw [s1] at hbb; cases hbb; subst hbl
    refine ⟨_, _, el, (0, 0), Mu.set_same _ _ _, setRow_heap w p.b cs _ el _ hb, ?_, ?_, fun j v hj => ?_, fun _ => ⟨rfl, hB⟩, fun _ => rfl⟩
    · simp [setAll_length, hsz]
    · simp; omega
    · simp only [List.getElem?_toArray]
      rw [setAll_get cl cs.toList (p.o + off + n * esz) (by simp; omega)]
      have htl : ((vs.drop off).take (n * esz)).length = n * esz := by simp; omega
      by_cases hjn : j < n * esz
      · rw [List.getElem?_append_left (by omega)] at hj
        rw [if_neg (by omega)]
        rw [List.getElem?_take, if_pos hjn, List.getElem?_drop] at hj
        obtain ⟨y, hy, hv⟩ := hcs _ v hj
        exact ⟨y, by rw [← Nat.add_assoc] at hy; simpa using hy, hv.ext hE⟩
      · rw [List.getElem?_append_right (by omega), htl] at hj
        have hjm : j - n * esz < new.length := (List.getElem?_eq_some_iff.1 hj).1
        rw [if_pos (by omega)]
        obtain ⟨y, hy, hv⟩ := hl.get? hj
        exact ⟨y, by rw [← hy]; congr 1; omega, hv.ext hE⟩
  · refine ⟨hE, by simp, fun k hk hn => setRow_other _ _ _ _ fun e => hn id p hbase (alive_cells ha) hp e.symm, fun j q hj hal hq => ?_, fun j hj => hoth j (by omega), by simp⟩
    by_cases hji : j = id
    · subst hji
      rw [Mu.set_same] at hq; cases hq
      exact .inr ⟨alive_cells ha, p, hp, rfl⟩
    · rw [Mu.set_other _ _ _ hji] at hq
      exact .inr ⟨(alive_of_eq (s2 j hji)).1 hal, q, hq, rfl⟩

/-- A row that has grown elsewhere. -/
theorem grow_there {base id g e g' esz : Nat} {vs vs' : List Value} (hR : RH B0 w0 gl b0 okC μ H w) (hb0 : b0 ≤ base) (hbase : base ≤ id) (ha : H[id]? = some (.cells g e vs)) (hg : g < g') (cs : Array Value) (el : TypeId)
    (hle : vs'.length ≤ cs.size) (hl : ∀ (j : Nat) (v : Value), vs'[j]? = some v → ∃ c, cs[j]? = some c ∧ VR μ H v c) :
    RH B0 w0 gl b0 okC (μ.set id ⟨w.heap.size, 0, cs.size⟩) (H.set id (.cells g' esz vs')) { w with heap := w.heap.push (.cells cs el) } ∧
      Stp base μ H w (μ.set id ⟨w.heap.size, 0, cs.size⟩) (H.set id (.cells g' esz vs')) { w with heap := w.heap.push (.cells cs el) } := by
  obtain ⟨g1, g2, g3, g4⟩ := hR.gb
  have hsz : B0 ≤ w.heap.size := Nat.le_trans g4 hR.below.size
  generalize hbl : ABlk.cells g' esz vs' = bl
  obtain ⟨s1, s2⟩ := set_get (b' := bl) ha
  have hE : Ext μ H (μ.set id ⟨w.heap.size, 0, cs.size⟩) (H.set id bl) := by subst hbl; exact Ext.of_set ha (by omega) (fun h => by omega) fun _ hj => Mu.set_other _ _ _ hj
  have hoth : ∀ j, j ≠ id → (H.set id bl)[j]? = H[j]? ∧ μ.set id ⟨w.heap.size, 0, cs.size⟩ j = μ j := fun j hj => ⟨s2 j hj, Mu.set_other _ _ _ hj⟩
  have hold : ∀ k, k < w.heap.size → (w.heap.push (Obj.cells cs el))[k]? = w.heap[k]? := fun k hk => World.heap_push_old hk
  have hpl : ∀ j q, alive H j → μ j = some q → q.b < w.heap.size := fun j q hal hq => by
    obtain ⟨p', hp', hlt, _⟩ := hR.place hal
    rw [hq] at hp'; cases hp'; exact hlt
  refine ⟨hR.step hE ⟨rfl, rfl, rfl, by simp, fun k hk => hold k (by omega)⟩ (Nat.le_trans hb0 hbase) (by simp) hoth (fun j q hj hal hq => hold _ (hpl j q hal hq)) (fun j q q' hj hal hq _ hq' => ?_) (fun b hbb => ?_), ?_⟩
  · rw [Mu.set_same] at hq'; cases hq'
    exact Nat.ne_of_lt (hpl j q hal hq)
  · rw [s1] at hbb; cases hbb; subst hbl
    refine ⟨_, cs, el, (0, 0), Mu.set_same _ _ _, by simp, rfl, by simpa using hle, fun j v hj => ?_, fun _ => ⟨rfl, hsz⟩, fun _ => rfl⟩
    obtain ⟨y, hy, hv⟩ := hl j v hj
    exact ⟨y, by simpa using hy, hv.ext hE⟩
  · refine ⟨hE, by simp, fun k hk _ => hold k hk, fun j q hj hal hq => ?_, fun j hj => hoth j (by omega), by simp⟩
    by_cases hji : j = id
    · subst hji
      rw [Mu.set_same] at hq; cases hq
      exact .inl (Nat.le_refl _)
    · rw [Mu.set_other _ _ _ hji] at hq
      exact .inr ⟨(alive_of_eq (s2 j hji)).1 hal, q, hq, rfl⟩

end
end Go.AM
/- The operations that write: the simulation, 2. No condition. -/
namespace Go.AM
open Go.RowKit (Below)

def okElem (P : Program) (t : TypeId) (esz bytes : Nat) : Bool :=
  match P.underlying t with
  | some (.slice e) => P.cellsOf e == esz && (match P.info? e with
    | some i => i.bytes == bytes && (match i.zero with | some z => z.cells.size == esz | none => false)
    | none => false)
  | _ => false

def okWr (P : Program) : Op → AOp → Bool
  | .store t a x, .st n a' x' => okO a a' && okO x x' && P.cellsOf t == n && (P.info? t).isSome
  | .call { callee := .builtin .append, args, argTypes }, .app esz bytes s x => okOs args.toList [s, x] && (match argTypes[0]?, argTypes[1]? with
    | some t, some t' => okElem P t esz bytes && (match P.underlying t' with | some (.slice _) => true | _ => false)
    | _, _ => false)
  | .call { callee := .builtin .append, args, argTypes }, .apt s x => okOs args.toList [s, x] && (match argTypes[0]?, argTypes[1]? with
    | some t, some t' => okElem P t 1 1 && okStr P t'
    | _, _ => false)
  | .call { callee := .builtin .copy, args, argTypes }, .copy esz d s => okOs args.toList [d, s] && (match argTypes[0]? with
    | some t => okS P t esz
    | _ => false)
  | .call { callee := .builtin .clear, args, argTypes }, .clear zero x => okOs args.toList [x] && (match argTypes[0]? with
    | some t => (match P.underlying t with | some (.slice e) => okZ P e zero && zero.all oneCell | _ => false)
    | _ => false)
  | .mapUpdate t m k x, .mup m' k' x' => okO m m' && okO k k' && okO x x' && (match P.underlying t with
    | some (.map kt _) => (match P.underlying kt with | some (.int .i64) => true | _ => false)
    | _ => false)
  | _, _ => false

section
variable {P : Program} {B0 : Nat} {w0 : World} {gl b0 : Nat} {okC : Nat → Code → ACode → Bool} {μ : Mu} {H : Heap} {w : World} {ρ : Env} {a : Act}

theorem okElem_inv {t : TypeId} {esz bytes : Nat} (h : okElem P t esz bytes = true) : ∃ e i z, P.underlying t = some (.slice e) ∧ P.info? e = some i ∧ P.cellsOf e = esz ∧ i.bytes = bytes ∧ i.zero = some z ∧ z.cells.size = esz := by
  unfold okElem at h
  split at h <;> try contradiction
  rename_i e hu
  simp only [Bool.and_eq_true, beq_iff_eq] at h
  obtain ⟨h1, h2⟩ := h
  split at h2 <;> try contradiction
  rename_i i hi
  simp only [Bool.and_eq_true, beq_iff_eq] at h2
  obtain ⟨h2, h3⟩ := h2
  split at h3 <;> try contradiction
  rename_i z hz
  simp only [beq_iff_eq] at h3
  exact ⟨e, i, z, hu, hi, h1, h2, hz, h3⟩

theorem set_self {H : Heap} {id : Nat} {b : ABlk} (h : H[id]? = some b) : H.set id b = H := by
  apply List.ext_getElem?
  intro j
  by_cases hj : j = id
  · subst hj
    have hlt := (List.getElem?_eq_some_iff.1 h).1
    rw [h]; simp [hlt]
  · rw [List.getElem?_set_ne (Ne.symm hj)]

/-- Values that are grabbed, on both sides. -/
theorem grab_run {esz m x : Nat} {oa : Option Addr} {c : Value} {k : Nat} {new : List Value} (hR : RH B0 w0 gl b0 okC μ H w) (hv : VR μ H (.slice oa k x) c) (hm : m ≤ k) (hg : H.grab esz (.slice oa k x) m = some new) :
    ∃ arr : Array Value, (∀ w', w'.heap = w.heap → (Builtin.firstCells esz m c).run P w' = .ok arr w') ∧ LR μ H new arr.toList ∧ new.length = m * esz ∧ ∀ y ∈ arr.toList, y.oneCell' = true := by
  cases hv with
  | nilSlc =>
    simp only [Heap.grab] at hg
    obtain rfl : m = 0 := by omega
    cases hg
    exact ⟨#[], fun w' _ => by simp [Builtin.firstCells], .nil, by simp, by simp⟩
  | @slc id off g b o n c x h1 h2 h3 =>
    simp only [Heap.grab] at hg
    split at hg <;> try contradiction
    rename_i e vs ha
    split at hg <;> try contradiction
    rename_i hle
    obtain ⟨hle, h1c⟩ := hle
    cases hg
    by_cases h0 : m * esz = 0
    · refine ⟨#[], fun w' _ => ?_, ?_, ?_, by simp⟩
      · simp [Builtin.firstCells, h0, loadCells, loadCellsFrom]
      · rw [h0]; simpa using LR.nil
      · rw [h0]; simp
    · have hm0 : m ≠ 0 := by rintro rfl; simp at h0
      obtain ⟨p, hp, rfl, rfl, _⟩ := h3 (by omega) e vs ha
      obtain ⟨p', cs, ty, fr, hp', hb, hsz, hle', hcs, _⟩ := hR.cells id g e vs (at_ok ha)
      rw [hp] at hp'; cases hp'
      have L := LR.ofSub (μ := μ) (H := H) (by omega) hle hcs
      refine ⟨((cs.toList.drop (p.o + off)).take (m * esz)).toArray, fun w' hw => ?_, ?_, ?_, ?_⟩
      · simp only [Builtin.firstCells]
        exact run_loadCells_block (by rw [hw]; exact hb) (by omega)
      · simpa using L
      · simp; omega
      · simpa using L.all_one (by simpa using h1c)

theorem zeroCells_size (z : Array Value) (n : Nat) : (Builtin.zeroCells z n).size = n * z.size := by simp [Builtin.zeroCells]

theorem lr_prefix {vs : List Value} {cs : List Value} {rest : Array Value} (h : LR μ H vs cs) : ∀ (j : Nat) (v : Value), vs[j]? = some v → ∃ c, (cs.toArray ++ rest)[j]? = some c ∧ VR μ H v c := fun j v hj => by
  obtain ⟨c, hc, hv⟩ := h.get? hj
  have hlt := (List.getElem?_eq_some_iff.1 hc).1
  exact ⟨c, by rw [Array.getElem?_append_left (by simpa using hlt)]; simpa using hc, hv⟩

theorem append_here {esz m : Nat} {t t' e : TypeId} {i : TypeInfo} {ts : Array TypeId} {ty : TypeId} {xv : Value} {arr : Array Value} {b : Option Addr} {sl sc : Nat}
    (ht : ts[0]? = some t) (hu : P.underlying t = some (.slice e)) (hi : P.info? e = some i) (hesz : P.cellsOf e = esz)
    (ht' : ts[1]? = some t') (hx : (∃ e', P.underlying t' = some (.slice e')) ∨ P.underlying t' = some .string) (hn : (Builtin.lenOf xv).run P w = .ok m w)
    (hf : (Builtin.firstCells esz m xv).run P w = .ok arr w) (hsc : sl + m ≤ sc) :
    (Builtin.append_ ts ty #[.slice b sl sc, xv]).run P w = (match b with | some ad => (storeCells (ad.add (sl * esz)) arr.toList).run P w | none => .ok () w).andThen fun _ w' => .ok (.slice b (sl + m) sc) w' := by
  have hse : (sizeOf e).run P w = .ok esz w := by rw [run_sizeOf' hi, hesz]
  rcases hx with ⟨e', hd⟩ | hd <;> cases b <;> simp [Builtin.append_, ht, ht', run_underlying hu, run_underlying hd, hse, hn, hsc, hf]

theorem append_there {esz m : Nat} {t t' e : TypeId} {i : TypeInfo} {z : Value} {ts : Array TypeId} {ty : TypeId} {xv : Value} {arr old : Array Value} {b : Option Addr} {sl sc : Nat}
    (ht : ts[0]? = some t) (hu : P.underlying t = some (.slice e)) (hi : P.info? e = some i) (hesz : P.cellsOf e = esz) (hz : i.zero = some z)
    (ht' : ts[1]? = some t') (hx : (∃ e', P.underlying t' = some (.slice e')) ∨ P.underlying t' = some .string) (hn : (Builtin.lenOf xv).run P w = .ok m w)
    (hf : ∀ w', w'.heap = w.heap → (Builtin.firstCells esz m xv).run P w' = .ok arr w') (ho : ∀ w', w'.heap = w.heap → (Builtin.firstCells esz sl (.slice b sl sc)).run P w' = .ok old w') (hsc : sc < sl + m) (h47 : sl + m ≤ 2 ^ 47) (hb47 : (sl + m) * i.bytes ≤ 2 ^ 47) :
    ∃ nc, sl + m ≤ nc ∧ (Builtin.append_ ts ty #[.slice b sl sc, xv]).run P w = .ok (.slice (some ⟨w.heap.size, 0, none⟩) (sl + m) nc)
      { w with drawn := w.drawn + 1, heap := w.heap.push (.cells (old ++ arr ++ Builtin.zeroCells z.cells (nc - (sl + m))) e) } := by
  have hse : (sizeOf e).run P w = .ok esz w := by rw [run_sizeOf' hi, hesz]
  have h0 : ¬ (sl + m ≤ sc) := by omega
  have h63 : ¬ (9223372036854775807 < (sl : Int) + m) := by omega
  have hfit := growslice_fits (need := sl + m) (old := sc) (bytes := i.bytes) hsc (by omega)
  have hfit' : ¬ (281474976710656 < Builtin.nextslicecap (sl + m) sc * i.bytes) := by omega
  refine ⟨(Question.appendCap (sl + m) sc e).cut (w.tape w.drawn (.appendCap (sl + m) sc e)), by simp [Question.cut], ?_⟩
  have ho' := ho w.drew rfl
  have hf' := hf w.drew rfl
  rcases hx with ⟨e', hd⟩ | hd <;> simp [Builtin.append_, ht, ht', run_underlying hu, run_underlying hd, hse, hn, h0, h63, typeInfo, hi, hfit', Question.forced, ho', hf', zeroValue, hz, newRow] <;> rfl

theorem append_run {base esz bytes m : Nat} {t t' e : TypeId} {i : TypeInfo} {z : Value} {ts : Array TypeId} {ty : TypeId} {s sv xv v : Value} {new : List Value} {arr : Array Value} {H' : Heap}
    (hR : RH B0 w0 gl b0 okC μ H w) (hb0 : b0 ≤ base) (hbl : base ≤ H.length) (ht : ts[0]? = some t) (hu : P.underlying t = some (.slice e)) (hi : P.info? e = some i) (hesz : P.cellsOf e = esz) (hby : i.bytes = bytes) (hz : i.zero = some z) (hzs : z.cells.size = esz)
    (ht' : ts[1]? = some t') (hx : (∃ e', P.underlying t' = some (.slice e')) ∨ P.underlying t' = some .string) (hn : (Builtin.lenOf xv).run P w = .ok m w)
    (hf : ∀ w', w'.heap = w.heap → (Builtin.firstCells esz m xv).run P w' = .ok arr w') (hl : LR μ H new arr.toList) (hnl : new.length = m * esz) (h1 : ∀ y ∈ arr.toList, y.oneCell' = true)
    (hs : VR μ H s sv) (ha : appd base H esz bytes s m new = some (v, H')) (hm : 0 < m) :
    ∃ c w' μ', (Builtin.append_ ts ty #[sv, xv]).run P w = .ok c w' ∧ VR μ' H' v c ∧ RH B0 w0 gl b0 okC μ' H' w' ∧ Stp base μ H w μ' H' w' := by
  have harr := hl.length
  have hd : Drawn w { w with drawn := w.drawn + 1 } := .one _ _
  have hRd := hR.drawn hd
  unfold appd at ha
  split at ha <;> try contradiction
  · -- a nil slice
    rename_i cc
    split at ha <;> try contradiction
    rename_i hc
    simp only [Option.some.injEq, Prod.mk.injEq] at ha
    obtain ⟨rfl, rfl⟩ := ha
    cases hs
    obtain ⟨nc, hnc, hr⟩ := append_there (ty := ty) (b := none) (sl := 0) (sc := 0) (old := #[]) ht hu hi hesz hz ht' hx hn hf (fun w' _ => by simp [Builtin.firstCells]) (by omega) (by omega) (by rw [hby, Nat.zero_add]; exact hc.1)
    simp only [Nat.zero_add] at hr hnc
    have hp : H.put none (.cells 0 esz new) = some (H.length, H ++ [.cells 0 esz new]) := rfl
    have hcl : new.length ≤ ((#[] : Array Value) ++ arr ++ Builtin.zeroCells z.cells (nc - m)).size := by simp [zeroCells_size]; simp at harr; omega
    obtain ⟨μ', k1, k2, k3⟩ := new_cells hRd hp hb0 hbl ((#[] : Array Value) ++ arr ++ Builtin.zeroCells z.cells (nc - m)) e hcl fun j v hj => by
      have := lr_prefix (rest := Builtin.zeroCells z.cells (nc - m)) hl j v hj
      simpa using this
    refine ⟨_, _, μ', hr, VR.new_slc (put_spec hp).2.2.1 k3 hnc ?_, k1, Stp.drawn0 hd k2⟩
    have hz' : nc * esz = m * esz + (nc - m) * esz := by rw [← Nat.add_mul]; congr 1; omega
    simp [zeroCells_size, hzs]
    simp at harr
    omega
  · rename_i id o g n x
    split at ha <;> try contradiction
    rename_i el vs hat
    split at ha <;> try contradiction
    rename_i hc
    obtain ⟨c1, c2, c3, c4, c5, c6⟩ := hc
    simp only [Option.some.injEq, Prod.mk.injEq] at ha
    obtain ⟨rfl, rfl⟩ := ha
    subst c2
    obtain ⟨b, o', c, rfl, q1, q2, q3⟩ := hs.slc_inv
    have hH := at_ok hat
    obtain ⟨p', cs, ty', fr, hp', hb, hsz, hle', hcs, _⟩ := hR.cells id g el vs hH
    by_cases hcap : n + m ≤ c
    · obtain ⟨p, hp, rfl, rfl, hcx⟩ := q3 (by omega) el vs hat
      obtain rfl : p = p' := by rw [hp] at hp'; exact Option.some.inj hp'
      obtain ⟨w', μ', hr, hμ, k1, k2⟩ := grow_here (P := P) (m := m) (new := new) hR hb0 c1 hH c4 p hp (hcx c3) hcap hnl hl h1
      refine ⟨.slice (some ⟨p.b, p.o + o, none⟩) (n + m) c, w', μ', ?_, ?_, k1, k2⟩
      · rw [append_here ht hu hi hesz ht' hx hn (hf w rfl) hcap]
        simp only [Addr.add_lit, hr, Result.andThen_ok]
      · refine .slc (by unfold okp; rw [(set_get hH).1]; exact Nat.le_refl _) hcap fun _ e vs _ => ⟨_, hμ, rfl, rfl, fun _ => hcx c3⟩
    · have hold : ∃ old : Array Value, (∀ w', w'.heap = w.heap → (Builtin.firstCells x n (.slice (some ⟨b, o', none⟩) n c)).run P w' = .ok old w') ∧ LR μ H ((vs.drop o).take (n * x)) old.toList := by
        by_cases h0 : n = 0
        · subst h0
          exact ⟨#[], fun w' _ => by simp [Builtin.firstCells, loadCells, loadCellsFrom], by simpa using LR.nil⟩
        · obtain ⟨p, hp, rfl, rfl, hcx⟩ := q3 (by omega) el vs hat
          obtain rfl : p = p' := by rw [hp] at hp'; exact Option.some.inj hp'
          refine ⟨((cs.toList.drop (p.o + o)).take (n * x)).toArray, fun w' hw => ?_, ?_⟩
          · simp only [Builtin.firstCells]
            exact run_loadCells_block (by rw [hw]; exact hb) (by omega)
          · simpa using LR.ofSub (μ := μ) (H := H) (by omega) c4 hcs
      obtain ⟨old, ho, hlo⟩ := hold
      obtain ⟨nc, hnc, hr⟩ := append_there (ty := ty) (b := some ⟨b, o', none⟩) (sl := n) (sc := c) ht hu hi hesz hz ht' hx hn hf ho (by omega) c6 (by rw [hby]; exact c5)
      have hlo' := hlo.length
      have hll : ((vs.drop o).take (n * x)).length = n * x := by simp; omega
      have hsize : (old ++ arr ++ Builtin.zeroCells z.cells (nc - (n + m))).size = nc * x := by
        have hz' : nc * x = n * x + m * x + (nc - (n + m)) * x := by rw [← Nat.add_mul, ← Nat.add_mul]; congr 1; omega
        simp [zeroCells_size, hzs]
        simp at harr hlo'
        omega
      obtain ⟨k1, k2⟩ := grow_there (g' := g + 1) (esz := x) (vs' := (vs.drop o).take (n * x) ++ new) hRd hb0 c1 hH (by omega) (old ++ arr ++ Builtin.zeroCells z.cells (nc - (n + m))) e (by rw [hsize, List.length_append, hll, hnl, ← Nat.add_mul]; exact Nat.mul_le_mul_right _ hnc) fun j v hj => by
        have := lr_prefix (rest := Builtin.zeroCells z.cells (nc - (n + m))) (hlo.append hl) j v hj
        have e1 : (old.toList ++ arr.toList).toArray = old ++ arr := by apply Array.toList_inj.1; simp
        rw [e1] at this
        exact this
      refine ⟨_, _, _, hr, ?_, k1, Stp.drawn0 hd k2⟩
      refine .slc (by unfold okp; rw [(set_get hH).1]; exact Nat.le_refl _) hnc fun _ e vs _ => ⟨_, Mu.set_same _ _ _, rfl, rfl, fun _ => by show 0 + nc * x ≤ _; rw [hsize]; show 0 + nc * x ≤ nc * x; omega⟩

end
end Go.AM
/- The operations that write: the simulation, 3. No condition. -/
namespace Go.AM
open Go.RowKit (Below)

section
variable {P : Program} {B0 : Nat} {w0 : World} {gl b0 : Nat} {okC : Nat → Code → ACode → Bool} {μ : Mu} {H : Heap} {w : World} {ρ : Env} {a : Act}
variable {base : Nat} {v : Value} {H' : Heap}

theorem reps_one {z : List Value} (h : z.all AM.oneCell = true) : ∀ n, (reps z n).all AM.oneCell = true
  | 0 => rfl
  | n + 1 => by rw [reps, List.all_append, h, reps_one h n]; rfl
theorem VR.is_slice {oa : Option Addr} {n x : Nat} {c : Value} (h : VR μ H (.slice oa n x) c) : ∃ b sc, c = .slice b n sc ∧ n ≤ sc := by
  cases h
  · exact ⟨_, _, rfl, Nat.le_refl _⟩
  · exact ⟨_, _, rfl, by assumption⟩

theorem run_firstCells_string (s : ByteArray) (w : World) : (Builtin.firstCells 1 s.size (.string s)).run P w = .ok (s.data.map fun b => Value.int .u8 b.toNat) w := by
  simp [Builtin.firstCells]

theorem bytes_VR : ∀ l : List UInt8, LR μ H (l.map fun c => Value.int .u8 c.toNat) (l.map fun c => Value.int .u8 c.toNat)
  | [] => .nil
  | c :: l => .cons (.int _ _) (bytes_VR l)

variable (hR : RH B0 w0 gl b0 okC μ H w) (hT : TR μ H ρ a.tmps) (hb0 : b0 ≤ base) (hbl : base ≤ H.length)
include hR hT hb0 hbl

theorem sim_st {o : Oper} {n : Nat} {a' x' : Opnd} (hok : okWr P o.op (.st n a' x') = true) (hv : AOp.wr base ρ H (.st n a' x') = some (v, H')) : SimO P B0 w0 gl b0 okC base μ H w a.eval o v H' := by
  obtain ⟨d, op', t, p, af, g⟩ := o
  cases op' <;> simp [okWr] at hok
  rename_i t ad x
  obtain ⟨⟨⟨h1, h2⟩, h3⟩, h4⟩ := hok
  obtain ⟨i, hi⟩ := Option.isSome_iff_exists.1 h4
  simp only [AOp.wr] at hv
  split at hv <;> try contradiction
  rename_i id off g u e1 e2
  split at hv <;> try contradiction
  rename_i e vs ha
  split at hv <;> try contradiction
  rename_i hc
  obtain ⟨c1, c2, c3, c4⟩ := hc
  simp only [Option.some.injEq, Prod.mk.injEq] at hv
  obtain ⟨rfl, rfl⟩ := hv
  have v2 := ev_sim h2 hR hT e2
  have l2 := v2.list (by simpa using c3)
  obtain ⟨p, w', hp, hr, k1, k2⟩ := store_step (P := P) hR hb0 c1 (at_ok ha) (by rw [c2]; exact c4) l2 (LR.all_one l2 (by simpa using c3))
  obtain ⟨b, o', ex, _, q2⟩ := (ev_sim h1 hR hT e1).ptr_inv
  obtain ⟨p', hp', rfl, rfl⟩ := q2 e vs ha
  obtain rfl : p = p' := by rw [hp] at hp'; exact Option.some.inj hp'
  have hsz : (a.eval x).cells.size = P.cellsOf t := by rw [h3, ← c2, l2.length]; simp
  refine ⟨.skip, undef, w', μ, ?_, .inr ⟨rfl, rfl⟩, .undf _, k1, k2⟩
  simp [execOp, Instr.storeAt, ex, Instr.sureAddr, storeVar, hsz, run_sizeOf' hi, hr]

theorem sim_app {o : Oper} {esz bytes : Nat} {s' x' : Opnd} (hok : okWr P o.op (.app esz bytes s' x') = true) (hv : AOp.wr base ρ H (.app esz bytes s' x') = some (v, H')) : SimO P B0 w0 gl b0 okC base μ H w a.eval o v H' := by
  obtain ⟨d, op', t, p, af, g⟩ := o
  cases op' <;> simp only [okWr, Bool.false_eq_true] at hok
  rename_i c
  obtain ⟨callee, args, ats⟩ := c
  cases callee <;> try (simp [okWr] at hok; done)
  rename_i bt
  cases bt <;> try (simp [okWr] at hok; done)
  simp only [okWr, Bool.and_eq_true] at hok
  obtain ⟨h1, h2⟩ := hok
  obtain ⟨s, x, rfl, k1, k2⟩ := call_args2 h1
  split at h2 <;> try contradiction
  rename_i t1 t2 ht1 ht2
  simp only [Bool.and_eq_true] at h2
  obtain ⟨h2, h3⟩ := h2
  split at h3 <;> try contradiction
  rename_i e' hu'
  obtain ⟨e, i, z, hu, hi, hesz, hby, hz, hzs⟩ := okElem_inv h2
  simp only [AOp.wr] at hv
  split at hv <;> try contradiction
  rename_i sv xv e1 e2
  split at hv <;> try contradiction
  rename_i oa m xx
  have vs := ev_sim k1 hR hT e1
  have vx := ev_sim k2 hR hT e2
  have hn : (Builtin.lenOf (a.eval x)).run P w = .ok m w := by
    generalize a.eval x = y at vx
    cases vx <;> simp [Builtin.lenOf]
  have hexec : ∀ {c w'}, (Builtin.append_ ats t #[a.eval s, a.eval x]).run P w = .ok c w' → (execOp a.eval { dst := d, op := .call { callee := .builtin .append, args := #[s, x], argTypes := ats }, type := t, pos := p, after := af, guard := g }).run P w = .ok (.value c) w' := by
    intro c w' h
    simp [execOp, resolve, invoke, builtin, h]
  split at hv
  · rename_i hm0
    subst hm0
    split at hv <;> try contradiction
    cases hv
    obtain ⟨b, sc, es, hle⟩ := vs.is_slice
    have hf : (Builtin.firstCells esz 0 (a.eval x)).run P w = .ok #[] w := by
      generalize a.eval x = y at vx
      cases vx <;> simp [Builtin.firstCells, loadCells, loadCellsFrom]
    have hr := append_here (ts := ats) (ty := t) (b := b) (sc := sc) ht1 hu hi hesz ht2 (.inl ⟨_, hu'⟩) hn hf (by omega : _ + 0 ≤ sc)
    rw [← es] at hr
    refine ⟨_, a.eval s, w, μ, hexec ?_, .inl rfl, vs, hR, .refl _ _ _ _⟩
    rw [hr, es]
    cases b <;> simp [storeCells]
  · rename_i hm0
    split at hv <;> try contradiction
    rename_i new hg
    obtain ⟨arr, hf, hl, hnl, hone⟩ := grab_run (P := P) hR vx (Nat.le_refl _) hg
    obtain ⟨c, w', μ', hr, r1, r2, r3⟩ := append_run (P := P) (ty := t) hR hb0 hbl ht1 hu hi hesz hby hz hzs ht2 (.inl ⟨_, hu'⟩) hn hf hl hnl hone vs hv (by omega)
    exact ⟨_, c, w', μ', hexec hr, .inl rfl, r1, r2, r3⟩

theorem sim_apt {o : Oper} {s' x' : Opnd} (hok : okWr P o.op (.apt s' x') = true) (hv : AOp.wr base ρ H (.apt s' x') = some (v, H')) : SimO P B0 w0 gl b0 okC base μ H w a.eval o v H' := by
  obtain ⟨d, op', t, p, af, g⟩ := o
  cases op' <;> simp only [okWr, Bool.false_eq_true] at hok
  rename_i c
  obtain ⟨callee, args, ats⟩ := c
  cases callee <;> try (simp [okWr] at hok; done)
  rename_i bt
  cases bt <;> try (simp [okWr] at hok; done)
  simp only [okWr, Bool.and_eq_true] at hok
  obtain ⟨h1, h2⟩ := hok
  obtain ⟨s, x, rfl, k1, k2⟩ := call_args2 h1
  split at h2 <;> try contradiction
  rename_i t1 t2 ht1 ht2
  simp only [Bool.and_eq_true] at h2
  obtain ⟨h2, h3⟩ := h2
  have hu' := okStr_inv h3
  obtain ⟨e, i, z, hu, hi, hesz, hby, hz, hzs⟩ := okElem_inv h2
  simp only [AOp.wr] at hv
  split at hv <;> try contradiction
  rename_i sv b e1 e2
  have vs := ev_sim k1 hR hT e1
  have ex := (ev_sim k2 hR hT e2).string_inv
  have hn : (Builtin.lenOf (a.eval x)).run P w = .ok b.size w := by rw [ex]; simp [Builtin.lenOf]
  have hexec : ∀ {c w'}, (Builtin.append_ ats t #[a.eval s, a.eval x]).run P w = .ok c w' → (execOp a.eval { dst := d, op := .call { callee := .builtin .append, args := #[s, x], argTypes := ats }, type := t, pos := p, after := af, guard := g }).run P w = .ok (.value c) w' := by
    intro c w' h
    simp [execOp, resolve, invoke, builtin, h]
  have hf : ∀ w', w'.heap = w.heap → (Builtin.firstCells 1 b.size (a.eval x)).run P w' = .ok (b.data.map fun c => Value.int .u8 c.toNat) w' := fun w' _ => by
    rw [ex]; exact run_firstCells_string b w'
  split at hv
  · rename_i hm0
    split at hv <;> try contradiction
    rename_i oa n xx
    cases hv
    obtain ⟨b', sc, es, hle⟩ := vs.is_slice
    have hr := append_here (ts := ats) (ty := t) (b := b') (sl := n) (sc := sc) ht1 hu hi hesz ht2 (.inr hu') hn (hf w rfl) (by omega)
    rw [← es] at hr
    refine ⟨_, a.eval s, w, μ, hexec ?_, .inl rfl, vs, hR, .refl _ _ _ _⟩
    have hb : b.data.map (fun c => Value.int .u8 c.toNat) = #[] := by
      apply Array.eq_empty_of_size_eq_zero
      simpa using hm0
    rw [hr, es, hb]
    cases b' <;> simp [storeCells, hm0]
  · rename_i hm0
    have hl : LR μ H (b.data.toList.map fun c => Value.int .u8 c.toNat) (b.data.map fun c => Value.int .u8 c.toNat).toList := by
      rw [Array.toList_map]; exact bytes_VR _
    obtain ⟨c, w', μ', hr, r1, r2, r3⟩ := append_run (P := P) (ty := t) hR hb0 hbl ht1 hu hi hesz hby hz hzs ht2 (.inr hu') hn hf hl (by simp) (by simp; intro y _; rfl) vs hv (by omega)
    exact ⟨_, c, w', μ', hexec hr, .inl rfl, r1, r2, r3⟩

theorem sim_copy {o : Oper} {esz : Nat} {d' s' : Opnd} (hok : okWr P o.op (.copy esz d' s') = true) (hv : AOp.wr base ρ H (.copy esz d' s') = some (v, H')) : SimO P B0 w0 gl b0 okC base μ H w a.eval o v H' := by
  obtain ⟨d, op', t, p, af, g⟩ := o
  cases op' <;> simp only [okWr, Bool.false_eq_true] at hok
  rename_i c
  obtain ⟨callee, args, ats⟩ := c
  cases callee <;> try (simp [okWr] at hok; done)
  rename_i bt
  cases bt <;> try (simp [okWr] at hok; done)
  simp only [okWr, Bool.and_eq_true] at hok
  obtain ⟨h1, h2⟩ := hok
  obtain ⟨x, y, rfl, k1, k2⟩ := call_args2 h1
  split at h2 <;> try contradiction
  rename_i t1 ht1
  obtain ⟨e, hu, he, de, hde⟩ := okS_inv h2
  have hexec : ∀ {c w'}, (Builtin.copy_ ats t #[a.eval x, a.eval y]).run P w = .ok c w' → (execOp a.eval { dst := d, op := .call { callee := .builtin .copy, args := #[x, y], argTypes := ats }, type := t, pos := p, after := af, guard := g }).run P w = .ok (.value c) w' := by
    intro c w' h
    simp [execOp, resolve, invoke, builtin, h]
  simp only [AOp.wr] at hv
  split at hv <;> try contradiction
  · rename_i id off g n xx sa m sc e1 e2
    split at hv <;> try contradiction
    rename_i new el vs hg ha
    split at hv <;> try contradiction
    rename_i hc
    obtain ⟨c1, c2⟩ := hc
    simp only [Option.some.injEq, Prod.mk.injEq] at hv
    obtain ⟨rfl, rfl⟩ := hv
    have vd := ev_sim k1 hR hT e1
    have vs' := ev_sim k2 hR hT e2
    obtain ⟨arr, hf, hl, hnl, hone⟩ := grab_run (P := P) hR vs' (Nat.min_le_left _ _) hg
    obtain ⟨bs, scc, ey, _⟩ := vs'.is_slice
    obtain ⟨b, o', k, ex, q1, q2, q3⟩ := vd.slc_inv
    have hle : off + new.length ≤ vs.length := by
      rw [hnl]; have := Nat.mul_le_mul_right esz (Nat.min_le_right m n); omega
    have hmin : Nat.min m n = min m n := rfl
    have hf' : (Builtin.firstCells esz (Nat.min m n) (.slice bs m scc)).run P w = .ok arr w := by rw [← ey]; exact hf w rfl
    by_cases h0 : new = []
    · subst h0
      have harr : arr.toList = [] := List.eq_nil_of_length_eq_zero (by have := hl.length; simpa using this.symm)
      rw [show setAll vs off [] = vs from rfl, set_self (at_ok ha)]
      refine ⟨_, .int .i64 (min m n : Nat), w, μ, hexec ?_, .inl rfl, .int _ _, hR, .refl _ _ _ _⟩
      rw [ex, ey]
      simp [Builtin.copy_, ht1, run_underlying hu, Builtin.lenOf, run_sizeOf hde, he, hf', harr, storeCells, goInt]
    · have hk : k ≠ 0 := by
        rintro rfl
        have : n = 0 := by omega
        subst this
        simp at hnl
        exact h0 hnl
      obtain ⟨p1, hp1, rfl, rfl, _⟩ := q3 hk el vs ha
      obtain ⟨p2, w', hp2, hr, r1, r2⟩ := store_step (P := P) hR hb0 c1 (at_ok ha) hle hl hone
      obtain rfl : p1 = p2 := by rw [hp1] at hp2; exact Option.some.inj hp2
      refine ⟨_, .int .i64 (min m n : Nat), w', μ, hexec ?_, .inl rfl, .int _ _, r1, r2⟩
      rw [ex, ey]
      simp [Builtin.copy_, ht1, run_underlying hu, Builtin.lenOf, run_sizeOf hde, he, hf', hr, goInt]
  · rename_i x1 x2 e1 e2
    simp only [Option.some.injEq, Prod.mk.injEq] at hv
    obtain ⟨rfl, rfl⟩ := hv
    have vd := ev_sim k1 hR hT e1
    have vs' := ev_sim k2 hR hT e2
    obtain ⟨bs, scc, ey, _⟩ := vs'.is_slice
    generalize hx : a.eval x = cx at vd
    cases vd
    refine ⟨_, .int .i64 0, w, μ, hexec ?_, .inl rfl, .int _ _, hR, .refl _ _ _ _⟩
    rw [hx, ey]
    cases bs <;> simp [Builtin.copy_, ht1, run_underlying hu, Builtin.lenOf, run_sizeOf hde, he, Builtin.firstCells, loadCells, loadCellsFrom, goInt]

theorem sim_clear {o : Oper} {zero : List Value} {x' : Opnd} (hok : okWr P o.op (.clear zero x') = true) (hv : AOp.wr base ρ H (.clear zero x') = some (v, H')) : SimO P B0 w0 gl b0 okC base μ H w a.eval o v H' := by
  obtain ⟨d, op', t, p, af, g⟩ := o
  cases op' <;> simp only [okWr, Bool.false_eq_true] at hok
  rename_i c
  obtain ⟨callee, args, ats⟩ := c
  cases callee <;> try (simp [okWr] at hok; done)
  rename_i bt
  cases bt <;> try (simp [okWr] at hok; done)
  simp only [okWr, Bool.and_eq_true] at hok
  obtain ⟨h1, h2⟩ := hok
  obtain ⟨x, rfl, k1⟩ := call_args1 h1
  split at h2 <;> try contradiction
  rename_i t1 ht1
  split at h2 <;> try contradiction
  rename_i e hu
  simp only [Bool.and_eq_true] at h2
  obtain ⟨h2, h3⟩ := h2
  obtain ⟨i, z, hi, hz, hzc, hzl⟩ := okZ_inv h2
  have hexec : ∀ {c w'}, (Builtin.clear_ ats t #[a.eval x]).run P w = .ok c w' → (execOp a.eval { dst := d, op := .call { callee := .builtin .clear, args := #[x], argTypes := ats }, type := t, pos := p, after := af, guard := g }).run P w = .ok (.value c) w' := by
    intro c w' h
    simp [execOp, resolve, invoke, builtin, h]
  simp only [AOp.wr] at hv
  have vx' : ∀ v, ev ρ x' = some v → VR μ H v (a.eval x) := fun v h => ev_sim k1 hR hT h
  split at hv <;> try contradiction
  · rename_i n xx e1
    simp only [Option.some.injEq, Prod.mk.injEq] at hv
    obtain ⟨rfl, rfl⟩ := hv
    have vx := vx' _ e1
    generalize hx : a.eval x = cx at vx
    cases vx
    refine ⟨_, .tuple #[], w, μ, hexec ?_, .inl rfl, .undf _, hR, .refl _ _ _ _⟩
    rw [hx]
    simp [Builtin.clear_, ht1, run_underlying hu]
  · rename_i id off g n xx e1
    split at hv <;> try contradiction
    rename_i el vs ha
    split at hv <;> try contradiction
    rename_i hc
    obtain ⟨c1, c2⟩ := hc
    simp only [Option.some.injEq, Prod.mk.injEq] at hv
    obtain ⟨rfl, rfl⟩ := hv
    obtain ⟨b, o', k, ex, q1, q2, q3⟩ := (vx' _ e1).slc_inv
    by_cases h0 : n = 0
    · subst h0
      rw [show setAll vs off (reps zero 0) = vs from rfl, set_self (at_ok ha)]
      refine ⟨_, .tuple #[], w, μ, hexec ?_, .inl rfl, .undf _, hR, .refl _ _ _ _⟩
      rw [ex]
      simp [Builtin.clear_, ht1, run_underlying hu]
    · have hl := made_LR hzc (hzl μ H) n
      have he : Builtin.zeroCells z.cells n = (Array.range (n * z.cells.size)).map (z.cells[· % z.cells.size]!) := rfl
      rw [← he] at hl
      obtain ⟨p1, hp1, rfl, rfl, _⟩ := q3 (by omega) el vs ha
      obtain ⟨p2, w', hp2, hr, r1, r2⟩ := store_step (P := P) (o := off) hR hb0 c1 (at_ok ha) (by rw [reps_length]; exact c2) hl (hl.all_one (reps_one h3 n))
      obtain rfl : p1 = p2 := by rw [hp1] at hp2; exact Option.some.inj hp2
      refine ⟨_, .tuple #[], w', μ, hexec ?_, .inl rfl, .undf _, r1, r2⟩
      rw [ex]
      obtain ⟨n, rfl⟩ : ∃ k, n = k + 1 := ⟨n - 1, by omega⟩
      simp [Builtin.clear_, ht1, run_underlying hu, zeroValue, typeInfo, hi, hz, hr]

theorem sim_mup {o : Oper} {m' k' x' : Opnd} (hok : okWr P o.op (.mup m' k' x') = true) (hv : AOp.wr base ρ H (.mup m' k' x') = some (v, H')) : SimO P B0 w0 gl b0 okC base μ H w a.eval o v H' := by
  obtain ⟨d, op', t, p, af, g⟩ := o
  cases op' <;> simp [okWr] at hok
  rename_i t m k x
  obtain ⟨⟨⟨h1, h2⟩, h3⟩, h4⟩ := hok
  split at h4 <;> try contradiction
  rename_i kt et hu
  split at h4 <;> try contradiction
  rename_i hk
  simp only [AOp.wr] at hv
  split at hv <;> try contradiction
  rename_i id n u e1 e2 e3
  split at hv <;> try contradiction
  rename_i es hes
  split at hv <;> try contradiction
  rename_i hbase
  simp only [Option.some.injEq, Prod.mk.injEq] at hv
  obtain ⟨rfl, rfl⟩ := hv
  have v1 := ev_sim h1 hR hT e1
  have ek := (ev_sim h2 hR hT e2).int_inv
  have vu := ev_sim h3 hR hT e3
  obtain ⟨b, ces, clk, hμ, hB, hb, hM1, hM2⟩ := hR.maps id es hes
  have ex : a.eval m = .map (some b) := by
    generalize a.eval m = y at v1
    cases v1 with
    | map _ h' => have := h' es hes; rw [hμ] at this; cases this; rfl
  have hck : (Instr.checkKey false 10000 kt (.int .i64 n)).run P w = .ok () w := MapKept.run_checkKey hk (by simp [MapKept.IsKey]) _ 9999
  -- what is laid
  have key : ∃ ces' clk', (Instr.mapUpdate t (.map (some b)) (.int .i64 n) (a.eval x)).run P w = .ok () { w with heap := w.heap.setIfInBounds b (.map ces' clk') } ∧
      (∀ e ∈ ces'.toList, ∃ k, e.key = .int .i64 k) ∧ (∃ (i : Nat) (e : MapEntry), ces'[i]? = some e ∧ e.key = .int .i64 n ∧ e.val = a.eval x ∧ ∀ (j : Nat) (e' : MapEntry), j < i → ces'[j]? = some e' → e'.key ≠ .int .i64 n) ∧
      (∀ k, k ≠ n → (∀ e ∈ ces.toList, e.key ≠ .int .i64 k) → ∀ e ∈ ces'.toList, e.key ≠ .int .i64 k) ∧
      (∀ k, k ≠ n → ∀ (i : Nat) (e : MapEntry), ces[i]? = some e → e.key = .int .i64 k → (∀ (j : Nat) (e' : MapEntry), j < i → ces[j]? = some e' → e'.key ≠ .int .i64 k) → ces'[i]? = some e ∧ ∀ (j : Nat) (e' : MapEntry), j < i → ces'[j]? = some e' → e'.key ≠ .int .i64 k) := by
    have hM := hM2 n
    split at hM
    · rename_i v0 hl
      obtain ⟨i, e, hi, hk1, hv0, hfirst⟩ := hM
      have hf := findNow_some ces.toList 0 i e hM1 (by simpa using hi) hk1 (fun j' e' hj' he' => hfirst j' e' hj' (by simpa using he'))
      replace hi : ces[i]? = some e := by simpa using hi
      replace hfirst : ∀ (j : Nat) (e' : MapEntry), j < i → ces[j]? = some e' → e'.key ≠ .int .i64 n := fun j e' hj he' => hfirst j e' hj (by simpa using he')
      have hstay : (Instr.keyThatStays (.int .i64 n) (.int .i64 n)).run P w = .ok (.int .i64 n) w := by simp [Instr.keyThatStays, Instr.sameBits]
      have hget : ∀ (j : Nat) (e' : MapEntry), (ces.modify i fun e => { e with key := .int .i64 n, val := a.eval x })[j]? = some e' → ∃ e0, ces[j]? = some e0 ∧ e'.key = e0.key ∧ (j ≠ i → e' = e0) := by
        intro j e' hj
        rw [Array.getElem?_modify] at hj
        split at hj
        · rename_i hij
          subst hij
          rw [hi] at hj
          simp only [Option.map_some, Option.some.injEq] at hj
          subst hj
          exact ⟨e, hi, hk1.symm, fun h => absurd rfl h⟩
        · exact ⟨e', hj, rfl, fun _ => rfl⟩
      refine ⟨ces.modify i fun e => { e with key := .int .i64 n, val := a.eval x }, clk, ?_, fun e' he' => ?_, ⟨i, { e with key := .int .i64 n, val := a.eval x }, by simp [Array.getElem?_modify, hi], rfl, rfl, fun j e' hj he' => ?_⟩, fun k hk h e' he' => ?_, fun k hkn j e' hj hkj hfj => ?_⟩
      · simp [Instr.mapUpdate, run_underlying hu, MapKept.run_getObj_map hb, hck, MapKept.run_findKey hk hf, hi, hk1, hstay, MapKept.run_setObj_map _ hb]
      · obtain ⟨j, hj⟩ := List.getElem?_of_mem he'
        obtain ⟨e0, h0, h1, _⟩ := hget j e' (by rw [Array.getElem?_toList] at hj; exact hj)
        rw [h1]; exact hM1 e0 (by simpa using Array.mem_of_getElem? h0)
      · obtain ⟨e0, h0, h1, _⟩ := hget j e' he'
        rw [h1]; exact hfirst j e0 hj h0
      · obtain ⟨j, hj⟩ := List.getElem?_of_mem he'
        obtain ⟨e0, h0, h1, _⟩ := hget j e' (by rw [Array.getElem?_toList] at hj; exact hj)
        rw [h1]; exact h e0 (by simpa using Array.mem_of_getElem? h0)
      · have hji : j ≠ i := by
          rintro rfl
          rw [hi] at hj; cases hj
          rw [hk1] at hkj; cases hkj; exact hkn rfl
        refine ⟨by rw [Array.getElem?_modify, if_neg (Ne.symm hji)]; exact hj, fun j' e'' hj' he'' => ?_⟩
        obtain ⟨e0, h0, h1, _⟩ := hget j' e'' he''
        rw [h1]; exact hfj j' e0 hj' h0
    · rename_i hl
      have hf := findNow_none ces.toList 0 hM1 (k := n) hM
      refine ⟨ces.push { key := .int .i64 n, val := a.eval x, born := clk }, clk + 1, ?_, fun e' he' => ?_, ⟨ces.size, { key := .int .i64 n, val := a.eval x, born := clk }, by simp, rfl, rfl, fun j e' hj he' => ?_⟩, fun k hk h e' he' => ?_, fun k hkn j e' hj hkj hfj => ?_⟩
      · simp [Instr.mapUpdate, run_underlying hu, MapKept.run_getObj_map hb, hck, MapKept.run_findKey hk hf, MapKept.run_setObj_map _ hb]
      · simp at he'
        rcases he' with he' | rfl
        · exact hM1 e' (by simpa using he')
        · exact ⟨n, rfl⟩
      · rw [Array.getElem?_push, if_neg (by omega)] at he'
        exact hM e' (by simpa using Array.mem_of_getElem? he')
      · simp at he'
        rcases he' with he' | rfl
        · exact h e' (by simpa using he')
        · simpa using Ne.symm hk
      · have hjl : j < ces.size := (Array.getElem?_eq_some_iff.1 hj).1
        refine ⟨by rw [Array.getElem?_push, if_neg (by omega)]; exact hj, fun j' e'' hj' he'' => ?_⟩
        rw [Array.getElem?_push, if_neg (by omega)] at he''
        exact hfj j' e'' hj' he''
  obtain ⟨ces', clk', hr, N1, N2, N3, N4⟩ := key
  generalize hbl : ABlk.map ((n, u) :: es.filter fun e => e.1 != n) = bl
  obtain ⟨s1, s2⟩ := set_get (b' := bl) hes
  have hal : alive H id := by unfold alive; rw [hes]; trivial
  have hE : Ext μ H μ (H.set id bl) := by
    refine ⟨fun j k hk => ?_, fun j k e2 vs2 hk ha => ?_, fun j es2 hk ha => ?_, fun j hk ha => ?_, fun j hk ha => ?_⟩
    · by_cases hj : j = id
      · subst hj; unfold AM.okp; rw [s1]; subst hbl; trivial
      · unfold AM.okp at hk ⊢; rw [s2 j hj]; exact hk
    · by_cases hj : j = id
      · subst hj; unfold Heap.at at ha; rw [s1] at ha; subst hbl; cases ha
      · unfold Heap.at at ha ⊢; rw [s2 j hj] at ha; exact ⟨⟨vs2, ha⟩, rfl⟩
    · by_cases hj : j = id
      · subst hj; exact ⟨⟨es, hes⟩, rfl⟩
      · rw [s2 j hj] at ha; exact ⟨⟨es2, ha⟩, rfl⟩
    · by_cases hj : j = id
      · subst hj; rw [s1] at ha; subst hbl; exact ha.elim
      · rw [s2 j hj] at ha; exact ⟨ha, rfl⟩
    · by_cases hj : j = id
      · subst hj; rw [s1] at ha; subst hbl; cases ha
      · rw [s2 j hj] at ha; exact ⟨ha, rfl⟩
  have hblt : b < w.heap.size := (Array.getElem?_eq_some_iff.1 hb).1
  have hsame : ∀ o : Obj, (w.heap.setIfInBounds b o)[b]? = some o := fun o => by simp [hblt]
  have hoth' : ∀ (o : Obj) (k : Nat), k ≠ b → (w.heap.setIfInBounds b o)[k]? = w.heap[k]? := fun o k hk => by simp [Ne.symm hk]
  have hinj : ∀ j q, j ≠ id → alive H j → μ j = some q → q.b ≠ b := fun j q hj haj hq => (hR.inj id j ⟨b, 0, 0⟩ q (Ne.symm hj) hal haj hμ hq (.inl (Nat.le_trans hb0 hbase))).symm
  refine ⟨.skip, undef, { w with heap := w.heap.setIfInBounds b (.map ces' clk') }, μ, ?_, .inr ⟨rfl, rfl⟩, .undf _, hR.step hE ⟨rfl, rfl, rfl, by simp, fun k hk => hoth' _ k (by omega)⟩ (Nat.le_trans hb0 hbase) (by simp) (fun j hj => ⟨s2 j hj, rfl⟩) (fun j q hj haj hq => hoth' _ _ (hinj j q hj haj hq)) (fun j q q' hj haj hq _ hq' => ?_) (fun b' hbb => ?_),
    ⟨hE, by simp, fun k hk hn => hoth' _ _ fun e => hn id _ hbase hal hμ e.symm, fun j q hj haj hq => .inr ⟨?_, q, hq, rfl⟩, fun j hj => ⟨s2 j (by omega), rfl⟩, by simp⟩⟩
  · simp only [execOp, ex, ek, Sem.run_bind, hr, Result.andThen_ok, Sem.run_pure]
  · rw [hμ] at hq'; cases hq'
    exact hinj j q hj haj hq
  · rw [s1] at hbb; cases hbb
    subst hbl
    refine ⟨b, ces', clk', hμ, hB, hsame _, N1, fun k => ?_⟩
    by_cases hkn : k = n
    · subst hkn
      simp only [List.lookup_cons, beq_self_eq_true]
      obtain ⟨i, e, hi, hk1, hv1, hf1⟩ := N2
      have hi' : ces'.toList[i]? = some e := by simpa using hi
      exact ⟨i, e, hi', hk1, by rw [hv1]; exact vu.ext hE, fun j e' hj he' => hf1 j e' hj (by simpa using he')⟩
    · have hlk : List.lookup k ((n, u) :: es.filter fun e => e.1 != n) = es.lookup k := by
        rw [List.lookup_cons, beq_false_of_ne hkn]
        simp only
        clear hbl s1 s2 hE hM2 hes
        induction es with
        | nil => rfl
        | cons x es ih =>
          obtain ⟨x1, x2⟩ := x
          by_cases hx : x1 = n
          · subst hx
            simp only [List.filter_cons, bne_self_eq_false, Bool.false_eq_true, if_false, List.lookup_cons, beq_false_of_ne hkn]
            exact ih
          · have : (x1 != n) = true := by simpa using hx
            simp only [List.filter_cons, this, if_true, List.lookup_cons, ih]
      rw [hlk]
      have hM := hM2 k
      split at hM
      · obtain ⟨i, e, hi, hk1, hv1, hf1⟩ := hM
        obtain ⟨h1, h2⟩ := N4 k hkn i e (by simpa using hi) hk1 fun j e' hj he' => hf1 j e' hj (by simpa using he')
        exact ⟨i, e, by simpa using h1, hk1, hv1.ext hE, fun j e' hj he' => h2 j e' hj (by simpa using he')⟩
      · exact N3 k hkn hM
  · by_cases hji : j = id
    · subst hji; exact hal
    · exact (alive_of_eq (s2 j hji)).1 haj

theorem sim_wr {o : Oper} {x : AOp} (hok : okWr P o.op x = true) (hv : AOp.wr base ρ H x = some (v, H')) : SimO P B0 w0 gl b0 okC base μ H w a.eval o v H' := by
  cases x with
  | st n a x => exact sim_st hR hT hb0 hbl hok hv
  | app e b s x => exact sim_app hR hT hb0 hbl hok hv
  | apt s x => exact sim_apt hR hT hb0 hbl hok hv
  | copy e d s => exact sim_copy hR hT hb0 hbl hok hv
  | clear z x => exact sim_clear hR hT hb0 hbl hok hv
  | mup m k x => exact sim_mup hR hT hb0 hbl hok hv
  | _ => simp [AOp.wr] at hv

end
end Go.AM
/- Calls: what is let go, the marks, the results. No condition. -/
namespace Go.AM
open Go.RowKit (Below)

section
variable {P : Program} {B0 : Nat} {w0 : World} {gl b0 : Nat} {okC : Nat → Code → ACode → Bool} {μ μ' : Mu} {H H' : Heap} {w w' : World} {ρ : Env} {a : Act}

/-! ### What is let go -/
theorem okp_eq {id g : Nat} (h : H'[id]? = H[id]?) : okp H' id g → okp H id g := by unfold okp; rw [h]; exact fun h => h
theorem at_eq {id g : Nat} (h : H'[id]? = H[id]?) : H'.at id g = H.at id g := by unfold Heap.at; rw [h]

theorem VR.low1 {L : Nat} (hl : ∀ id, id < L → H'[id]? = H[id]? ∧ μ' id = μ id) {v c : Value} (hn : noNew1 L v = true) (h : VR μ' H' v c) : VR μ H v c := by
  cases h with
  | undf _ => exact .undf _
  | bool b => exact .bool b
  | int k n => exact .int k n
  | float h => exact .float h
  | complex h h' => exact .complex h h'
  | string s => exact .string s
  | nilPtr => exact .nilPtr
  | ptr h h' =>
    simp only [noNew1, decide_eq_true_eq] at hn
    obtain ⟨e1, e2⟩ := hl _ hn
    exact .ptr (okp_eq e1 h) fun e vs ha => by rw [← e2]; exact h' e vs (by rw [at_eq e1]; exact ha)
  | nilSlc => exact .nilSlc
  | slc h hk h' =>
    simp only [noNew1, decide_eq_true_eq] at hn
    obtain ⟨e1, e2⟩ := hl _ hn
    exact .slc (okp_eq e1 h) hk fun hc e vs ha => by rw [← e2]; exact h' hc e vs (by rw [at_eq e1]; exact ha)
  | nilFunc => exact .nilFunc
  | nilIface => exact .nilIface
  | _ => simp [noNew1] at hn

theorem VR.low2 {L : Nat} (hl : ∀ id, id < L → H'[id]? = H[id]? ∧ μ' id = μ id) {v c : Value} (hn : noNew2 L v = true) (h : VR μ' H' v c) : VR μ H v c := by
  cases h with
  | iface t h => exact .iface t (VR.low1 hl (by simpa [noNew2] using hn) h)
  | undf _ => exact .undf _
  | _ => exact VR.low1 hl (by simpa [noNew2] using hn) (by constructor <;> assumption)

theorem LR.low2 {L : Nat} (hl : ∀ id, id < L → H'[id]? = H[id]? ∧ μ' id = μ id) {vs cs : List Value} (h : LR μ' H' vs cs) (hn : vs.all (noNew2 L) = true) : LR μ H vs cs := by
  induction h with
  | nil => exact .nil
  | cons h _ ih => simp at hn; exact .cons (VR.low2 hl hn.1 h) (ih (by simpa using hn.2))

theorem VR.low {L : Nat} (hl : ∀ id, id < L → H'[id]? = H[id]? ∧ μ' id = μ id) {v c : Value} (hn : noNew L v = true) (h : VR μ' H' v c) : VR μ H v c := by
  by_cases hv : ∃ vs, v = .agg vs
  · obtain ⟨vs, rfl⟩ := hv
    obtain ⟨ys, rfl, hl2⟩ := h.of_agg
    have := VR.mk_agg (LR.low2 hl hl2 (by simpa [noNew] using hn))
    simpa using this
  · by_cases hv2 : ∃ vs, v = .tuple vs
    · obtain ⟨vs, rfl⟩ := hv2
      by_cases h0 : vs = #[]
      · subst h0; exact .undf _
      · obtain ⟨ys, rfl, hl2⟩ := h.of_tuple h0
        have := VR.mk_tuple (LR.low2 hl hl2 (by simpa [noNew] using hn))
        simpa using this
    · refine VR.low2 hl ?_ h
      cases v <;> first | exact hn | exact absurd ⟨_, rfl⟩ hv | exact absurd ⟨_, rfl⟩ hv2

theorem take_eq {H H' : Heap} (hl : ∀ id, id < H.length → H'[id]? = H[id]?) (hlen : H.length ≤ H'.length) : List.take H.length H' = H := by
  apply List.ext_getElem?
  intro j
  by_cases hj : j < H.length
  · rw [List.getElem?_take, if_pos hj, hl j hj]
  · rw [List.getElem?_take, if_neg hj, List.getElem?_eq_none (by omega)]

theorem Stp.kept {base : Nat} (h : Stp H.length μ H w μ' H' w') : Stp base μ H w μ H w' :=
  ⟨.refl _ _, h.size, fun b hb _ => h.keep b hb fun id p hi ha => absurd (alive_lt ha) (by omega), fun id p _ ha hp => .inr ⟨ha, p, hp, rfl⟩, fun _ _ => ⟨rfl, rfl⟩, Nat.le_refl _⟩

theorem RH.kept (hR : RH B0 w0 gl b0 okC μ H w) (h : Stp H.length μ H w μ' H' w') (hB : Below B0 w0 w') : RH B0 w0 gl b0 okC μ H w' := by
  refine RH.of hB hR.glob (fun id b hb => ?_) hR.inj0 hR.ext hR.gb
  by_cases ha : alive H id
  · refine (hR.blk hb).ext (.refl _ _) rfl fun p hp => h.keep p.b ?_ fun id p hi ha => absurd (alive_lt ha) (by omega)
    obtain ⟨p', hp', hlt, _⟩ := hR.place ha
    rw [hp] at hp'; cases hp'; exact hlt
  · unfold alive at ha
    rw [hb] at ha
    cases b <;> simp at ha <;> trivial

theorem settle_one {base id g e : Nat} {vs : List Value} (hbl : base ≤ H.length) (hR : RH B0 w0 gl b0 okC μ H w) (hS : Stp H.length μ H w μ' H' w') (hR' : RH B0 w0 gl b0 okC μ' H' w') (ha : H'.at id g = some (e, vs)) (hv : vs.all (noNew1 H.length) = true) (hid : H.length ≤ id) :
    ∃ p, μ' id = some p ∧ RH B0 w0 gl b0 okC (μ.set H.length p) (H ++ [.cells g e vs]) w' ∧ Stp base μ H w (μ.set H.length p) (H ++ [.cells g e vs]) w' := by
  have hH := at_ok ha
  obtain ⟨p, cs, el, fr, hp, hb, hsz, hpn, hcs, hfr, _⟩ := hR'.cells id g e vs hH
  obtain ⟨rfl, hB⟩ := hfr (Nat.le_trans hR.ext hid)
  have hK := hR.kept hS hR'.below
  have hput : H.put none (.cells g e vs) = some (H.length, H ++ [.cells g e vs]) := rfl
  obtain ⟨n1, n2, n3, n4, n5, _⟩ := put_spec hput
  have hoth : ∀ j, j ≠ H.length → (H ++ [ABlk.cells g e vs])[j]? = H[j]? ∧ μ.set H.length p j = μ j := fun j hj => ⟨n4 j hj, Mu.set_other _ _ _ hj⟩
  have hE : Ext μ H (μ.set H.length p) (H ++ [.cells g e vs]) := Ext.of_new n1 hoth
  have hlow : ∀ j, j < H.length → H'[j]? = H[j]? ∧ μ' j = μ j := hS.low
  refine ⟨p, hp, hK.step hE (.refl _ _) hR.ext n5 hoth (fun _ _ _ _ _ => rfl) (fun j q q' hj haj hq _ hq' => ?_) (fun b hbb => ?_), ?_⟩
  · rw [Mu.set_same] at hq'; cases hq'
    have hjl := alive_lt haj
    obtain ⟨e1, e2⟩ := hlow j hjl
    exact (hR'.inj id j p q (by omega) (alive_cells hH) ((alive_of_eq e1).2 haj) hp (e2.trans hq) (.inl (Nat.le_trans hR.ext hid))).symm
  · rw [n3] at hbb; cases hbb
    refine ⟨p, cs, el, (0, 0), Mu.set_same _ _ _, hb, hsz, hpn, fun j v hj => ?_, fun _ => ⟨rfl, hB⟩, fun _ => rfl⟩
    obtain ⟨c, hc, hvr⟩ := hcs j v hj
    exact ⟨c, hc, (VR.low1 hlow (List.all_eq_true.1 hv v (List.mem_of_getElem? hj)) hvr).ext hE⟩
  · refine ⟨hE, hS.size, fun b hb' _ => hS.keep b hb' fun id p hi ha => absurd (alive_lt ha) (by omega), fun j q hj haj hq => ?_, fun j hj => hoth j (by omega), n5⟩
    by_cases hjl : j = H.length
    · subst hjl
      rw [Mu.set_same] at hq; cases hq
      rcases hS.own id p hid (alive_cells hH) hp with h | ⟨h, _⟩
      · exact .inl h
      · exact absurd (alive_lt h) (by omega)
    · rw [Mu.set_other _ _ _ hjl] at hq
      exact .inr ⟨(alive_of_eq (n4 j hjl)).1 haj, q, hq, rfl⟩

theorem settle_slc {base id o g n x e : Nat} {vs : List Value} {c : Value} (hbl : base ≤ H.length) (hR : RH B0 w0 gl b0 okC μ H w) (hS : Stp H.length μ H w μ' H' w') (hR' : RH B0 w0 gl b0 okC μ' H' w') (ha : H'.at id g = some (e, vs)) (hv : vs.all (noNew1 H.length) = true) (hid : H.length ≤ id)
    (hc : VR μ' H' (.slice (some ⟨id, o, some g⟩) n x) c) :
    ∃ μ2, VR μ2 (H ++ [.cells g e vs]) (.slice (some ⟨H.length, o, some g⟩) n x) c ∧ RH B0 w0 gl b0 okC μ2 (H ++ [.cells g e vs]) w' ∧ Stp base μ H w μ2 (H ++ [.cells g e vs]) w' := by
  obtain ⟨p, hp, h1, h2⟩ := settle_one hbl hR hS hR' ha hv hid
  refine ⟨_, ?_, h1, h2⟩
  cases hc with
  | slc q1 q2 q3 =>
    refine .slc (by unfold okp; simp) q2 fun hne e' vs' _ => ?_
    obtain ⟨p', hp', hb, ho, hle⟩ := q3 hne e vs ha
    rw [hp] at hp'; cases hp'
    exact ⟨p, Mu.set_same _ _ _, hb, ho, hle⟩

theorem settle_sim {m : AM.Mode} {base : Nat} {v v2 c : Value} {H2 : Heap} (hbl : base ≤ H.length) (hR : RH B0 w0 gl b0 okC μ H w) (hS : Stp (modeBase m base H.length) μ H w μ' H' w') (hR' : RH B0 w0 gl b0 okC μ' H' w') (hv : VR μ' H' v c)
    (h : settle m H.length v H' = some (v2, H2)) : ∃ μ2, VR μ2 H2 v2 c ∧ RH B0 w0 gl b0 okC μ2 H2 w' ∧ Stp base μ H w μ2 H2 w' := by
  cases m with
  | keep =>
    simp only [settle, Option.some.injEq, Prod.mk.injEq] at h
    obtain ⟨rfl, rfl⟩ := h
    exact ⟨μ', hv, hR', hS⟩
  | drop =>
    simp only [settle] at h
    split at h <;> try contradiction
    rename_i hn
    simp only [Option.some.injEq, Prod.mk.injEq] at h
    obtain ⟨rfl, rfl⟩ := h
    have hS' : Stp H.length μ H w μ' H' w' := hS
    rw [take_eq (fun id hi => (hS'.low id hi).1) hS'.len]
    exact ⟨μ, VR.low hS'.low hn hv, hR.kept hS' hR'.below, hS'.kept⟩
  | one =>
    have hS' : Stp H.length μ H w μ' H' w' := hS
    have htake := take_eq (fun id hi => (hS'.low id hi).1) hS'.len
    simp only [settle] at h
    split at h
    · rename_i hn
      simp only [Option.some.injEq, Prod.mk.injEq] at h
      obtain ⟨rfl, rfl⟩ := h
      rw [htake]
      exact ⟨μ, VR.low hS'.low hn hv, hR.kept hS' hR'.below, hS'.kept⟩
    · split at h
      · rename_i vs0
        split at h <;> try contradiction
        rename_i s r hsr
        split at h <;> try contradiction
        rename_i hr
        split at h <;> try contradiction
        rename_i id o g n x
        split at h <;> try contradiction
        rename_i e vs ha
        split at h <;> try contradiction
        rename_i hc
        simp only [Option.some.injEq, Prod.mk.injEq] at h
        obtain ⟨rfl, rfl⟩ := h
        rw [htake]
        obtain ⟨ys, rfl, hl⟩ := hv.of_tuple (by rintro rfl; simp at hsr)
        rw [hsr] at hl
        cases hl' : ys.toList with
        | nil => rw [hl'] at hl; cases hl
        | cons y1 ys1 =>
          rw [hl'] at hl
          cases hl with
          | cons v1 t1 =>
            cases t1 with
            | cons v2 t2 =>
              cases t2
              obtain ⟨μ2, k1, k2, k3⟩ := settle_slc hbl hR hS' hR' ha hc.1 hc.2 v1
              refine ⟨μ2, ?_, k2, k3⟩
              have := VR.mk_tuple (.cons k1 (.cons ((VR.low2 hS'.low hr v2).ext k3.ext) .nil))
              rw [arr_of_list hl']
              simpa using this
      · rename_i s hne
        split at h <;> try contradiction
        rename_i id o g n x
        split at h <;> try contradiction
        rename_i e vs ha
        split at h <;> try contradiction
        rename_i hc
        simp only [Option.some.injEq, Prod.mk.injEq] at h
        obtain ⟨rfl, rfl⟩ := h
        rw [htake]
        exact settle_slc hbl hR hS' hR' ha hc.1 hc.2 hv

end
end Go.AM
/- Calls: the marks and the results. No condition. -/
namespace Go.AM
open Go.RowKit (Below)

def okRes (P : Program) : List ResultVar → List Res → Bool
  | [], [] => true
  | .tmp t :: xs, .t n :: ys => t == n && t != markSlot && okRes P xs ys
  | .cell a t :: xs, .cell a' n :: ys => a == a' && a != markSlot && okN P t n && okRes P xs ys
  | _, _ => false

section
variable {P : Program} {B0 : Nat} {w0 : World} {gl b0 : Nat} {okC : Nat → Code → ACode → Bool} {μ μ' : Mu} {H H' : Heap} {w w' : World} {ρ : Env} {a : Act}

def resSem (tmps : Array Value) : ResultVar → Sem Value
  | .tmp t => pure (tmps.getD t undef)
  | .cell a t => do loadVar t (← asAddr (tmps.getD a undef))
theorem results_eq (fn : Func) (tmps : Array Value) : results fn tmps = (do
    let vs ← fn.results.mapM (resSem tmps)
    pure (if h : vs.size = 1 then vs[0] else .tuple vs)) := by
  unfold results
  congr 1

theorem mem_res (hR : RH B0 w0 gl b0 okC μ H w) {tmps : Array Value} (hT : TR μ H ρ tmps) : ∀ (xs : List ResultVar) (ys : List Res) {vs : List Value}, okRes P xs ys = true → resAll ρ H ys = some vs →
    ∃ cs, (xs.mapM (resSem tmps)).run P w = .ok cs w ∧ LR μ H vs cs
  | [], [], vs, _, h => by simp [resAll] at h; subst h; exact ⟨[], by simp, .nil⟩
  | [], _ :: _, _, h, _ => by simp [okRes] at h
  | x :: xs, [], _, h, _ => by cases x <;> simp [okRes] at h
  | .tmp t :: xs, .t n :: ys, vs, hok, h => by
    simp only [okRes, Bool.and_eq_true, beq_iff_eq, bne_iff_ne] at hok
    obtain ⟨⟨rfl, hm⟩, h3⟩ := hok
    simp only [resAll] at h
    split at h <;> try contradiction
    rename_i v l e1 e2
    cases h
    obtain ⟨cs, hr, hl⟩ := mem_res hR hT xs ys h3 e2
    exact ⟨_ :: cs, by simp only [List.mapM_cons, Sem.run_bind, resSem, Sem.run_pure, Result.andThen_ok, hr], .cons (hT t v (by simpa [resOf] using e1) hm) hl⟩
  | .cell b t :: xs, .cell b' n :: ys, vs, hok, h => by
    simp only [okRes, Bool.and_eq_true, beq_iff_eq, bne_iff_ne] at hok
    obtain ⟨⟨⟨rfl, hm⟩, hn⟩, h3⟩ := hok
    simp only [resAll] at h
    split at h <;> try contradiction
    rename_i v l e1 e2
    cases h
    obtain ⟨cs, hr, hl⟩ := mem_res hR hT xs ys h3 e2
    simp only [resOf] at e1
    split at e1 <;> try contradiction
    rename_i id o g hb
    split at e1 <;> try contradiction
    rename_i e vs' ha
    obtain ⟨p, ccs, el, fr, hp, ex, hbk, hs, hle, hc, _⟩ := ptr_live hR (hT b _ hb hm) ha
    obtain ⟨c, hrv, hvr⟩ := run_loadVar (w := w) hn hbk (by omega) hc e1
    refine ⟨c :: cs, ?_, .cons hvr hl⟩
    have h1 : (resSem tmps (.cell b t)).run P w = .ok c w := by simp [resSem, ex, asAddr, hrv]
    simp only [List.mapM_cons, Sem.run_bind, h1, Result.andThen_ok, Sem.run_pure, hr]
  | .tmp _ :: _, .cell .. :: _, _, h, _ => by simp [okRes] at h
  | .cell .. :: _, .t _ :: _, _, h, _ => by simp [okRes] at h

theorem results_run {fn : Func} (hR : RH B0 w0 gl b0 okC μ H w) {tmps : Array Value} (hT : TR μ H ρ tmps) {ys : List Res} {vs : List Value} (hok : okRes P fn.results.toList ys = true) (h : resAll ρ H ys = some vs) :
    ∃ c, (results fn tmps).run P w = .ok c w ∧ VR μ H (resV vs) c := by
  obtain ⟨cs, hr, hl⟩ := mem_res hR hT _ _ hok h
  have hr' : (fn.results.mapM (resSem tmps)).run P w = .ok cs.toArray w := by
    rw [Array.mapM_eq_mapM_toList, Sem.run_map]
    rw [hr]
    rfl
  have hlen := hl.length
  refine ⟨if h : cs.toArray.size = 1 then cs.toArray[0] else .tuple cs.toArray, ?_, ?_⟩
  · rw [results_eq, Sem.run_bind, hr']
    simp only [Result.andThen_ok, Sem.run_pure]
  · by_cases h1 : cs.length = 1
    · obtain ⟨c, rfl⟩ := List.length_eq_one_iff.1 h1
      obtain ⟨v, rfl⟩ := List.length_eq_one_iff.1 (hlen.trans h1)
      cases hl with | cons hv _ => simpa [resV] using hv
    · have : resV vs = .tuple vs.toArray := by
        unfold resV; split
        · simp at hlen; omega
        · rfl
      rw [this, dif_neg (by simpa using h1)]
      exact VR.mk_tuple hl

/-- A block that is let go. -/
theorem gone_step {base d : Nat} {b : ABlk} (hR : RH B0 w0 gl b0 okC μ H w) (hb0 : b0 ≤ base) (hbase : base ≤ d) (hd : H[d]? = some b) (hcell : ∀ g e vs, b ≠ .cells g e vs) (hB : Below B0 w w') (hsz : w.heap.size ≤ w'.heap.size)
    (hheap : ∀ p k, μ d = some p → k ≠ p.b → w'.heap[k]? = w.heap[k]?) (hdead : b ≠ .dead) (hgone : b ≠ .gone) : RH B0 w0 gl b0 okC μ (H.set d .gone) w' ∧ Stp base μ H w μ (H.set d .gone) w' := by
  obtain ⟨s1, s2⟩ := set_get (b' := .gone) hd
  have hal : alive H d := by unfold alive; rw [hd]; cases b <;> first | trivial | exact absurd rfl hdead | exact absurd rfl hgone
  obtain ⟨p, hp, hlt, _⟩ := hR.place hal
  have hE : Ext μ H μ (H.set d .gone) := by
    refine ⟨fun j k hk => ?_, fun j k e2 vs2 hk ha => ?_, fun j es2 hk ha => ?_, fun j hk ha => ?_, fun j hk ha => ?_⟩
    · by_cases hj : j = d
      · subst hj; unfold AM.okp; rw [s1]; trivial
      · unfold AM.okp at hk ⊢; rw [s2 j hj]; exact hk
    · by_cases hj : j = d
      · subst hj; unfold Heap.at at ha; rw [s1] at ha; cases ha
      · unfold Heap.at at ha ⊢; rw [s2 j hj] at ha; exact ⟨⟨vs2, ha⟩, rfl⟩
    · by_cases hj : j = d
      · subst hj; rw [s1] at ha; cases ha
      · rw [s2 j hj] at ha; exact ⟨⟨es2, ha⟩, rfl⟩
    · by_cases hj : j = d
      · subst hj; rw [s1] at ha; exact ha.elim
      · rw [s2 j hj] at ha; exact ⟨ha, rfl⟩
    · by_cases hj : j = d
      · subst hj; rw [s1] at ha; cases ha
      · rw [s2 j hj] at ha; exact ⟨ha, rfl⟩
  have hnal : ¬ alive (H.set d .gone) d := by unfold alive; rw [s1]; exact fun h => h
  refine ⟨hR.step hE hB (Nat.le_trans hb0 hbase) (by simp) (fun j hj => ⟨s2 j hj, rfl⟩) (fun j q hj haj hq => hheap p _ hp ?_) (fun j q q' hj haj hq ha _ => absurd ha hnal) (fun b' hb' => ?_),
    ⟨hE, hsz, fun k hk hn => hheap p k hp fun e => hn d p hbase hal hp e.symm, fun j q hj haj hq => .inr ⟨?_, q, hq, rfl⟩, fun j hj => ⟨s2 j (by omega), rfl⟩, by simp⟩⟩
  · exact (hR.inj d j p q (Ne.symm hj) hal haj hp hq (.inl (Nat.le_trans hb0 hbase))).symm
  · rw [s1] at hb'; cases hb'; trivial
  · by_cases hji : j = d
    · subst hji; exact absurd haj hnal
    · exact (alive_of_eq (s2 j hji)).1 haj

theorem run_takeDeferred {b : Nat} (hb : w.heap[b]? = some (.deferred (some []))) : (Instr.takeDeferred b).run P w = .ok [] { w with heap := w.heap.setIfInBounds b (.deferred none) } := by
  simp [Instr.takeDeferred, getObj, setObj, Sem.run, hb]

theorem marks_sim {F : Fence} {n : Nat} {fn : Func} {tmps : Array Value} {R : Ending → World → Prop} {base : Nat} (hb0 : b0 ≤ base) : ∀ (ds : List Nat) (cs : List Deferred) (H H2 : Heap) (w : World), DR μ H ds cs → endMarks base H ds = some H2 → RH B0 w0 gl b0 okC μ H w →
    (∀ w2, RH B0 w0 gl b0 okC μ H2 w2 → Stp base μ H w μ H2 w2 → LeavesIn F n P fn tmps R [] .returning w2) → LeavesInM F n P fn tmps R cs .returning w
  | [], cs, H, H2, w, hD, h, hR, K => by
    cases hD
    simp only [endMarks, Option.some.injEq] at h
    subst h
    exact K w hR (.refl _ _ _ _)
  | d :: ds, cs, H, H2, w, hD, h, hR, K => by
    cases hD with
    | @cons _ b _ cs' h1 h2 t =>
      simp only [endMarks] at h
      split at h <;> try contradiction
      rename_i hd
      split at h <;> try contradiction
      rename_i hbase
      obtain ⟨b', hμ, hB, hb⟩ := hR.defers d hd
      have hbb : b' = b := by have := h2 hd; rw [hμ] at this; cases this; rfl
      subst hbb
      obtain ⟨k1, k2⟩ := gone_step (w' := { w with heap := w.heap.setIfInBounds b' (.deferred none) }) hR hb0 hbase hd (by simp) ⟨rfl, rfl, rfl, by simp, fun k hk => by simp [show b' ≠ k by omega]⟩ (by simp) (fun p k hp hk => by rw [hμ] at hp; cases hp; simp [Ne.symm hk]) (by simp) (by simp)
      refine ⟨by simp, .inl ⟨b', _, rfl, run_takeDeferred hb, ?_⟩⟩
      exact marks_sim hb0 ds cs' _ H2 _ (t.ext k2.ext) h k1 fun w2 r s => K w2 r (k2.trans s)

end
end Go.AM
/- Calls: a function's contract out of its body's run. No condition. -/
namespace Go.AM
open Go.RowKit (Below)

/-- The fence of a walk: none; in a round of l or not. -/
def Fr (ro : Option Nat) : Fence := { Fence.wide with round := ro }
def exitOf : AX → Exit
  | .normal => .normal
  | .exit id => .exit id
  | .ret => .ret

section
variable (P : Program) (F : Nat → Option AFun) (gl : Nat) (okC : Nat → Code → ACode → Bool)

/-- The table's functions stand for the program's. -/
def FunsOk : Prop := ∀ f body res mode, F f = some (.code body res mode) → ∃ fn c, P.funcs[f]? = some fn ∧ fn.body = some c ∧ okC fn.ntmps c body = true ∧ okRes P fn.results.toList res = true ∧ (fn.name == "runtime.NumGoroutine") = false

/-- What the machine does in so many steps the program does. -/
def SimC (n : Nat) : Prop := ∀ (B0 : Nat) (w0 : World) (b0 N base : Nat) (c : Code) (cd : ACode) (ρ ρ' : Env) (H H' : Heap) (x : AX) (μ : Mu) (w : World) (a : Act) (ro : Option Nat) (Q : Exit → Act → World → Prop),
  okC N c cd = true → (ro = none ∨ noRF cd = true) → N ≤ a.tmps.size → b0 ≤ base → base ≤ H.length → RH B0 w0 gl b0 okC μ H w → TR μ H ρ a.tmps → (ro = none → DR μ H (marksOf ρ) a.defers) →
  run F gl n base cd ρ H = some (x, ρ', H') →
  (∀ μ' a' w', RH B0 w0 gl b0 okC μ' H' w' → TR μ' H' ρ' a'.tmps → a'.tmps.size = a.tmps.size → (ro = none → DR μ' H' (marksOf ρ') a'.defers) → Stp base μ H w μ' H' w' → Q (exitOf x) a' w') →
  c.wpIn (Fr ro) 0 P Q a w
end

section
variable {P : Program} {F : Nat → Option AFun} {gl : Nat} {okC : Nat → Code → ACode → Bool} {B0 : Nat} {w0 : World} {b0 : Nat} {μ μ' : Mu} {H H' : Heap} {w w' : World} {ρ : Env} {a : Act}

theorem look2_args : ∀ (vs : List Value) (i t : Nat) (v : Value), look2 (args0 i vs) t = some v → i ≤ t ∧ vs[t - i]? = some v
  | [], i, t, v, h => by simp [args0, look2] at h
  | x :: vs, i, t, v, h => by
    simp only [args0, look2] at h
    split at h
    · rename_i ht
      subst ht
      exact ⟨Nat.le_refl _, by simpa using h⟩
    · obtain ⟨h1, h2⟩ := look2_args vs (i + 1) t v h
      refine ⟨by omega, ?_⟩
      rw [show t - i = (t - (i + 1)) + 1 by omega]
      simpa using h2

theorem marks_args {vs : List Value} (h : ¬ markSlot < vs.length) : marksOf (Env.ofList (args0 0 vs)) = [] := by
  unfold marksOf Env.ofList
  simp only
  cases hl : look2 (args0 0 vs) markSlot with
  | none => rfl
  | some v =>
    obtain ⟨_, h2⟩ := look2_args vs 0 markSlot v hl
    have := (List.getElem?_eq_some_iff.1 h2).1
    omega

theorem TR.args {vs cs : List Value} (h : LR μ H vs cs) (n : Nat) : TR μ H (Env.ofList (args0 0 vs)) (cs.toArray ++ Array.replicate n undef) := by
  intro t v hv _
  obtain ⟨_, h2⟩ := look2_args vs 0 t v hv
  obtain ⟨c, hc, hvr⟩ := h.get? h2
  have : (cs.toArray ++ Array.replicate n undef)[t]? = some c := by
    have hlt := (List.getElem?_eq_some_iff.1 hc).1
    rw [Array.getElem?_append_left (by simpa using hlt)]; simpa using hc
  have e : (cs.toArray ++ Array.replicate n undef).getD t undef = c := by
    rw [Array.getD_eq_getD_getElem?, this]; rfl
  rw [e]; exact hvr

theorem simF {n : Nat} (hF : FunsOk P F okC) (hS : SimC P F gl okC n) {base f : Nat} {vs cs : List Value} {v : Value} {body : ACode} {res : List Res} {mode : AM.Mode} (hf : F f = some (.code body res mode))
    (h : callF F (run F gl n) base f vs H = some (v, H')) (hl : LR μ H vs cs) (hR : RH B0 w0 gl b0 okC μ H w) (hb0 : b0 ≤ base) (hbl : base ≤ H.length) :
    CallsIn Fence.wide 0 P f cs.toArray w fun e w' => ∃ c μ', e = .returned c ∧ VR μ' H' v c ∧ RH B0 w0 gl b0 okC μ' H' w' ∧ Stp base μ H w μ' H' w' := by
  obtain ⟨fn, c, hfn, hbody, hok, hres, _⟩ := hF f body res mode hf
  unfold callF at h
  rw [hf] at h
  simp only at h
  split at h <;> try contradiction
  rename_i hlen
  split at h <;> try contradiction
  rename_i x ρ' H1 hrun
  split at h <;> try contradiction
  rename_i hx
  split at h <;> try contradiction
  rename_i H2 hend
  split at h <;> try contradiction
  rename_i l hres'
  have hmb : b0 ≤ modeBase mode base H.length := by cases mode <;> first | exact hb0 | exact hR.ext
  have hmbl : modeBase mode base H.length ≤ H.length := by cases mode <;> first | exact hbl | exact Nat.le_refl _
  refine callsIn_of_wp_marks hfn hbody trivial ?_
  refine hS B0 w0 b0 fn.ntmps _ c body _ ρ' H H1 x μ w _ none _ hok (.inl rfl) (by simp; omega) hmb hmbl hR (TR.args hl _) (fun _ => by rw [marks_args hlen]; exact .nil) hrun ?_
  intro μ1 a1 w1 hR1 hT1 hsz hD hS1
  have key : LeavesInM Fence.wide 0 P fn a1.tmps (fun e w' => ∃ c μ', e = .returned c ∧ VR μ' H' v c ∧ RH B0 w0 gl b0 okC μ' H' w' ∧ Stp base μ H w μ' H' w') a1.defers .returning w1 := by
    refine marks_sim hmb _ _ H1 H2 w1 (hD rfl) hend hR1 fun w2 hR2 hS2 => ?_
    obtain ⟨c, hrc, hvc⟩ := results_run hR2 (hT1.ext hS2.ext) hres hres'
    obtain ⟨μ2, k1, k2, k3⟩ := settle_sim hbl hR (hS1.trans hS2) hR2 hvc h
    exact ⟨c, hrc, c, μ2, rfl, k1, k2, k3⟩
  rcases hx with rfl | rfl <;> exact key

end
end Go.AM
/- Rounds: a call of yield. No condition. -/
namespace Go.AM
open Go.RowKit (Below)

section
variable {P : Program} {F : Nat → Option AFun} {gl : Nat} {okC : Nat → Code → ACode → Bool} {B0 : Nat} {w0 : World} {b0 : Nat} {μ μ' : Mu} {H H' : Heap} {w w' : World} {ρ : Env} {a : Act}

/-- A loop's record changes its state. -/
theorem loop_step {base l : Nat} {b b' : ABlk} {p : Pl} {o : Obj} (hR : RH B0 w0 gl b0 okC μ H w) (hb0 : b0 ≤ base) (hbase : base ≤ l) (hl : H[l]? = some b) (hb : isLoop (some b)) (hb' : isLoop (some b')) (hp : μ l = some p) (hB : B0 ≤ p.b)
    (hnew : ∀ w', (∀ k, k ≠ p.b → w'.heap[k]? = w.heap[k]?) → w'.heap[p.b]? = some o → Ext μ H μ (H.set l b') → BlkR B0 gl b0 okC μ (H.set l b') w' l b') :
    RH B0 w0 gl b0 okC μ (H.set l b') { w with heap := w.heap.setIfInBounds p.b o } ∧ Stp base μ H w μ (H.set l b') { w with heap := w.heap.setIfInBounds p.b o } := by
  obtain ⟨s1, s2⟩ := set_get (b' := b') hl
  have hal : alive H l := by unfold alive; rw [hl]; cases b <;> first | trivial | exact hb.elim
  obtain ⟨q, hq, hlt, _⟩ := hR.place hal
  rw [hp] at hq; cases hq
  have hok : ∀ k, okp (H.set l b') l k := fun k => by unfold okp; rw [s1]; cases b' <;> first | trivial | exact hb'.elim
  have hE : Ext μ H μ (H.set l b') := by
    refine ⟨fun j k hk => ?_, fun j k e2 vs2 hk ha => ?_, fun j es2 hk ha => ?_, fun j hk ha => ?_, fun j hk ha => ?_⟩
    · by_cases hj : j = l
      · subst hj; exact hok k
      · unfold AM.okp at hk ⊢; rw [s2 j hj]; exact hk
    · by_cases hj : j = l
      · subst hj; unfold Heap.at at ha; rw [s1] at ha; cases b' <;> first | cases ha | exact hb'.elim
      · unfold Heap.at at ha ⊢; rw [s2 j hj] at ha; exact ⟨⟨vs2, ha⟩, rfl⟩
    · by_cases hj : j = l
      · subst hj; rw [s1] at ha; cases ha; exact hb'.elim
      · rw [s2 j hj] at ha; exact ⟨⟨es2, ha⟩, rfl⟩
    · by_cases hj : j = l
      · subst hj; exact ⟨by rw [hl]; exact hb, rfl⟩
      · rw [s2 j hj] at ha; exact ⟨ha, rfl⟩
    · by_cases hj : j = l
      · subst hj; rw [s1] at ha; cases ha; exact hb'.elim
      · rw [s2 j hj] at ha; exact ⟨ha, rfl⟩
  have hsame : (w.heap.setIfInBounds p.b o)[p.b]? = some o := by simp [hlt]
  have hoth : ∀ k, k ≠ p.b → (w.heap.setIfInBounds p.b o)[k]? = w.heap[k]? := fun k hk => by simp [Ne.symm hk]
  have hinj : ∀ j q, j ≠ l → alive H j → μ j = some q → q.b ≠ p.b := fun j q hj haj hq => (hR.inj l j p q (Ne.symm hj) hal haj hp hq (.inl (Nat.le_trans hb0 hbase))).symm
  refine ⟨hR.step hE ⟨rfl, rfl, rfl, by simp, fun k hk => hoth k (by omega)⟩ (Nat.le_trans hb0 hbase) (by simp) (fun j hj => ⟨s2 j hj, rfl⟩) (fun j q hj haj hq => hoth _ (hinj j q hj haj hq)) (fun j q q' hj haj hq _ hq' => ?_) (fun b1 hb1 => ?_),
    ⟨hE, by simp, fun k hk hn => hoth k fun e => hn l p hbase hal hp e.symm, fun j q hj haj hq => .inr ⟨?_, q, hq, rfl⟩, fun j hj => ⟨s2 j (by omega), rfl⟩, by simp⟩⟩
  · rw [hp] at hq'; cases hq'
    exact hinj j q hj haj hq
  · rw [s1] at hb1; cases hb1
    exact hnew _ hoth hsame hE
  · by_cases hji : j = l
    · subst hji; exact hal
    · exact (alive_of_eq (s2 j hji)).1 haj

theorem run_getLoop {b : Nat} {r : Loop} (hb : w.heap[b]? = some (.loop r)) : (Instr.getLoop b).run P w = .ok r w := by
  simp [Instr.getLoop, getObj, Sem.run, hb]
theorem run_setLoop {b : Nat} {r : Loop} (o : Obj) (hb : w.heap[b]? = some (.loop r)) : (setObj b o).run P w = .ok () { w with heap := w.heap.setIfInBounds b o } := by
  simp [setObj, Sem.run, hb]

theorem TR.upd {tmps : Array Value} (hT : TR μ H ρ tmps) {t : Nat} {v c : Value} (ht : t < tmps.size) (hv : VR μ H v c) : TR μ H (ρ.upd t v) (tmps.setIfInBounds t c) := by
  intro s u hs hm
  by_cases hst : s = t
  · subst hst
    have : u = v := by simpa [Env.upd] using hs.symm
    subst this
    have e : (tmps.setIfInBounds s c).getD s undef = c := by rw [Array.getD_eq_getD_getElem?]; simp [ht]
    rw [e]; exact hv
  · have e : (tmps.setIfInBounds t c).getD s undef = tmps.getD s undef := by rw [Array.getD_eq_getD_getElem?, Array.getD_eq_getD_getElem?]; simp [Ne.symm hst]
    rw [e]
    exact hT s u (by simpa [Env.upd, hst] using hs) hm

theorem TR.params : ∀ (ps : List Nat) {vs cs : List Value} {ρ : Env} {tmps : Array Value}, LR μ H vs cs → (∀ p ∈ ps, p < tmps.size) → TR μ H ρ tmps →
    TR μ H ((ps.zip vs).foldl (fun ρ (t, v) => ρ.upd t v) ρ) ((ps.zip cs).foldl (fun tmps (t, a) => tmps.setIfInBounds t a) tmps) ∧ ((ps.zip cs).foldl (fun tmps (t, a) => tmps.setIfInBounds t a) tmps).size = tmps.size
  | [], vs, cs, ρ, tmps, _, _, hT => ⟨by simpa using hT, by simp⟩
  | p :: ps, vs, cs, ρ, tmps, hl, hp, hT => by
    cases hl with
    | nil => exact ⟨by simpa using hT, by simp⟩
    | @cons x y xs ys hv t =>
      have h1 := TR.upd hT (hp p (by simp)) hv
      obtain ⟨k1, k2⟩ := TR.params ps t (tmps := tmps.setIfInBounds p y) (fun q hq => by simpa using hp q (by simp [hq])) h1
      exact ⟨by simpa using k1, by simpa using k2⟩

theorem round_sim {n : Nat} (hS : SimC P F gl okC n) {base l : Nat} {ro : Option Nat} {vs cs : List Value} {v : Value} (hlo : loopOk H l base = true) (h : yieldF (run F gl n) l vs H = some (v, H')) (hl : LR μ H vs cs)
    (hR : RH B0 w0 gl b0 okC μ H w) (hb0 : b0 ≤ base) (hbl : base ≤ H.length) :
    ∃ b, μ l = some ⟨b, 0, 0⟩ ∧ isLoop H[l]? ∧ ∃ r : Loop, (Instr.yield b cs.toArray).run P w = .ok (.round b r.fn ((r.params.zip cs.toArray).foldl (fun tmps (t, a) => tmps.setIfInBounds t a) r.tmps) r.assign r.body) w ∧
      RoundIn (Fr ro) 0 P b r.fn ((r.params.zip cs.toArray).foldl (fun tmps (t, a) => tmps.setIfInBounds t a) r.tmps) r.assign r.body w fun e w' => ∃ c μ', e = .returned c ∧ VR μ' H' v c ∧ RH B0 w0 gl b0 okC μ' H' w' ∧ Stp base μ H w μ' H' w' := by
  unfold yieldF at h
  split at h <;> try contradiction
  rename_i ρl ps as bd bs hHl
  split at h <;> try contradiction
  rename_i hlen
  split at h <;> try contradiction
  rename_i ρ1 H1 hrun1
  split at h <;> try contradiction
  rename_i ρ2 ps2 as2 bd2 bs2 hH1
  split at h <;> try contradiction
  rename_i ρ3 H2 hrun2
  split at h <;> try contradiction
  rename_i ρ4 ps4 as4 bd4 bs4 hH2
  simp only [Option.some.injEq, Prod.mk.injEq] at h
  obtain ⟨rfl, rfl⟩ := h
  unfold loopOk at hlo
  rw [hHl] at hlo
  simp only [Bool.and_eq_true, decide_eq_true_eq] at hlo
  obtain ⟨⟨lo1, lo2⟩, lo3⟩ := hlo
  obtain ⟨hbs, b, cas, cbd, tmps, fn, D, hμ, hB, hb, hT, hps, N, hN, hok1, hok2⟩ := hR.loops l ρl ps as bd bs hHl
  have hll := (List.getElem?_eq_some_iff.1 hHl).1
  refine ⟨b, hμ, by rw [hHl]; trivial, { state := .ready, pending := none, fn := fn, tmps := tmps, params := ps.toArray, assign := cas, body := cbd, defers := D }, ?_, ?_⟩
  · have hcl := hl.length
    have hne : ¬ (cs.toArray.size ≠ ps.toArray.size) := by simp; omega
    simp only [Instr.yield, Sem.run_bind, run_getLoop hb, Result.andThen_ok]
    rw [if_neg hne]
    simp
  · have htm : ((ps.toArray.zip cs.toArray).foldl (fun tmps (x : Nat × Value) => tmps.setIfInBounds x.1 x.2) tmps) = (ps.zip cs).foldl (fun tmps (x : Nat × Value) => tmps.setIfInBounds x.1 x.2) tmps := by
      rw [List.zip_toArray, List.foldl_toArray]
    obtain ⟨hT1, hsz⟩ := TR.params ps hl (fun p hp => (hps p hp).1) hT
    refine roundIn_of_wpIn (F := Fr ro) trivial ?_
    show cas.wpIn (Fr (some b)) 0 P _ _ w
    refine hS B0 w0 b0 N bs cas as _ ρ1 H H1 .normal μ w _ (some b) _ hok1.1 (.inr hok1.2) ?_ hbs (by omega) hR ?_ (fun h => by cases h) hrun1 ?_
    · show N ≤ ((ps.toArray.zip cs.toArray).foldl (fun tmps (x : Nat × Value) => tmps.setIfInBounds x.1 x.2) tmps).size
      rw [htm]; exact hsz ▸ hN
    · show TR μ H _ ((ps.toArray.zip cs.toArray).foldl (fun tmps (x : Nat × Value) => tmps.setIfInBounds x.1 x.2) tmps)
      rw [htm]; exact hT1
    intro μ1 a1 w1 hR1 hTr1 hsz1 _ hS1
    obtain ⟨hbs', b', cas', cbd', tmps', fn', D', hμ1, hB1, hb1, hT1', hps1, N1, hN1, hok1', hok2'⟩ := hR1.loops l ρ2 ps2 as2 bd2 bs2 hH1
    have hokl : okp H l 0 := by unfold okp; rw [hHl]; trivial
    have hbb : b' = b := by
      have := (hS1.ext.loop_ l hokl (by rw [hH1]; trivial)).2
      rw [hμ1, hμ] at this; cases this; rfl
    subst hbb
    obtain ⟨k1, k2⟩ := loop_step (b' := .busy ρ2 ps2 as2 bd2 bs2) (o := .loop { state := .busy, pending := none, fn := fn', tmps := tmps', params := ps2.toArray, assign := cas', body := cbd', defers := D' }) hR1 hb0 lo1 hH1 trivial trivial hμ1 hB1
      fun w' _ hw hE => ⟨hbs', b', cas', cbd', tmps', fn', D', hμ1, hB1, hw, hT1'.ext hE, hps1, N1, hN1, hok1', hok2'⟩
    refine ⟨{ w1 with heap := w1.heap.setIfInBounds b' (.loop { state := .busy, pending := none, fn := fn', tmps := tmps', params := ps2.toArray, assign := cas', body := cbd', defers := D' }) }, ?_, ?_⟩
    · simp only [Instr.beginRound, Sem.run_bind, run_getLoop hb1, Result.andThen_ok, run_setLoop _ hb1, Sem.run_pure]
    show cbd.wpIn (Fr (some b')) 0 P _ a1 _
    refine hS B0 w0 b0 N bs cbd bd _ ρ3 (H1.set l (.busy ρ2 ps2 as2 bd2 bs2)) H2 .normal μ1 _ a1 (some b') _ hok2.1 (.inr hok2.2) ?_ hbs (by have := hS1.len; simp; omega) k1 (hTr1.ext k2.ext) (fun h => by cases h) hrun2 ?_
    · rw [hsz1]
      show N ≤ ((ps.toArray.zip cs.toArray).foldl (fun tmps (x : Nat × Value) => tmps.setIfInBounds x.1 x.2) tmps).size
      rw [htm]; exact hsz ▸ hN
    intro μ2 a2 w2 hR2 hTr2 hsz2 _ hS2
    obtain ⟨hbs'', b'', cas'', cbd'', tmps'', fn'', D'', hμ2, hB2, hb2, hT2', hps2, N2, hN2, hok1'', hok2''⟩ := hR2.busys l ρ4 ps4 as4 bd4 bs4 hH2
    have hl1 := (List.getElem?_eq_some_iff.1 hH1).1
    have hokl1 : okp (H1.set l (.busy ρ2 ps2 as2 bd2 bs2)) l 0 := by unfold okp; rw [(set_get hH1).1]; trivial
    have hbb : b'' = b' := by
      have := (hS2.ext.loop_ l hokl1 (by rw [hH2]; trivial)).2
      rw [hμ2, hμ1] at this; cases this; rfl
    subst hbb
    obtain ⟨k3, k4⟩ := loop_step (b' := .loop ρ4 ps4 as4 bd4 bs4) (o := .loop { state := .ready, pending := none, fn := fn'', tmps := tmps'', params := ps4.toArray, assign := cas'', body := cbd'', defers := D'' }) hR2 hb0 lo1 hH2 trivial trivial hμ2 hB2
      fun w' _ hw hE => ⟨hbs'', b'', cas'', cbd'', tmps'', fn'', D'', hμ2, hB2, hw, hT2'.ext hE, hps2, N2, hN2, hok1'', hok2''⟩
    refine ⟨.bool true, _, ?_, .bool true, μ2, rfl, .bool true, k3, ?_⟩
    · simp only [Instr.endRound, Sem.run_bind, run_getLoop hb2, Result.andThen_ok, run_setLoop _ hb2, Sem.run_pure]
      rfl
    · exact (hS1.weaken lo2).trans (k2.trans ((hS2.weaken lo2).trans k4))

end
end Go.AM
/- One operation: the simulation. No condition. -/
namespace Go.AM
open Go.RowKit (Below)

def okCall : Op → AOp → Bool
  | .call { callee := .value (.func f), args, .. }, .call f' xs => f == f' && okOs args.toList xs
  | .call { callee := .value fo, args, .. }, .callv f' xs => okO fo f' && okOs args.toList xs
  | _, _ => false
def isStop : AOp → Bool
  | .stop => true
  | _ => false
def okOp (P : Program) (o : Op) (x : AOp) : Bool := okVal P o x || okNew P o x || okWr P o x || okCall o x || isStop x

section
variable (P : Program) (F : Nat → Option AFun)
/-- The functions that are not walked. -/
structure ExtOk : Prop where
  from_ : ∀ f, F f = some .fromBits → ∀ n w, (callFunc f #[.int .u64 n]).run P w = .ok (.value (.float .f64 n.toNat)) w
  to : ∀ f, F f = some .toBits → ∀ b w, (callFunc f #[.float .f64 b]).run P w = .ok (.value (.int .u64 b)) w
  canon : ∀ f, F f = some .canonBits → ∀ b w, (callFunc f #[.float .f64 b]).run P w = .ok (.enter f #[.float .f64 b]) w ∧
    CallsIn Fence.wide 0 P f #[.float .f64 b] w fun e w' => e = .returned (.int .u64 (AM.canon b)) ∧ Drawn w w'
end

section
variable {P : Program} {F : Nat → Option AFun} {gl : Nat} {okC : Nat → Code → ACode → Bool} {B0 : Nat} {w0 : World} {b0 : Nat} {μ μ' : Mu} {H H' : Heap} {w w' : World} {ρ : Env} {a : Act}

theorem callsIn_fr {ro : Option Nat} {f : Nat} {args : Array Value} {R : Ending → World → Prop} (h : CallsIn Fence.wide 0 P f args w R) : CallsIn (Fr ro) 0 P f args w R := h

theorem drawn_stp {base : Nat} (hR : RH B0 w0 gl b0 okC μ H w) (d : Drawn w w') : RH B0 w0 gl b0 okC μ H w' ∧ Stp base μ H w μ H w' := ⟨hR.drawn d, (Stp.refl base μ H w).drawn d⟩

theorem call_sim {n : Nat} (hF : FunsOk P F okC) (hX : ExtOk P F) (hS : SimC P F gl okC n) {base f : Nat} {ro : Option Nat} {vs cs : List Value} {v : Value} {o : Oper} {K : Act → World → Prop} {Q : Exit → Act → World → Prop}
    (h : callF F (run F gl n) base f vs H = some (v, H')) (hl : LR μ H vs cs) (hR : RH B0 w0 gl b0 okC μ H w) (hb0 : b0 ≤ base) (hbl : base ≤ H.length)
    (hK : ∀ c μ' w', VR μ' H' v c → RH B0 w0 gl b0 okC μ' H' w' → Stp base μ H w μ' H' w' → K (a.put o.dst c) w') : o.uponIn (Fr ro) 0 P a K Q ((callFunc f cs.toArray).run P w) := by
  cases hf : F f with
  | none => unfold callF at h; rw [hf] at h; cases h
  | some af =>
    cases af with
    | code body res mode =>
      obtain ⟨fn, c, hfn, hbody, _, _, hname⟩ := hF f body res mode hf
      have hr : (callFunc f cs.toArray).run P w = .ok (.enter f cs.toArray) w := by
        have hname' : ¬ fn.name = "runtime.NumGoroutine" := by simpa using hname
        simp [callFunc, hfn, hname', hbody]
      rw [hr, Oper.uponIn_enter]
      refine ⟨fun h => by simp [Fr, Fence.wide] at h, callsIn_fr ((simF hF hS hf h hl hR hb0 hbl).mono fun e w' he => ?_)⟩
      obtain ⟨c, μ', rfl, h1, h2, h3⟩ := he
      exact hK c μ' w' h1 h2 h3
    | fromBits =>
      unfold callF at h
      rw [hf] at h
      simp only at h
      split at h <;> try contradiction
      rename_i k
      simp only [Option.some.injEq, Prod.mk.injEq] at h
      obtain ⟨rfl, rfl⟩ := h
      cases hl with | cons hv t =>
      cases t
      obtain rfl := hv.int_inv
      rw [show ([Value.int .u64 k].toArray) = #[Value.int .u64 k] from rfl, hX.from_ f hf k w, Oper.uponIn_value]
      exact hK _ μ w (.float rfl) hR (.refl _ _ _ _)
    | toBits =>
      unfold callF at h
      rw [hf] at h
      simp only at h
      split at h <;> try contradiction
      rename_i b
      split at h <;> try contradiction
      rename_i hn
      simp only [Option.some.injEq, Prod.mk.injEq] at h
      obtain ⟨rfl, rfl⟩ := h
      cases hl with | cons hv t =>
      cases t
      obtain ⟨y, rfl, hy⟩ := hv.float_inv
      have hyb : y = b := by
        unfold AM.canon at hy
        split at hy
        · subst hy; exact absurd isNaN_nan64 (by simpa using hn)
        · exact hy
      subst hyb
      rw [show ([Value.float .f64 y].toArray) = #[Value.float .f64 y] from rfl, hX.to f hf y w, Oper.uponIn_value]
      exact hK _ μ w (.int _ _) hR (.refl _ _ _ _)
    | canonBits =>
      unfold callF at h
      rw [hf] at h
      simp only at h
      split at h <;> try contradiction
      rename_i b
      simp only [Option.some.injEq, Prod.mk.injEq] at h
      obtain ⟨rfl, rfl⟩ := h
      cases hl with | cons hv t =>
      cases t
      obtain ⟨y, rfl, hy⟩ := hv.float_inv
      obtain ⟨h1, h2⟩ := hX.canon f hf y w
      rw [show ([Value.float .f64 y].toArray) = #[Value.float .f64 y] from rfl, h1, Oper.uponIn_enter]
      refine ⟨fun h => by simp [Fr, Fence.wide] at h, callsIn_fr (h2.mono fun e w' he => ?_)⟩
      obtain ⟨rfl, hd⟩ := he
      obtain ⟨k1, k2⟩ := drawn_stp (base := base) hR hd
      exact hK _ μ w' (by rw [hy]; exact .int _ _) k1 k2

theorem callV_sim {n : Nat} (hF : FunsOk P F okC) (hX : ExtOk P F) (hS : SimC P F gl okC n) {base : Nat} {ro : Option Nat} {fv fc : Value} {vs cs : List Value} {v : Value} {o : Oper} {K : Act → World → Prop} {Q : Exit → Act → World → Prop}
    (h : callV F (run F gl n) base fv vs H = some (v, H')) (hfv : VR μ H fv fc) (hl : LR μ H vs cs) (hR : RH B0 w0 gl b0 okC μ H w) (hb0 : b0 ≤ base) (hbl : base ≤ H.length)
    (hK : ∀ c μ' w', VR μ' H' v c → RH B0 w0 gl b0 okC μ' H' w' → Stp base μ H w μ' H' w' → K (a.put o.dst c) w') :
    o.uponIn (Fr ro) 0 P a K Q ((do let d ← Deferred.ofValue fc cs.toArray; invoke d.target d.args : Sem Next).run P w) := by
  unfold callV at h
  split at h <;> try contradiction
  · rename_i f first caps
    obtain ⟨zs, wsx, rfl, l1, l2⟩ := hfv.of_func
    have e : (do let d ← Deferred.ofValue (.func (.func f) zs wsx) cs.toArray; invoke d.target d.args : Sem Next) = callFunc f (zs ++ cs.toArray ++ wsx) := by
      simp [Deferred.ofValue, invoke]
    rw [e]
    have e2 : zs ++ cs.toArray ++ wsx = (zs.toList ++ cs ++ wsx.toList).toArray := by
      apply Array.toList_inj.1; simp
    rw [e2]
    exact call_sim hF hX hS h ((l1.append hl).append l2) hR hb0 hbl hK
  · rename_i l xs ys
    split at h <;> try contradiction
    rename_i hlo
    obtain ⟨b, hμ, hil, r, h1, h2⟩ := round_sim (ro := ro) hS hlo h hl hR hb0 hbl
    have hfc : fc = .func (.yield b) #[] #[] := by
      cases hfv with
      | yield q1 q2 => have := q2 hil; rw [hμ] at this; cases this; rfl
    subst hfc
    have e : (do let d ← Deferred.ofValue (.func (.yield b) #[] #[]) cs.toArray; invoke d.target d.args : Sem Next) = Instr.yield b cs.toArray := by
      simp [Deferred.ofValue, invoke]
    rw [e, h1, Oper.uponIn_round]
    refine ⟨fun h => by simp [Fr, Fence.wide] at h, h2.mono fun e w' he => ?_⟩
    obtain ⟨c, μ', rfl, k1, k2, k3⟩ := he
    exact hK c μ' w' k1 k2 k3

theorem SimO.upon {base : Nat} {ro : Option Nat} {v : Value} {o : Oper} {K : Act → World → Prop} {Q : Exit → Act → World → Prop} (h : SimO P B0 w0 gl b0 okC base μ H w a.eval o v H')
    (hK : ∀ c μ' w', VR μ' H' v c → RH B0 w0 gl b0 okC μ' H' w' → Stp base μ H w μ' H' w' → K (a.put o.dst c) w') : o.uponIn (Fr ro) 0 P a K Q ((execOp a.eval o).run P w) := by
  obtain ⟨x, c, w', μ', hr, hx, h1, h2, h3⟩ := h
  rw [hr]
  rcases hx with rfl | ⟨rfl, rfl⟩
  · exact hK c μ' w' h1 h2 h3
  · exact hK _ μ' w' h1 h2 h3

theorem okOp_nodefer {o : Op} {x : AOp} (h : okOp P o x = true) (hx : isStop x = false) : ∀ c, o ≠ .defer c := by
  rintro c rfl
  unfold okOp at h
  rw [hx] at h
  cases x <;> simp [okVal, okNew, okWr, okCall] at h

def AOp.isWr : AOp → Bool
  | .st .. | .app .. | .apt .. | .copy .. | .clear .. | .mup .. => true
  | _ => false
theorem okNew_isA {o : Op} {x : AOp} (h : okNew P o x = true) : x.isA = true := by
  unfold okNew at h
  split at h <;> first | rfl | contradiction
theorem okWr_isWr {o : Op} {x : AOp} (h : okWr P o x = true) : x.isWr = true := by
  unfold okWr at h
  split at h <;> first | rfl | contradiction
theorem okVal_not {o : Op} {x : AOp} (h : okVal P o x = true) : x.isA = false ∧ x.isWr = false := by
  unfold okVal at h
  split at h <;> first | exact ⟨rfl, rfl⟩ | contradiction

theorem op_sim {n : Nat} (hF : FunsOk P F okC) (hX : ExtOk P F) (hS : SimC P F gl okC n) {base : Nat} {r : Option Nat} {ro : Option Nat} {v : Value} {o : Oper} {x : AOp} {K : Act → World → Prop} {Q : Exit → Act → World → Prop}
    (hok : okOp P o.op x = true) (h : opS F gl (run F gl n) base r ρ H x = some (v, H')) (hR : RH B0 w0 gl b0 okC μ H w) (hT : TR μ H ρ a.tmps) (hb0 : b0 ≤ base) (hbl : base ≤ H.length) (hr : ∀ i, r = some i → base ≤ i)
    (hK : ∀ c μ' w', VR μ' H' v c → RH B0 w0 gl b0 okC μ' H' w' → Stp base μ H w μ' H' w' → K (a.put o.dst c) w') : o.wpIn (Fr ro) 0 P a w K Q := by
  refine ⟨fun _ _ => trivial, ?_⟩
  by_cases hst : isStop x = true
  · cases x <;> simp [isStop] at hst
    simp [opS] at h
  · have hst' : isStop x = false := by simpa using hst
    rw [Oper.semAt_eq _ _ _ (okOp_nodefer hok hst')]
    by_cases hcall : okCall o.op x = true
    · cases x with
      | call f xs =>
        obtain ⟨d, op', t, p, af, g⟩ := o
        cases op' <;> try (simp [okCall] at hcall; done)
        rename_i c
        obtain ⟨callee, args, ats⟩ := c
        cases callee <;> try (simp [okCall] at hcall; done)
        rename_i fo
        cases fo <;> try (simp [okCall] at hcall; done)
        rename_i f0
        simp only [okCall, Bool.and_eq_true, beq_iff_eq] at hcall
        obtain ⟨rfl, h1⟩ := hcall
        simp only [opS] at h
        split at h <;> try contradiction
        rename_i vs e1
        have hl := evs_sim h1 hR hT e1
        have := call_sim (Q := Q) (ro := ro) hF hX hS h hl hR hb0 hbl hK
        have e : execOp a.eval { dst := d, op := .call { callee := .value (.func f0), args := args, argTypes := ats }, type := t, pos := p, after := af, guard := g } = callFunc f0 (args.toList.map a.eval).toArray := by
          have : (args.toList.map a.eval).toArray = args.map a.eval := by apply Array.toList_inj.1; simp
          rw [this]
          simp [execOp, resolve, Deferred.ofValue, invoke, Act.eval]
        rw [e]; exact this
      | callv f xs =>
        obtain ⟨d, op', t, p, af, g⟩ := o
        cases op' <;> try (simp [okCall] at hcall; done)
        rename_i c
        obtain ⟨callee, args, ats⟩ := c
        cases callee <;> try (simp [okCall] at hcall; done)
        rename_i fo
        have hcall' : okO fo f = true ∧ okOs args.toList xs = true := by
          cases fo <;> simpa [okCall] using hcall
        simp only [opS] at h
        split at h <;> try contradiction
        rename_i fv vs e1 e2
        have hl := evs_sim hcall'.2 hR hT e2
        have := callV_sim (Q := Q) (ro := ro) hF hX hS h (ev_sim hcall'.1 hR hT e1) hl hR hb0 hbl hK
        have e : execOp a.eval { dst := d, op := .call { callee := .value fo, args := args, argTypes := ats }, type := t, pos := p, after := af, guard := g } = (do let d ← Deferred.ofValue (a.eval fo) (args.toList.map a.eval).toArray; invoke d.target d.args) := by
          have : (args.toList.map a.eval).toArray = args.map a.eval := by apply Array.toList_inj.1; simp
          rw [this]
          simp [execOp, resolve]
        rw [e]; exact this
      | _ => simp [okCall] at hcall
    · unfold okOp at hok
      simp only [hst', hcall, Bool.or_false] at hok
      refine SimO.upon (H' := H') (v := v) (base := base) ?_ hK
      have newcase : ∀ {y : AOp} {k : Nat → Value} {b : ABlk} {id : Nat}, okNew P o.op y = true → y.mkBlk ρ = some (k, b) → H.put r b = some (id, H') → v = k id → SimO P B0 w0 gl b0 okC base μ H w a.eval o v H' := by
        intro y k b id h1 h2 h3 h4
        subst h4
        refine sim_new hR hT hb0 ?_ h1 h2 h3
        cases r with
        | none => have := (put_spec h3).2.2.2.2.2.1 rfl; omega
        | some i => have := (put_spec h3).2.2.2.2.2.2 i rfl; subst this; exact hr _ rfl
      simp only [Bool.or_eq_true] at hok
      rcases hok with (hok | hok) | hok
      · have hva : ∃ u, x.val gl ρ H = some u ∧ v = u ∧ H' = H := by
          obtain ⟨n1, n2⟩ := okVal_not hok
          cases x <;> simp only [opS] at h <;>
            first
              | (simp [AOp.isA] at n1; done)
              | (simp [AOp.isWr] at n2; done)
              | (simp [okVal] at hok; done)
              | (split at h <;> try contradiction
                 rename_i hv
                 simp only [Option.some.injEq, Prod.mk.injEq] at h
                 exact ⟨_, hv, h.1.symm, h.2.symm⟩)
        obtain ⟨u, hv, rfl, rfl⟩ := hva
        exact (sim_val hR hT hok hv).simO hR
      · have hna : ∃ k b id, x.mkBlk ρ = some (k, b) ∧ H.put r b = some (id, H') ∧ v = k id := by
          have n1 := okNew_isA hok
          cases x <;> simp only [opS] at h <;>
            first
              | (simp [AOp.isA] at n1; done)
              | (split at h <;> try contradiction
                 rename_i hv
                 split at h <;> try contradiction
                 rename_i hp
                 simp only [Option.some.injEq, Prod.mk.injEq] at h
                 obtain ⟨rfl, rfl⟩ := h
                 exact ⟨_, _, _, hv, hp, rfl⟩)
        obtain ⟨k, b, id, h1, h2, h3⟩ := hna
        exact newcase hok h1 h2 h3
      · have hwa : x.wr base ρ H = some (v, H') := by
          have n1 := okWr_isWr hok
          cases x <;> simp only [opS] at h <;>
            first
              | (simp [AOp.isWr] at n1; done)
              | exact h
        exact sim_wr hR hT hb0 hbl hok hwa

end
end Go.AM
/- The abstract machine without fuel: what it answers with enough of it; its equations. No condition. -/
namespace Go.AM

section
variable (F : Nat → Option AFun) (gl : Nat)

/-- One run answers no less than another. -/
def Le (s t : Run) : Prop := ∀ base c ρ H r, s base c ρ H = some r → t base c ρ H = some r

theorem callF_mono {s t : Run} (h : Le s t) {base f vs H r} (e : callF F s base f vs H = some r) : callF F t base f vs H = some r := by
  unfold callF at e ⊢
  split at e
  · rename_i body res mode hf
    cases hs : s (modeBase mode base H.length) body (Env.ofList (args0 0 vs)) H with
    | none => rw [hs] at e; split at e <;> cases e
    | some x => rw [h _ _ _ _ _ hs]; rw [hs] at e; exact e
  all_goals exact e

theorem yieldF_mono {s t : Run} (h : Le s t) {l vs H r} (e : yieldF s l vs H = some r) : yieldF t l vs H = some r := by
  unfold yieldF at e ⊢
  split at e
  · rename_i ρ ps as bd base hl
    split at e
    · rename_i hn
      simp only [hn, if_true]
      split at e
      · rename_i ρ' H' h1
        rw [h _ _ _ _ _ h1]
        simp only
        split at e
        · rename_i hl2
          split at e
          · rename_i a b c h2
            rw [h _ _ _ _ _ h2]; exact e
          · cases e
        · cases e
      · cases e
    · cases e
  · cases e

theorem callV_mono {s t : Run} (h : Le s t) {base f vs H r} (e : callV F s base f vs H = some r) : callV F t base f vs H = some r := by
  unfold callV at e ⊢
  split at e
  · exact callF_mono F h e
  · split at e
    · rename_i hl
      simp only [hl, if_true]
      exact yieldF_mono h e
    · cases e
  · cases e

theorem opS_mono {s t : Run} (h : Le s t) {base r ρ H o x} (e : opS F gl s base r ρ H o = some x) : opS F gl t base r ρ H o = some x := by
  cases o
  case call f xs =>
    simp only [opS] at e ⊢
    split at e
    · exact callF_mono F h e
    · cases e
  case callv f xs =>
    simp only [opS] at e ⊢
    split at e
    · exact callV_mono F h e
    · cases e
  all_goals exact e

theorem insS_mono {s t : Run} (h : Le s t) {base r x ρ H y} (e : insS F gl s base r x ρ H = some y) : insS F gl t base r x ρ H = some y := by
  unfold insS at e ⊢
  split at e
  · split at e
    · rename_i h1
      rw [opS_mono F gl h h1]; exact e
    · cases e
  · exact e
  · cases e

theorem opsS_mono {s t : Run} (h : Le s t) {base} : ∀ {l ρ H y}, opsS F gl s base l ρ H = some y → opsS F gl t base l ρ H = some y
  | [], _, _, _, e => e
  | x :: l, ρ, H, y, e => by
    simp only [opsS] at e ⊢
    split at e
    · rename_i h1
      rw [insS_mono F gl h h1]; exact opsS_mono h e
    · cases e

theorem itemS_mono {s t : Run} (h : Le s t) {base r0 x ρ H y} (e : itemS F gl s base r0 x ρ H = some y) : itemS F gl t base r0 x ρ H = some y := by
  cases x with
  | run i r x => exact insS_mono F gl h e
  | again i x => exact e
  | apart i j x y => exact e

theorem itemsS_mono {s t : Run} (h : Le s t) {base r0} : ∀ {l ρ H y}, itemsS F gl s base r0 l ρ H = some y → itemsS F gl t base r0 l ρ H = some y
  | [], _, _, _, e => e
  | x :: l, ρ, H, y, e => by
    simp only [itemsS] at e ⊢
    split at e
    · rename_i h1
      rw [itemS_mono F gl h h1]; exact itemsS_mono h e
    · cases e

theorem execC_mono {s t : Run} (h : Le s t) {base} : ∀ {c ρ H y}, execC F gl s base c ρ H = some y → execC F gl t base c ρ H = some y := by
  intro c
  induction c with
  | skip => exact id
  | exit => exact id
  | ret => exact id
  | region is =>
    intro ρ H y e
    simp only [execC] at e ⊢
    split at e
    · rename_i h1; rw [opsS_mono F gl h h1]; exact e
    · cases e
  | draw d is =>
    intro ρ H y e
    simp only [execC] at e ⊢
    split at e
    · rename_i h1; rw [itemsS_mono F gl h h1]; exact e
    · cases e
  | seq a b iha ihb =>
    intro ρ H y e
    simp only [execC] at e ⊢
    cases h1 : execC F gl s base a ρ H with
    | none => rw [h1] at e; cases e
    | some x =>
      rw [iha h1]; rw [h1] at e
      obtain ⟨x, ρ', H'⟩ := x
      cases x
      · exact ihb e
      all_goals exact e
  | cond c a b iha ihb =>
    intro ρ H y e
    simp only [execC] at e ⊢
    split at e
    · exact iha e
    · exact ihb e
    · cases e
  | block id a iha =>
    intro ρ H y e
    simp only [execC] at e ⊢
    cases h1 : execC F gl s base a ρ H with
    | none => rw [h1] at e; cases e
    | some x => rw [iha h1]; rw [h1] at e; exact e
  | loop l a iha =>
    intro ρ H y e
    simp only [execC] at e ⊢
    cases h1 : execC F gl s base a (ρ.mask l) H with
    | none => rw [h1] at e; cases e
    | some x =>
      rw [iha h1]; rw [h1] at e
      obtain ⟨x, ρ', H'⟩ := x
      cases x
      · exact h _ _ _ _ _ e
      all_goals exact e
  | rangeFunc f ps as bd _ _ =>
    intro ρ H y e
    simp only [execC] at e ⊢
    split at e
    · split at e
      · rename_i h1; rw [callF_mono F h h1]; exact e
      · cases e
    · cases e

theorem run_le_succ : ∀ n, Le (run F gl n) (run F gl (n + 1))
  | 0 => fun _ _ _ _ _ e => by cases e
  | n + 1 => fun _ _ _ _ _ e => execC_mono F gl (run_le_succ n) e
theorem run_mono {n m : Nat} (h : n ≤ m) : Le (run F gl n) (run F gl m) := by
  induction h with
  | refl => exact fun _ _ _ _ _ e => e
  | step _ ih => exact fun b c ρ H r e => run_le_succ F gl _ _ _ _ _ _ (ih b c ρ H r e)

open Classical in
/-- The machine with whatever fuel it takes. -/
noncomputable def X : Run := fun base c ρ H =>
  if h : ∃ n r, run F gl n base c ρ H = some r then some (Classical.choose (Classical.choose_spec h)) else none

theorem X_of_run {n base c ρ H r} (h : run F gl n base c ρ H = some r) : X F gl base c ρ H = some r := by
  unfold X
  have hx : ∃ n r, run F gl n base c ρ H = some r := ⟨n, r, h⟩
  rw [dif_pos hx]
  have h1 := Classical.choose_spec (Classical.choose_spec hx)
  have a := run_mono F gl (Nat.le_max_left n (Classical.choose hx)) _ _ _ _ _ h
  have b := run_mono F gl (Nat.le_max_right n (Classical.choose hx)) _ _ _ _ _ h1
  rw [a] at b
  exact congrArg some (Option.some.inj b).symm
theorem run_of_X {base c ρ H r} (h : X F gl base c ρ H = some r) : ∃ n, run F gl n base c ρ H = some r := by
  unfold X at h
  split at h
  · rename_i hx
    have h1 := Classical.choose_spec (Classical.choose_spec hx)
    exact ⟨_, by rw [h1]; exact h⟩
  · cases h

theorem run_le_X (n : Nat) : Le (run F gl n) (X F gl) := fun _ _ _ _ _ e => X_of_run F gl e

theorem callF_fin {base f vs H r} (e : callF F (X F gl) base f vs H = some r) : ∃ n, callF F (run F gl n) base f vs H = some r := by
  unfold callF at e ⊢
  split at e
  · rename_i body res mode hf
    cases hs : X F gl (modeBase mode base H.length) body (Env.ofList (args0 0 vs)) H with
    | none => rw [hs] at e; split at e <;> cases e
    | some x =>
      obtain ⟨n, hn⟩ := run_of_X F gl hs
      exact ⟨n, by rw [hn]; rw [hs] at e; exact e⟩
  all_goals exact ⟨0, e⟩

theorem yieldF_fin {l vs H r} (e : yieldF (X F gl) l vs H = some r) : ∃ n, yieldF (run F gl n) l vs H = some r := by
  unfold yieldF at e ⊢
  split at e
  · rename_i ρ ps as bd base hl
    split at e
    · rename_i hn
      split at e
      · rename_i ρ' H' h1
        obtain ⟨n, h1⟩ := run_of_X F gl h1
        split at e
        · rename_i hl2
          split at e
          · rename_i a b c h2
            obtain ⟨m, h2⟩ := run_of_X F gl h2
            refine ⟨max n m, ?_⟩
            simp only [hn, if_true]
            rw [run_mono F gl (Nat.le_max_left n m) _ _ _ _ _ h1]
            simp only
            rw [hl2]
            simp only
            rw [run_mono F gl (Nat.le_max_right n m) _ _ _ _ _ h2]
            exact e
          · cases e
        · cases e
      · cases e
    · cases e
  · cases e

theorem callV_fin {base f vs H r} (e : callV F (X F gl) base f vs H = some r) : ∃ n, callV F (run F gl n) base f vs H = some r := by
  unfold callV at e ⊢
  split at e
  · exact callF_fin F gl e
  · split at e
    · rename_i hl
      simp only [hl, if_true]
      exact yieldF_fin F gl e
    · cases e
  · cases e

theorem opS_fin {base r ρ H o x} (e : opS F gl (X F gl) base r ρ H o = some x) : ∃ n, opS F gl (run F gl n) base r ρ H o = some x := by
  cases o
  case call f xs =>
    simp only [opS] at e ⊢
    split at e
    · exact callF_fin F gl e
    · cases e
  case callv f xs =>
    simp only [opS] at e ⊢
    split at e
    · exact callV_fin F gl e
    · cases e
  all_goals exact ⟨0, e⟩

theorem insS_fin {base r x ρ H y} (e : insS F gl (X F gl) base r x ρ H = some y) : ∃ n, insS F gl (run F gl n) base r x ρ H = some y := by
  unfold insS at e ⊢
  split at e
  · split at e
    · rename_i h1
      obtain ⟨n, h1⟩ := opS_fin F gl h1
      exact ⟨n, by rw [h1]; exact e⟩
    · cases e
  · exact ⟨0, e⟩
  · cases e

theorem opsS_fin {base} : ∀ {l ρ H y}, opsS F gl (X F gl) base l ρ H = some y → ∃ n, opsS F gl (run F gl n) base l ρ H = some y
  | [], _, _, _, e => ⟨0, e⟩
  | x :: l, ρ, H, y, e => by
    simp only [opsS] at e ⊢
    split at e
    · rename_i h1
      obtain ⟨n, h1⟩ := insS_fin F gl h1
      obtain ⟨m, h2⟩ := opsS_fin e
      exact ⟨max n m, by rw [insS_mono F gl (run_mono F gl (Nat.le_max_left n m)) h1]; exact opsS_mono F gl (run_mono F gl (Nat.le_max_right n m)) h2⟩
    · cases e

theorem itemS_fin {base r0 x ρ H y} (e : itemS F gl (X F gl) base r0 x ρ H = some y) : ∃ n, itemS F gl (run F gl n) base r0 x ρ H = some y := by
  cases x with
  | run i r x => exact insS_fin F gl e
  | again i x => exact ⟨0, e⟩
  | apart i j x y => exact ⟨0, e⟩

theorem itemsS_fin {base r0} : ∀ {l ρ H y}, itemsS F gl (X F gl) base r0 l ρ H = some y → ∃ n, itemsS F gl (run F gl n) base r0 l ρ H = some y
  | [], _, _, _, e => ⟨0, e⟩
  | x :: l, ρ, H, y, e => by
    simp only [itemsS] at e ⊢
    split at e
    · rename_i h1
      obtain ⟨n, h1⟩ := itemS_fin F gl h1
      obtain ⟨m, h2⟩ := itemsS_fin e
      exact ⟨max n m, by rw [itemS_mono F gl (run_mono F gl (Nat.le_max_left n m)) h1]; exact itemsS_mono F gl (run_mono F gl (Nat.le_max_right n m)) h2⟩
    · cases e

theorem execC_fin {base} : ∀ {c ρ H y}, execC F gl (X F gl) base c ρ H = some y → ∃ n, execC F gl (run F gl n) base c ρ H = some y := by
  intro c
  induction c with
  | skip => exact fun e => ⟨0, e⟩
  | exit => exact fun e => ⟨0, e⟩
  | ret => exact fun e => ⟨0, e⟩
  | region is =>
    intro ρ H y e
    simp only [execC] at e ⊢
    split at e
    · rename_i h1; obtain ⟨n, h1⟩ := opsS_fin F gl h1; exact ⟨n, by rw [h1]; exact e⟩
    · cases e
  | draw d is =>
    intro ρ H y e
    simp only [execC] at e ⊢
    split at e
    · rename_i h1; obtain ⟨n, h1⟩ := itemsS_fin F gl h1; exact ⟨n, by rw [h1]; exact e⟩
    · cases e
  | seq a b iha ihb =>
    intro ρ H y e
    simp only [execC] at e ⊢
    cases h1 : execC F gl (X F gl) base a ρ H with
    | none => rw [h1] at e; cases e
    | some x =>
      obtain ⟨n, h2⟩ := iha h1
      rw [h1] at e
      obtain ⟨x, ρ', H'⟩ := x
      cases x
      · obtain ⟨m, h3⟩ := ihb e
        exact ⟨max n m, by rw [execC_mono F gl (run_mono F gl (Nat.le_max_left n m)) h2]; exact execC_mono F gl (run_mono F gl (Nat.le_max_right n m)) h3⟩
      all_goals exact ⟨n, by rw [h2]; exact e⟩
  | cond c a b iha ihb =>
    intro ρ H y e
    simp only [execC] at e ⊢
    split at e
    · exact iha e
    · exact ihb e
    · cases e
  | block id a iha =>
    intro ρ H y e
    simp only [execC] at e ⊢
    cases h1 : execC F gl (X F gl) base a ρ H with
    | none => rw [h1] at e; cases e
    | some x => obtain ⟨n, h2⟩ := iha h1; rw [h1] at e; exact ⟨n, by rw [h2]; exact e⟩
  | loop l a iha =>
    intro ρ H y e
    simp only [execC] at e ⊢
    cases h1 : execC F gl (X F gl) base a (ρ.mask l) H with
    | none => rw [h1] at e; cases e
    | some x =>
      obtain ⟨n, h2⟩ := iha h1
      rw [h1] at e
      obtain ⟨x, ρ', H'⟩ := x
      cases x
      · obtain ⟨m, h3⟩ := run_of_X F gl e
        exact ⟨max n m, by rw [execC_mono F gl (run_mono F gl (Nat.le_max_left n m)) h2]; exact run_mono F gl (Nat.le_max_right n m) _ _ _ _ _ h3⟩
      all_goals exact ⟨n, by rw [h2]; exact e⟩
  | rangeFunc f ps as bd _ _ =>
    intro ρ H y e
    simp only [execC] at e ⊢
    split at e
    · split at e
      · rename_i h1; obtain ⟨n, h1⟩ := callF_fin F gl h1; exact ⟨n, by rw [h1]; exact e⟩
      · cases e
    · exact ⟨0, e⟩

/-- X is the machine's own fixed point. -/
theorem X_eq (base : Nat) (c : ACode) (ρ : Env) (H : Heap) : X F gl base c ρ H = execC F gl (X F gl) base c ρ H := by
  cases h : execC F gl (X F gl) base c ρ H with
  | some r =>
    obtain ⟨n, hn⟩ := execC_fin F gl h
    exact X_of_run F gl (n := n + 1) hn
  | none =>
    cases h' : X F gl base c ρ H with
    | none => rfl
    | some r =>
      obtain ⟨n, hn⟩ := run_of_X F gl h'
      cases n with
      | zero => cases hn
      | succ n => rw [execC_mono F gl (run_le_X F gl n) hn] at h; cases h

/-- A call, with whatever fuel. -/
noncomputable def Cf (base f : Nat) (vs : List Value) (H : Heap) : Option (Value × Heap) := callF F (X F gl) base f vs H

end
end Go.AM
