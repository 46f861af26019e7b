/- What the laid package-level variables give: the machine's first memory stands for the program's. No condition. -/
import Derived.LaidLaws
import Derived.OpenShut
import Derived.ChangeSame
import Derived.Test.YtncmmcmmdidmaaaGreatDoorRows
import Derived.Test.YtncmmcmmdidmaaaGreatDoorS6
set_option linter.all false
set_option maxRecDepth 20000
namespace Go.AM
open Go.RowKit Go.ChangeShapes Go.Proofs

/-- Each listed variable's reading, and that no two share a place. -/
theorem laid_split {P : Program} {W : World} : ∀ (l : List (String × DataW Unit)) (ps : List MemPlace), DataW.LaidVars P W l ps → ps.Nodup → ∃ f : Nat → List MemPlace,
    (∀ (i : Nat) (n : String) (d : DataW Unit), l[i]? = some (n, d) → ∃ g t cs fuel p, P.globalNamed n = some g ∧ (P.globals[g]?).map (·.type) = some t ∧ W.var? P n = some cs ∧
      DataW.trod (fun _ => ()) P W 0 (fun _ => true) false fuel t cs.toList = some (d, p) ∧ f i = MemPlace.row ⟨g, 0, none⟩ cs.size ++ p) ∧
    (∀ i, (f i).Nodup) ∧ (∀ i q, q ∈ f i → q ∈ ps) ∧ ∀ i j q, i ≠ j → q ∈ f i → q ∉ f j
  | [], ps, h, _ => ⟨fun _ => [], fun i n d e => by simp at e, fun _ => List.nodup_nil, fun i q h => by simp at h, fun i j q _ h => by simp at h⟩
  | (n, d) :: r, ps, h, hn => by
    obtain ⟨g, t, cs, fuel, p, q, h1, h2, h3, h4, h5, rfl⟩ := h
    rw [List.nodup_append] at hn
    obtain ⟨n1, n2, n3⟩ := hn
    obtain ⟨f, f1, f2, f3, f4⟩ := laid_split r q h5 n2
    refine ⟨fun i => match i with | 0 => MemPlace.row ⟨g, 0, none⟩ cs.size ++ p | i + 1 => f i, fun i m e hi => ?_, fun i => ?_, fun i x hx => ?_, fun i j x hij hx hx' => ?_⟩
    · cases i with
      | zero =>
        simp only [List.getElem?_cons_zero, Option.some.injEq, Prod.mk.injEq] at hi
        obtain ⟨rfl, rfl⟩ := hi
        exact ⟨g, t, cs, fuel, p, h1, h2, h3, h4, rfl⟩
      | succ i => exact f1 i m e (by simpa using hi)
    · cases i with
      | zero => exact n1
      | succ i => exact f2 i
    · cases i with
      | zero => exact List.mem_append_left _ hx
      | succ i => exact List.mem_append_right _ (f3 i x hx)
    · cases i with
      | zero =>
        cases j with
        | zero => exact hij rfl
        | succ j => exact n3 x hx x (f3 j x hx') rfl
      | succ i =>
        cases j with
        | zero => exact n3 x hx' x (f3 i x hx) rfl
        | succ j => exact f4 i j x (by omega) hx hx'

theorem star : "*" ++ "errors.errorString" = "*errors.errorString" := by decide
theorem row329 (u : TypeId) (h : Tryz.prog.typeName? 3 u = some "*errors.errorString") : u = 329 :=
  typeName_ptr_named (nm := "errors.errorString") (by rw [star]; kernel_rfl) (by kernel_rfl) (by decide) u (by rw [star]; exact h)
theorem cells345 : Tryz.prog.cellsOf 345 = 1 := by kernel_rfl
theorem cells9 : Tryz.prog.cellsOf 9 = 1 := by kernel_rfl

/-- Where a sentinel's block lies, and what its variable holds. -/
structure Sen (W : World) (g : Nat) (F : List MemPlace) (a : Pl) : Prop where
  var : ∃ t, W.heap[g]? = some (.cells #[.iface 329 (.pointer (some ⟨a.b, a.o, none⟩))] t (0, 0))
  blk : ∃ cs el, W.heap[a.b]? = some (.cells cs el (0, 0)) ∧ cs.size = a.n ∧ a.o < a.n
  mem : .cell g 0 ∈ F ∧ .cell a.b a.o ∈ F
  ne : ¬ (g = a.b ∧ 0 = a.o)

theorem sen {W : World} {l : List (String × DataW Unit)} {ps : List MemPlace} {f : Nat → List MemPlace}
    (hf : ∀ (i : Nat) (n : String) (d : DataW Unit), l[i]? = some (n, d) → ∃ g t cs fuel p, Tryz.prog.globalNamed n = some g ∧ (Tryz.prog.globals[g]?).map (·.type) = some t ∧ W.var? Tryz.prog n = some cs ∧
      DataW.trod (fun _ => ()) Tryz.prog W 0 (fun _ => true) false fuel t cs.toList = some (d, p) ∧ f i = MemPlace.row ⟨g, 0, none⟩ cs.size ++ p)
    (hd : ∀ i, (f i).Nodup) (hp : ∀ i q, q ∈ f i → q ∈ ps)
    (hr : ∀ b off, MemPlace.cell b off ∈ ps → (∃ c t, W.heap[b]? = some (.cells c t (0, 0))) ∧ ∀ u v, W.cell? ⟨b, off, none⟩ = some (.iface u v) → Value.okWide Tryz.prog W .any 0 u v)
    {i g : Nat} {n : String} {text : List UInt8} (hl : l[i]? = some (n, .iface "*errors.errorString" (.ptr (.agg [.lit (.string text)])))) (hg : Tryz.prog.globalNamed n = some g)
    (ht : (Tryz.prog.globals[g]?).map (·.type) = some 34) : ∃ a : Pl, Sen W g (f i) a := by
  obtain ⟨g', t, cs, fuel, p, h1, h2, h3, h4, h5⟩ := hf i _ _ hl
  obtain rfl := Option.some.inj (hg.symm.trans h1)
  obtain rfl := Option.some.inj (ht.symm.trans h2)
  obtain ⟨l0⟩ := cs
  have hv0 := h3
  unfold World.var? at h3
  rw [hg] at h3
  simp only [Option.bind_some] at h3
  split at h3 <;> try contradiction
  rename_i cs0 el fr hblk
  cases h3
  have hmem : ∀ k, k < l0.length → MemPlace.cell g k ∈ f i := fun k hk => by
    rw [h5]
    exact List.mem_append_left _ (List.mem_map.2 ⟨k, List.mem_range.2 (by simpa using hk), by simp⟩)
  have ok0 : ∀ u v, l0 = [.iface u v] → Value.okWide Tryz.prog W .any 0 u v := fun u v e => by
    subst e
    exact (hr g 0 (hp i _ (hmem 0 (by simp)))).2 u v (by simpa using World.var?_cell hg hv0 0)
  obtain ⟨a, s, e0, hc, _, _, rfl⟩ := errorString_of_trod Tryz.underlying34 row329 Tryz.underlying329 Tryz.underlying345 rfl rfl Tryz.underlying9 cells345 cells9 h4 ok0
  change l0 = _ at e0
  subst e0
  obtain ⟨⟨c, t, hb⟩, _⟩ := hr g 0 (hp i _ (hmem 0 (by simp)))
  rw [hblk] at hb
  cases hb
  obtain ⟨ab, ao, asp⟩ := a
  have hmem2 : MemPlace.cell ab ao ∈ f i := by
    rw [h5]
    exact List.mem_append_right _ (by simp [MemPlace.row])
  obtain ⟨⟨c2, t2, hb2⟩, _⟩ := hr ab ao (hp i _ hmem2)
  unfold World.cell? at hc
  rw [hb2] at hc
  simp only at hc
  split at hc <;> try contradiction
  rename_i hs
  have has : asp = none := by simpa using hs
  subst has
  refine ⟨⟨ab, ao, c2.size⟩, ⟨_, hblk⟩, ⟨c2, t2, hb2, rfl, ?_⟩, ⟨hmem 0 (by simp), hmem2⟩, ?_⟩
  · exact (Array.getElem?_eq_some_iff.1 hc).1
  · rintro ⟨e1, e2⟩
    simp only at e1 e2
    subst e1
    subst e2
    have := hd i
    rw [h5] at this
    simp [MemPlace.row] at this

/-! ### The table of the steps -/
def cellL : DataW Unit → Option Value
  | .lit (.int k n) => some (.int k n)
  | .lit (.bool b) => some (.bool b)
  | .lit (.string l) => some (.string ⟨l.toArray⟩)
  | _ => none
def aggL : DataW Unit → List (DataW Unit)
  | .agg l => l
  | _ => []
theorem cellL_VR {d : DataW Unit} {v : Value} (h : cellL d = some v) (μ : Mu) (H : Heap) : VR μ H v v := by
  unfold cellL at h
  split at h <;> cases h
  · exact .int _ _
  · exact .bool _
  · exact .string _
theorem cellL_of {P : Program} {W : World} {base fuel : Nat} {t : TypeId} {sp : Nat → Bool} {cs : List Value} {d : DataW Unit} {p : List MemPlace} {v : Value} (hu : P.underlying t = some (.int .i64) ∨ P.underlying t = some .bool ∨ P.underlying t = some .string)
    (h : DataW.trod (fun _ => ()) P W base sp false fuel t cs = some (d, p)) (hv : cellL d = some v) : cs = [v] := by
  rcases hu with hu | hu | hu
  · obtain ⟨n, rfl, hx, _⟩ := DataW.trod_int hu h
    cases hx; cases hv; rfl
  · obtain ⟨b, rfl, hx⟩ := DataW.trod_bool hu h
    cases hx; cases hv; rfl
  · obtain ⟨s, rfl, hx, _⟩ := DataW.trod_string hu h
    cases hx; cases hv; rfl
theorem take1 {α : Type} {l : List α} {k : Nat} {v : α} (h : (l.drop k).take 1 = [v]) : l[k]? = some v := by
  have : ((l.drop k).take 1)[0]? = some v := by rw [h]; rfl
  rw [List.getElem?_take, if_pos (by decide), List.getElem?_drop] at this
  simpa using this
theorem cells242 : Tryz.prog.cellsOf 242 = 5 := by kernel_rfl
theorem cells243 : Tryz.prog.cellsOf 243 = 60 := by kernel_rfl
theorem cells3 : Tryz.prog.cellsOf 3 = 1 := by kernel_rfl
theorem cells4 : Tryz.prog.cellsOf 4 = 1 := by kernel_rfl
def at2 (d : DataW Unit) (i k : Nat) : Option (DataW Unit) := ((aggL d)[i]?.map aggL).bind (·[k]?)
theorem tab_of {W : World} {base fuel : Nat} {sp : Nat → Bool} {cs : List Value} {d : DataW Unit} {p : List MemPlace} (h : DataW.trod (fun _ => ()) Tryz.prog W base sp false fuel 243 cs = some (d, p)) :
    cs.length = 60 ∧ ∀ i k v, i < 12 → k < 5 → (at2 d i k).bind cellL = some v → cs[i * 5 + k]? = some v := by
  obtain ⟨xs, m, _, hx, hl, hn, hel⟩ := DataW.trod_array Tryz.underlying243 h
  cases hx
  refine ⟨by rw [hl, cells243], fun i k v hi hk hv => ?_⟩
  have h1 := hel i hi
  rw [List.getElem?_eq_getElem (by omega), cells242] at h1
  generalize hxi : xs[i] = x at h1
  obtain ⟨ys, n, _, rfl, _, hn2, hf⟩ := DataW.trod_struct Tryz.underlying242 h1
  have hys : ys.length = 5 := hn2
  have h2 : at2 (.agg (xs.map (·.1))) i k = some ys[k].1 := by
    unfold at2 aggL
    simp only
    rw [List.getElem?_map, List.getElem?_eq_getElem (by omega), hxi]
    simp only [Option.map_some, Option.bind_some]
    rw [List.getElem?_map, List.getElem?_eq_getElem (by omega)]
    rfl
  rw [h2, Option.bind_some] at hv
  have key : (((cs.drop (i * 5)).take 5).drop k).take 1 = [v] := by
    match k, hk, hv with
    | 0, _, hv =>
      have e := (show DataW.trod (fun _ => ()) Tryz.prog W base sp false n 9 (List.take (Tryz.prog.cellsOf 9) (List.drop 0 (List.take 5 (List.drop (i * 5) cs)))) = ys[0]? from hf 0 _ rfl)
      rw [cells9, List.getElem?_eq_getElem (by omega)] at e
      exact cellL_of (.inr (.inr Tryz.underlying9)) e hv
    | 1, _, hv =>
      have e := (show DataW.trod (fun _ => ()) Tryz.prog W base sp false n 4 (List.take (Tryz.prog.cellsOf 4) (List.drop 1 (List.take 5 (List.drop (i * 5) cs)))) = ys[1]? from hf 1 _ rfl)
      rw [cells4, List.getElem?_eq_getElem (by omega)] at e
      exact cellL_of (.inr (.inl Tryz.underlying4)) e hv
    | 2, _, hv =>
      have e := (show DataW.trod (fun _ => ()) Tryz.prog W base sp false n 4 (List.take (Tryz.prog.cellsOf 4) (List.drop 2 (List.take 5 (List.drop (i * 5) cs)))) = ys[2]? from hf 2 _ rfl)
      rw [cells4, List.getElem?_eq_getElem (by omega)] at e
      exact cellL_of (.inr (.inl Tryz.underlying4)) e hv
    | 3, _, hv =>
      have e := (show DataW.trod (fun _ => ()) Tryz.prog W base sp false n 3 (List.take (Tryz.prog.cellsOf 3) (List.drop 3 (List.take 5 (List.drop (i * 5) cs)))) = ys[3]? from hf 3 _ rfl)
      rw [cells3, List.getElem?_eq_getElem (by omega)] at e
      exact cellL_of (.inl Tryz.underlying3) e hv
    | 4, _, hv =>
      have e := (show DataW.trod (fun _ => ()) Tryz.prog W base sp false n 4 (List.take (Tryz.prog.cellsOf 4) (List.drop 4 (List.take 5 (List.drop (i * 5) cs)))) = ys[4]? from hf 4 _ rfl)
      rw [cells4, List.getElem?_eq_getElem (by omega)] at e
      exact cellL_of (.inr (.inl Tryz.underlying4)) e hv
  have := take1 key
  rw [List.getElem?_take, if_pos hk, List.getElem?_drop] at this
  exact this
def tbl : List Value := match (Cd.H0[20]? : Option ABlk) with
  | some (.cells _ _ vs) => vs
  | _ => []
theorem tbl_len : tbl.length = 60 := by kernel_rfl
theorem tbl_eq : (List.range 60).map (fun j => tbl[j]?) = (List.range 60).map (fun j => (at2 YtncmmcmmdidmaaaGreatDoor.Rows.laid_timbre_steps_table (j / 5) (j % 5)).bind cellL) := by kernel_rfl
/-- What the table's variable holds. -/
structure Tab (W : World) (F : List MemPlace) : Prop where
  blk : ∃ cs el, W.heap[20]? = some (.cells cs el (0, 0)) ∧ cs.size = 60 ∧ ∀ (j : Nat) (v : Value), tbl[j]? = some v → cs[j]? = some v ∧ ∀ μ H, VR μ H v v
  mem : .cell 20 0 ∈ F
theorem tab {W : World} {l : List (String × DataW Unit)} {ps : List MemPlace} {f : Nat → List MemPlace}
    (hf : ∀ (i : Nat) (n : String) (d : DataW Unit), l[i]? = some (n, d) → ∃ g t cs fuel p, Tryz.prog.globalNamed n = some g ∧ (Tryz.prog.globals[g]?).map (·.type) = some t ∧ W.var? Tryz.prog n = some cs ∧
      DataW.trod (fun _ => ()) Tryz.prog W 0 (fun _ => true) false fuel t cs.toList = some (d, p) ∧ f i = MemPlace.row ⟨g, 0, none⟩ cs.size ++ p)
    (hp : ∀ i q, q ∈ f i → q ∈ ps)
    (hr : ∀ b off, MemPlace.cell b off ∈ ps → (∃ c t, W.heap[b]? = some (.cells c t (0, 0))) ∧ ∀ u v, W.cell? ⟨b, off, none⟩ = some (.iface u v) → Value.okWide Tryz.prog W .any 0 u v)
    {i : Nat} (hl : l[i]? = some ("timbre/steps.table", YtncmmcmmdidmaaaGreatDoor.Rows.laid_timbre_steps_table)) (hg : Tryz.prog.globalNamed "timbre/steps.table" = some 20)
    (ht : (Tryz.prog.globals[20]?).map (·.type) = some 243) : Tab W (f i) := by
  obtain ⟨g', t, cs, fuel, p, h1, h2, h3, h4, h5⟩ := hf i _ _ hl
  obtain rfl := Option.some.inj (hg.symm.trans h1)
  obtain rfl := Option.some.inj (ht.symm.trans h2)
  unfold World.var? at h3
  rw [hg] at h3
  simp only [Option.bind_some] at h3
  split at h3 <;> try contradiction
  rename_i cs0 el fr hblk
  cases h3
  obtain ⟨hlen, hcs⟩ := tab_of h4
  have hsz : cs.size = 60 := by simpa using hlen
  have hm : MemPlace.cell 20 0 ∈ f i := by
    rw [h5]
    exact List.mem_append_left _ (List.mem_map.2 ⟨0, List.mem_range.2 (by omega), by simp⟩)
  obtain ⟨⟨c, t, hb⟩, _⟩ := hr 20 0 (hp i _ hm)
  rw [hblk] at hb
  cases hb
  refine ⟨⟨cs, el, hblk, hsz, fun j v hj => ?_⟩, hm⟩
  have hj60 : j < 60 := by
    have := (List.getElem?_eq_some_iff.1 hj).1
    rw [tbl_len] at this
    exact this
  have e := congrArg (fun l => l[j]?) tbl_eq
  simp only [List.getElem?_map, List.getElem?_range hj60, Option.map_some, Option.some.injEq] at e
  rw [hj] at e
  have e' := e.symm
  have h6 := hcs (j / 5) (j % 5) v (by omega) (by omega) e'
  rw [show j / 5 * 5 + j % 5 = j by omega] at h6
  refine ⟨by simpa using h6, ?_⟩
  obtain ⟨x, hx1, hx2⟩ := Option.bind_eq_some_iff.1 e'
  exact cellL_VR hx2

/-- The machine's first memory: nineteen variables, the table of the steps, four that no law of this claim reads, nineteen messages. -/
def Hg : Heap := (List.range 19).map (fun i => .cells 0 0 [.iface 329 (.pointer (some ⟨24 + i, 0, some 0⟩))]) ++ ([.gone, .cells 0 0 tbl, .gone, .gone, .gone] ++ List.replicate 19 (.cells 0 0 []))
theorem Hg_len : Hg.length = 43 := rfl
theorem Hg_var {i : Nat} (h : i < 19) (T : Heap) : (Hg ++ T)[i]? = some (.cells 0 0 [.iface 329 (.pointer (some ⟨24 + i, 0, some 0⟩))]) := by
  rw [List.getElem?_append_left (by rw [Hg_len]; omega), Hg, List.getElem?_append_left (by simpa using h), List.getElem?_map, List.getElem?_range h]; rfl
theorem Hg_tab (T : Heap) : (Hg ++ T)[20]? = some (.cells 0 0 tbl) := by
  rw [List.getElem?_append_left (by rw [Hg_len]; omega), Hg, List.getElem?_append_right (by simp), List.getElem?_append_left (by simp)]; rfl
theorem Hg_gone {i : Nat} (h : 19 ≤ i) (h' : i < 24) (h2 : i ≠ 20) (T : Heap) : (Hg ++ T)[i]? = some .gone := by
  rw [List.getElem?_append_left (by rw [Hg_len]; omega), Hg, List.getElem?_append_right (by simpa using h), List.getElem?_append_left (by simp; omega)]
  obtain h | h | h | h : i = 19 ∨ i = 21 ∨ i = 22 ∨ i = 23 := by omega
  all_goals subst h; rfl
theorem Hg_text {i : Nat} (h : 24 ≤ i) (h' : i < 43) (T : Heap) : (Hg ++ T)[i]? = some (.cells 0 0 []) := by
  rw [List.getElem?_append_left (by rw [Hg_len]; omega), Hg, List.getElem?_append_right (by simp; omega), List.getElem?_append_right (by simp; omega), List.getElem?_replicate, if_pos (by simp; omega)]
theorem Hg_rest (T : Heap) (k : Nat) : (Hg ++ T)[43 + k]? = T[k]? := by
  rw [List.getElem?_append_right (by rw [Hg_len]; omega), Hg_len, Nat.add_sub_cancel_left]

def mu0 (A : Nat → Pl) (ν : Nat → Pl) : Mu := fun id => if id < 19 then some ⟨id, 0, 1⟩ else if id = 20 then some ⟨20, 0, 60⟩ else if id < 24 then none else if id < 43 then some (A (id - 24)) else some (ν (id - 43))

/-- One block of an argument. -/
def ArgB (W : World) (p : Pl) (b : ABlk) : Prop :=
  b = .gone ∨ ∃ g e vs, b = .cells g e vs ∧ ∃ cs el fr, W.heap[p.b]? = some (.cells cs el fr) ∧ cs.size = p.n ∧ p.o + vs.length ≤ p.n ∧ ∀ (j : Nat) (v : Value), vs[j]? = some v → ∃ c, cs[p.o + j]? = some c ∧ ∀ μ H, VR μ H v c

theorem rh0 {W : World} {okC : Nat → Code → ACode → Bool} {A : Nat → Pl} {f : Nat → List MemPlace} {pos : Nat → Nat} (hA : ∀ k, k < 19 → Sen W k (f (pos k)) (A k)) (hpos : ∀ i j, i < 19 → j < 19 → i ≠ j → pos i ≠ pos j)
    (hpos' : ∀ i, i < 19 → pos i ≠ pos 19) (hB : Tab W (f (pos 19)))
    (hf : ∀ i j q, i ≠ j → q ∈ f i → q ∉ f j) (T : Heap) (ν : Nat → Pl) (hT : ∀ k b, T[k]? = some b → ArgB W (ν k) b) :
    RH W.heap.size W 43 (43 + T.length) okC (mu0 A ν) (Hg ++ T) W := by
  have m1 : ∀ id, id < 19 → mu0 A ν id = some ⟨id, 0, 1⟩ := fun id h => by simp [mu0, h]
  have m2 : ∀ id, 19 ≤ id → id < 24 → id ≠ 20 → mu0 A ν id = none := fun id h h' h2 => by unfold mu0; rw [if_neg (by omega), if_neg h2, if_pos h']
  have m20 : mu0 A ν 20 = some ⟨20, 0, 60⟩ := rfl
  have m3 : ∀ id, 24 ≤ id → id < 43 → mu0 A ν id = some (A (id - 24)) := fun id h h' => by unfold mu0; rw [if_neg (by omega), if_neg (by omega), if_neg (by omega), if_pos h']
  have m4 : ∀ k, mu0 A ν (43 + k) = some (ν k) := fun k => by unfold mu0; rw [if_neg (by omega), if_neg (by omega), if_neg (by omega), if_neg (by omega), Nat.add_sub_cancel_left]
  have cls : ∀ (id : Nat) (b : ABlk), (Hg ++ T)[id]? = some b → (id < 19 ∧ b = .cells 0 0 [.iface 329 (.pointer (some ⟨24 + id, 0, some 0⟩))]) ∨ (19 ≤ id ∧ id < 24 ∧ b = .gone ∧ id ≠ 20) ∨ (id = 20 ∧ b = .cells 0 0 tbl) ∨ (24 ≤ id ∧ id < 43 ∧ b = .cells 0 0 []) ∨ ∃ k, id = 43 + k ∧ T[k]? = some b := fun id b h => by
    by_cases h1 : id < 19
    · rw [Hg_var h1] at h; cases h; exact .inl ⟨h1, rfl⟩
    · by_cases h2 : id < 24
      · by_cases h20 : id = 20
        · subst h20
          rw [Hg_tab] at h; cases h; exact .inr (.inr (.inl ⟨rfl, rfl⟩))
        · rw [Hg_gone (by omega) h2 h20] at h; cases h; exact .inr (.inl ⟨by omega, h2, rfl, h20⟩)
      · by_cases h3 : id < 43
        · rw [Hg_text (by omega) h3] at h; cases h; exact .inr (.inr (.inr (.inl ⟨by omega, h3, rfl⟩)))
        · obtain ⟨k, rfl⟩ : ∃ k, id = 43 + k := ⟨id - 43, by omega⟩
          rw [Hg_rest] at h
          exact .inr (.inr (.inr (.inr ⟨k, rfl, h⟩)))
  have only : ∀ (id : Nat) (b : ABlk), (Hg ++ T)[id]? = some b → b = .gone ∨ ∃ g e vs, b = .cells g e vs := fun id b h => by
    rcases cls id b h with ⟨_, rfl⟩ | ⟨_, _, rfl, _⟩ | ⟨_, rfl⟩ | ⟨_, _, rfl⟩ | ⟨k, rfl, hk⟩
    · exact .inr ⟨_, _, _, rfl⟩
    · exact .inl rfl
    · exact .inr ⟨_, _, _, rfl⟩
    · exact .inr ⟨_, _, _, rfl⟩
    · rcases hT k b hk with rfl | ⟨g, e, vs, rfl, _⟩
      · exact .inl rfl
      · exact .inr ⟨_, _, _, rfl⟩
  refine ⟨Below.refl _ _, fun id h => ⟨?_, fun p hp => ?_⟩, fun id g e vs h => ?_, fun id es h => ?_, fun id ρ ps c1 bd base h => ?_, fun id ρ ps c1 bd base h => ?_, fun id h => ?_, fun id id' p p' hne ha ha' hp hp' => ?_, by simp [Hg_len], ⟨by omega, by omega, trivial, Nat.le_refl _⟩⟩
  · unfold okp
    by_cases h1 : id < 19
    · rw [Hg_var h1]; exact Nat.le_refl _
    · by_cases h20 : id = 20
      · subst h20; rw [Hg_tab]; exact Nat.le_refl _
      · rw [Hg_gone (by omega) h h20]; trivial
  · by_cases h1 : id < 19
    · rw [m1 id h1] at hp; cases hp; exact ⟨rfl, rfl⟩
    · by_cases h20 : id = 20
      · subst h20; cases hp; exact ⟨rfl, rfl⟩
      · rw [m2 id (by omega) h h20] at hp; cases hp
  · rcases cls id _ h with ⟨h1, h2⟩ | ⟨_, _, h2, _⟩ | ⟨h1, h2⟩ | ⟨h1, h1', h2⟩ | ⟨k, rfl, hk⟩
    · cases h2
      obtain ⟨t, hv⟩ := (hA id h1).var
      refine ⟨_, _, _, _, m1 id h1, hv, rfl, by simp, fun j v hj => ?_, fun hb => by omega, fun _ => rfl⟩
      cases j with
      | succ j => simp at hj
      | zero =>
        cases hj
        refine ⟨_, rfl, .iface _ (.ptr ?_ fun e vs _ => ⟨_, m3 (24 + id) (by omega) (by omega), ?_, ?_⟩)⟩
        · unfold okp; rw [Hg_text (by omega) (by omega)]; exact Nat.le_refl _
        · rw [Nat.add_sub_cancel_left]
        · rw [Nat.add_sub_cancel_left, Nat.add_zero]
    · cases h2
    · cases h2
      subst h1
      obtain ⟨cs, el, hb, hs, ho⟩ := hB.blk
      refine ⟨_, cs, el, _, m20, hb, hs, by rw [tbl_len]; exact Nat.le_refl _, fun j v hj => ?_, fun hb => by omega, fun _ => rfl⟩
      obtain ⟨o1, o2⟩ := ho j v hj
      exact ⟨v, by simpa using o1, o2 _ _⟩
    · cases h2
      obtain ⟨cs, el, hb, hs, ho⟩ := (hA (id - 24) (by omega)).blk
      exact ⟨_, cs, el, _, m3 id h1 h1', hb, hs, by simp only [List.length_nil]; omega, fun j v hj => by simp at hj, fun hb => by omega, fun _ => rfl⟩
    · rcases hT k _ hk with h | ⟨g', e', vs', h, cs, el, fr, h1, h2, h3, h4⟩
      · cases h
      · cases h
        refine ⟨_, cs, el, fr, m4 k, h1, h2, h3, fun j v hj => ?_, fun hb => ?_, fun hb => by omega⟩
        · obtain ⟨c, hc, hv⟩ := h4 j v hj
          exact ⟨c, hc, hv _ _⟩
        · have := (List.getElem?_eq_some_iff.1 hk).1
          omega
  · rcases only id _ h with h | ⟨_, _, _, h⟩ <;> cases h
  · rcases only id _ h with h | ⟨_, _, _, h⟩ <;> cases h
  · rcases only id _ h with h | ⟨_, _, _, h⟩ <;> cases h
  · rcases only id _ h with h | ⟨_, _, _, h⟩ <;> cases h
  · have hlt : ∀ i, alive (Hg ++ T) i → i < 43 + T.length := fun i hi => by
      unfold alive at hi
      cases hx : (Hg ++ T)[i]? with
      | none => rw [hx] at hi; exact hi.elim
      | some b =>
        have := (List.getElem?_eq_some_iff.1 hx).1
        rw [List.length_append, Hg_len] at this
        exact this
    have hgone : ∀ i, alive (Hg ++ T) i → i < 43 → i < 19 ∨ i = 20 ∨ 24 ≤ i := fun i hi h43 => by
      by_cases h1 : i < 19
      · exact .inl h1
      · by_cases h2 : i < 24
        · by_cases h20 : i = 20
          · exact .inr (.inl h20)
          · unfold alive at hi; rw [Hg_gone (by omega) h2 h20] at hi; exact hi.elim
        · exact .inr (.inr (by omega))
    refine ⟨fun hb => by have := hlt id ha; omega, fun h1 h2 => ?_⟩
    -- the places of an id below 43
    have pl : ∀ i q, i < 43 → alive (Hg ++ T) i → mu0 A ν i = some q → ∃ k, k < 20 ∧ ((i = k ∧ k < 19) ∨ (i = 24 + k ∧ k < 19) ∨ (i = 20 ∧ k = 19)) ∧ .cell q.b q.o ∈ f (pos k) ∧ (i = k → q.b = k ∧ q.o = 0) ∧ (i = 24 + k → q = A k) := fun i q hi hal hq => by
      rcases hgone i hal hi with h19 | h20 | h24
      · rw [m1 i h19] at hq; cases hq
        exact ⟨i, by omega, .inl ⟨rfl, h19⟩, (hA i h19).mem.1, fun _ => ⟨rfl, rfl⟩, fun h => by omega⟩
      · subst h20
        cases hq
        exact ⟨19, by omega, .inr (.inr ⟨rfl, rfl⟩), hB.mem, fun h => by omega, fun h => by omega⟩
      · rw [m3 i h24 hi] at hq; cases hq
        exact ⟨i - 24, by omega, .inr (.inl ⟨by omega, by omega⟩), (hA (i - 24) (by omega)).mem.2, fun h => by omega, fun _ => rfl⟩
    obtain ⟨k, hk, hik, q1, q2, q3⟩ := pl id p h1 ha hp
    obtain ⟨k', hk', hik', q1', q2', q3'⟩ := pl id' p' h2 ha' hp'
    by_cases hpp : p.b = p'.b ∧ p.o = p'.o
    · exfalso
      by_cases hkk : k = k'
      · subst hkk
        rcases hik with ⟨e, k1⟩ | ⟨e, k1⟩ | ⟨e, k1⟩ <;> rcases hik' with ⟨e', k2⟩ | ⟨e', k2⟩ | ⟨e', k2⟩
        · omega
        · have ne := (hA k k1).ne
          obtain ⟨a1, a2⟩ := q2 e
          have a3 := q3' e'
          subst a3
          exact ne ⟨a1.symm.trans hpp.1, a2.symm.trans hpp.2⟩
        · omega
        · have ne := (hA k k1).ne
          obtain ⟨a1, a2⟩ := q2' e'
          have a3 := q3 e
          subst a3
          exact ne ⟨a1.symm.trans hpp.1.symm, a2.symm.trans hpp.2.symm⟩
        all_goals omega
      · have hpk : pos k ≠ pos k' := by
          by_cases c1 : k < 19
          · by_cases c2 : k' < 19
            · exact hpos k k' c1 c2 hkk
            · rw [show k' = 19 by omega]; exact hpos' k c1
          · rw [show k = 19 by omega]
            exact (hpos' k' (by omega)).symm
        refine hf _ _ _ hpk q1 ?_
        rw [hpp.1, hpp.2]; exact q1'
    · by_cases hb : p.b = p'.b
      · exact .inr fun ho => hpp ⟨hb, ho⟩
      · exact .inl hb
end Go.AM
/- The machine's own laws for symbolic runs. No condition. -/
namespace Go.AM

theorem w64 {x : Int} (h1 : -9223372036854775808 ≤ x) (h2 : x < 9223372036854775808) : IntKind.wrap .i64 x = x := by
  have e : (2 : Int) ^ IntKind.bits .i64 = 18446744073709551616 := rfl
  have e' : (2 : Int) ^ (IntKind.bits .i64 - 1) = 9223372036854775808 := rfl
  have s : IntKind.signed .i64 = true := rfl
  unfold IntKind.wrap
  simp only [e, e', s, Bool.true_and, decide_eq_true_eq, ge_iff_le]
  split <;> omega
theorem wu64 {x : Int} (h1 : 0 ≤ x) (h2 : x < 18446744073709551616) : IntKind.wrap .u64 x = x := by
  have e : (2 : Int) ^ IntKind.bits .u64 = 18446744073709551616 := rfl
  have s : IntKind.signed .u64 = false := rfl
  unfold IntKind.wrap
  simp only [e, s, Bool.false_and]
  simp only [Bool.false_eq_true, if_false]
  omega

/-! ### Runs with what comes behind them -/
section
variable (F : Nat → Option AFun) (gl : Nat)
def opW (base : Nat) (ρ : Env) (H : Heap) (o : AOp) (K : Value → Heap → Prop) : Prop :=
  match opS F gl (X F gl) base none ρ H o with
  | some (v, H') => K v H'
  | none => False
def insW (base : Nat) (x : Ins) (ρ : Env) (H : Heap) (K : Env → Heap → Prop) : Prop :=
  match wantedS ρ x.guard with
  | some true => opW F gl base ρ H x.op fun v H' => K (updD ρ x.dst v) H'
  | some false => K (updD ρ x.dst undf) H
  | none => False
def opsW (base : Nat) : List Ins → Env → Heap → (Env → Heap → Prop) → Prop
  | [], ρ, H, K => K ρ H
  | x :: l, ρ, H, K => insW F gl base x ρ H fun ρ' H' => opsW base l ρ' H' K
def XW (base : Nat) (c : ACode) (ρ : Env) (H : Heap) (Q : AX → Env → Heap → Prop) : Prop :=
  match X F gl base c ρ H with
  | some (x, ρ', H') => Q x ρ' H'
  | none => False
/-- A call, with what comes behind it. -/
def CW (base k : Nat) (vs : List Value) (H : Heap) (K : Value → Heap → Prop) : Prop :=
  match Cf F gl base k vs H with
  | some (v, H') => K v H'
  | none => False
end
section
variable {F : Nat → Option AFun} {gl : Nat} {base : Nat} {ρ : Env} {H : Heap} {Q : AX → Env → Heap → Prop} {K : Env → Heap → Prop}
theorem XW_iff {c : ACode} : XW F gl base c ρ H Q ↔ ∃ x ρ' H', X F gl base c ρ H = some (x, ρ', H') ∧ Q x ρ' H' := by
  unfold XW
  cases h : X F gl base c ρ H with
  | none => simp
  | some r =>
    obtain ⟨x, ρ', H'⟩ := r
    constructor
    · exact fun h => ⟨x, ρ', H', rfl, h⟩
    · rintro ⟨x', ρ1, H1, e, h⟩
      cases e; exact h
theorem XW_mono {c : ACode} {Q' : AX → Env → Heap → Prop} (h : XW F gl base c ρ H Q) (k : ∀ x ρ' H', Q x ρ' H' → Q' x ρ' H') : XW F gl base c ρ H Q' := by
  obtain ⟨x, ρ', H', e, q⟩ := XW_iff.1 h
  exact XW_iff.2 ⟨x, ρ', H', e, k _ _ _ q⟩
theorem insW_of {x : Ins} (h : insW F gl base x ρ H K) : ∃ ρ' H', insS F gl (X F gl) base none x ρ H = some (ρ', H') ∧ K ρ' H' := by
  unfold insW at h
  unfold insS
  split at h <;> try contradiction
  · rename_i hw
    unfold opW at h
    split at h <;> try contradiction
    rename_i v H' ho
    exact ⟨_, _, by rw [hw]; simp only [ho], h⟩
  · rename_i hw
    exact ⟨_, _, by rw [hw], h⟩
theorem opsW_of : ∀ {l : List Ins} {ρ : Env} {H : Heap}, opsW F gl base l ρ H K → ∃ ρ' H', opsS F gl (X F gl) base l ρ H = some (ρ', H') ∧ K ρ' H'
  | [], ρ, H, h => ⟨ρ, H, rfl, h⟩
  | x :: l, ρ, H, h => by
    obtain ⟨ρ1, H1, e1, h1⟩ := insW_of h
    obtain ⟨ρ2, H2, e2, h2⟩ := opsW_of h1
    exact ⟨ρ2, H2, by simp only [opsS, e1]; exact e2, h2⟩
theorem XW_skip (h : Q .normal ρ H) : XW F gl base .skip ρ H Q := by unfold XW; rw [X_eq]; exact h
theorem XW_exit {i : Nat} (h : Q (.exit i) ρ H) : XW F gl base (.exit i) ρ H Q := by unfold XW; rw [X_eq]; exact h
theorem XW_ret (h : Q .ret ρ H) : XW F gl base .ret ρ H Q := by unfold XW; rw [X_eq]; exact h
theorem XW_region {is : List Ins} (h : opsW F gl base is ρ H fun ρ' H' => Q .normal ρ' H') : XW F gl base (.region is) ρ H Q := by
  obtain ⟨ρ', H', e, h'⟩ := opsW_of h
  unfold XW; rw [X_eq]; simp only [execC, e]; exact h'
def seqQ (F : Nat → Option AFun) (gl base : Nat) (b : ACode) (Q : AX → Env → Heap → Prop) : AX → Env → Heap → Prop
  | .normal, ρ, H => XW F gl base b ρ H Q
  | x, ρ, H => Q x ρ H
theorem XW_seq {a b : ACode} (h : XW F gl base a ρ H (seqQ F gl base b Q)) : XW F gl base (.seq a b) ρ H Q := by
  obtain ⟨x, ρ', H', e, h'⟩ := XW_iff.1 h
  unfold XW
  rw [X_eq]
  rw [X_eq] at e
  simp only [execC, e]
  cases x with
  | normal =>
    have h2 : XW F gl base b ρ' H' Q := h'
    unfold XW at h2; rw [X_eq] at h2; exact h2
  | exit i => exact h'
  | ret => exact h'
def blockQ (id : Nat) (Q : AX → Env → Heap → Prop) : AX → Env → Heap → Prop
  | .exit j, ρ, H => if j = id then Q .normal ρ H else Q (.exit j) ρ H
  | x, ρ, H => Q x ρ H
theorem XW_block {id : Nat} {a : ACode} (h : XW F gl base a ρ H (blockQ id Q)) : XW F gl base (.block id a) ρ H Q := by
  obtain ⟨x, ρ', H', e, h'⟩ := XW_iff.1 h
  unfold XW
  rw [X_eq]
  rw [X_eq] at e
  simp only [execC, e]
  cases x with
  | exit i =>
    simp only [blockQ] at h'
    simp only
    split at h'
    · rename_i hi; simp only [hi, if_true]; exact h'
    · rename_i hi; simp only [hi, if_false]; exact h'
  | normal => exact h'
  | ret => exact h'
theorem XW_cond {c : Opnd} {a b : ACode} {t : Bool} (hc : ev ρ c = some (.bool t)) (h1 : t = true → XW F gl base a ρ H Q) (h2 : t = false → XW F gl base b ρ H Q) : XW F gl base (.cond c a b) ρ H Q := by
  unfold XW
  rw [X_eq]
  simp only [execC, hc]
  cases t
  · have h3 := h2 rfl
    unfold XW at h3; rw [X_eq] at h3; exact h3
  · have h3 := h1 rfl
    unfold XW at h3; rw [X_eq] at h3; exact h3
/-- One round of a loop. -/
theorem XW_loop {l : List Nat} {a : ACode} (h : XW F gl base a (ρ.mask l) H (fun x ρ' H' => match x with | .normal => XW F gl base (.loop l a) ρ' H' Q | x => Q x ρ' H')) : XW F gl base (.loop l a) ρ H Q := by
  obtain ⟨x, ρ', H', e, h'⟩ := XW_iff.1 h
  unfold XW
  rw [X_eq]
  rw [X_eq] at e
  simp only [execC, e]
  cases x <;> exact h'
theorem opW_call {f : Nat} {xs : List Opnd} {vs : List Value} {K : Value → Heap → Prop} (he : evs ρ xs = some vs) (h : CW F gl base f vs H K) : opW F gl base ρ H (.call f xs) K := by
  unfold opW; simp only [opS, he]; exact h
theorem CW_of {k : Nat} {vs : List Value} {v : Value} {H' : Heap} {K : Value → Heap → Prop} (e : Cf F gl base k vs H = some (v, H')) (h : K v H') : CW F gl base k vs H K := by
  unfold CW; rw [e]; exact h

/-- What is asked behind the body of a function. -/
def retQ (H0 : Heap) (base : Nat) (m : Mode) (res : List Res) (r : Option (Value × Heap)) : AX → Env → Heap → Prop := fun x ρ H' => (x = .normal ∨ x = .ret) ∧ marksOf ρ = [] ∧ ∃ l, resAll ρ H' res = some l ∧ settle m H0.length (resV l) H' = r
/-- A function's answer, from its body's run. -/
theorem Cf_of {k : Nat} {body : ACode} {res : List Res} {m : Mode} {vs : List Value} {r : Option (Value × Heap)} (h : F k = some (.code body res m)) (hv : vs.length ≤ 1000)
    (hx : XW F gl (modeBase m base H.length) body (Env.ofList (args0 0 vs)) H (retQ H base m res r)) : Cf F gl base k vs H = r := by
  obtain ⟨x, ρ', H', e, hn, hm, l, hl, hs⟩ := XW_iff.1 hx
  unfold Cf callF
  rw [h]
  simp only
  rw [if_neg (by unfold markSlot; omega)]
  rw [e]
  simp only [hn, if_true, hm, endMarks, hl, hs]


/-! ### The same as equations -/
theorem XW_seq_eq {a b : ACode} : XW F gl base (.seq a b) ρ H Q = XW F gl base a ρ H (seqQ F gl base b Q) := by
  refine propext ⟨fun h => ?_, XW_seq⟩
  obtain ⟨x, ρ', H', e, h'⟩ := XW_iff.1 h
  rw [X_eq] at e
  simp only [execC] at e
  cases h1 : execC F gl (X F gl) base a ρ H with
  | none => rw [h1] at e; cases e
  | some y =>
    obtain ⟨y, ρ1, H1⟩ := y
    rw [h1] at e
    refine XW_iff.2 ⟨y, ρ1, H1, by rw [X_eq]; exact h1, ?_⟩
    cases y with
    | normal => exact XW_iff.2 ⟨x, ρ', H', by rw [X_eq]; exact e, h'⟩
    | exit i => cases e; exact h'
    | ret => cases e; exact h'
theorem XW_block_eq {id : Nat} {a : ACode} : XW F gl base (.block id a) ρ H Q = XW F gl base a ρ H (blockQ id Q) := by
  refine propext ⟨fun h => ?_, XW_block⟩
  obtain ⟨x, ρ', H', e, h'⟩ := XW_iff.1 h
  rw [X_eq] at e
  simp only [execC] at e
  cases h1 : execC F gl (X F gl) base a ρ H with
  | none => rw [h1] at e; cases e
  | some y =>
    obtain ⟨y, ρ1, H1⟩ := y
    rw [h1] at e
    refine XW_iff.2 ⟨y, ρ1, H1, by rw [X_eq]; exact h1, ?_⟩
    cases y with
    | normal => cases e; exact h'
    | exit j =>
      simp only at e
      simp only [blockQ]
      split at e
      · rename_i hj; cases e; rw [if_pos hj]; exact h'
      · rename_i hj; cases e; rw [if_neg hj]; exact h'
    | ret => cases e; exact h'
theorem XW_skip_eq : XW F gl base .skip ρ H Q = Q .normal ρ H := by unfold XW; rw [X_eq]; rfl
theorem XW_exit_eq {i : Nat} : XW F gl base (.exit i) ρ H Q = Q (.exit i) ρ H := by unfold XW; rw [X_eq]; rfl
theorem XW_ret_eq : XW F gl base .ret ρ H Q = Q .ret ρ H := by unfold XW; rw [X_eq]; rfl
theorem insW_eq {x : Ins} : insW F gl base x ρ H K = (match insS F gl (X F gl) base none x ρ H with | some (ρ', H') => K ρ' H' | none => False) := by
  unfold insW insS
  cases wantedS ρ x.guard with
  | none => rfl
  | some b => cases b with
    | false => rfl
    | true =>
      simp only [opW]
      cases opS F gl (X F gl) base none ρ H x.op <;> rfl
theorem opsW_eq : ∀ {l : List Ins} {ρ : Env} {H : Heap}, opsW F gl base l ρ H K = (match opsS F gl (X F gl) base l ρ H with | some (ρ', H') => K ρ' H' | none => False)
  | [], _, _ => rfl
  | x :: l, ρ, H => by
    simp only [opsW, opsS]
    rw [insW_eq]
    cases insS F gl (X F gl) base none x ρ H with
    | none => rfl
    | some y => exact opsW_eq
theorem XW_region_eq {is : List Ins} : XW F gl base (.region is) ρ H Q = opsW F gl base is ρ H fun ρ' H' => Q .normal ρ' H' := by
  unfold XW
  rw [X_eq, opsW_eq]
  simp only [execC]
  cases opsS F gl (X F gl) base is ρ H <;> rfl
def cndP (v : Option Value) (A B : Prop) : Prop := match v with
  | some (.bool true) => A
  | some (.bool false) => B
  | _ => False
theorem XW_cond_eq {c : Opnd} {a b : ACode} : XW F gl base (.cond c a b) ρ H Q = cndP (ev ρ c) (XW F gl base a ρ H Q) (XW F gl base b ρ H Q) := by
  unfold XW cndP
  rw [X_eq]
  simp only [execC]
  cases ev ρ c with
  | none => rfl
  | some v =>
    cases v with
    | bool t => cases t <;> simp only [X_eq]
    | _ => rfl
theorem seqQ_normal {b : ACode} : seqQ F gl base b Q .normal ρ H = XW F gl base b ρ H Q := rfl
theorem seqQ_exit {b : ACode} {i : Nat} : seqQ F gl base b Q (.exit i) ρ H = Q (.exit i) ρ H := rfl
theorem seqQ_ret {b : ACode} : seqQ F gl base b Q .ret ρ H = Q .ret ρ H := rfl
theorem blockQ_normal {i : Nat} : blockQ i Q .normal ρ H = Q .normal ρ H := rfl
theorem blockQ_ret {i : Nat} : blockQ i Q .ret ρ H = Q .ret ρ H := rfl
theorem blockQ_exit {i j : Nat} : blockQ i Q (.exit j) ρ H = if j = i then Q .normal ρ H else Q (.exit j) ρ H := rfl

theorem callF_Cf {k : Nat} {vs : List Value} : callF F (X F gl) base k vs H = Cf F gl base k vs H := rfl
theorem dT {p : Prop} [Decidable p] (h : p) : decide p = true := decide_eq_true h
theorem dF {p : Prop} [Decidable p] (h : ¬ p) : decide p = false := decide_eq_false h
theorem bT {a b : Int} (h : a = b) : (a == b) = true := by simp [h]
theorem bF {a b : Int} (h : a ≠ b) : (a == b) = false := by simp [h]
theorem nT {a b : Int} (h : a ≠ b) : (a != b) = true := by simp [h]
theorem nF {a b : Int} (h : a = b) : (a != b) = false := by simp [h]

theorem upd_get (ρ : Env) (t : Nat) (v : Value) (s : Nat) : (ρ.upd t v).get s = if s = t then some v else ρ.get s := rfl
theorem ofList_get (l : List (Nat × Value)) (s : Nat) : (Env.ofList l).get s = look2 l s := rfl
theorem upd_ofList (l : List (Nat × Value)) (t : Nat) (v : Value) : (Env.ofList l).upd t v = Env.ofList ((t, v) :: l) := rfl
end
end Go.AM
/- The law's own witnesses live: run by the machine. No condition. -/
set_option maxRecDepth 100000
namespace Go.AM.Cd
open Go.Proofs
theorem lives_run (b : ABlk) : callF Tb (run Tb 43 100000) 44 31 [] (Hg ++ [b]) = some (.bool true, Hg ++ [b]) := by kernel_rfl
theorem lives (b : ABlk) : Cf Tb 43 44 31 [] (Hg ++ [b]) = some (.bool true, Hg ++ [b]) := callF_mono Tb (run_le_X Tb 43 _) (lives_run b)
end Go.AM.Cd
/- The laws of symbolic runs, for simp. No condition. -/
namespace Go.AM

def cons2 (v : Option Value) (l : Option (List Value)) : Option (List Value) := match v, l with | some v, some l => some (v :: l) | _, _ => none
def fofi (n : Int) : Nat := canon (FloatKind.f64.nearest n)
def pickV (c a b : Option Value) : Option Value := match c with | some (.bool true) => a | some (.bool false) => b | _ => none
def nilV (x : Option Value) : Option Value := match x with | some (.pointer (some a)) => some (.pointer (some a)) | _ => none
def extV (x : Option Value) (i : Nat) : Option Value := match x with | some (.tuple vs) => vs[i]? | _ => none
def faV (off : Nat) (x : Option Value) : Option Value := match x with | some (.pointer (some ⟨id, o, some g⟩)) => some (ptr id (o + off) g) | _ => none
def lenV (x : Option Value) : Option Value := match x with | some (.slice _ n _) => some (.int .i64 n) | _ => none
def cfV (x : Option Value) : Option Value := match x with | some (.int _ n) => some (.float .f64 (fofi n)) | _ => none
def ciV (k : IntKind) (x : Option Value) : Option Value := match x with | some (.int _ n) => some (.int k (k.wrap n)) | _ => none
def reV (x : Option Value) : Option Value := match x with | some (.complex k a _) => some (.float k a) | _ => none
def imV (x : Option Value) : Option Value := match x with | some (.complex k _ b) => some (.float k b) | _ => none
def cxV (x y : Option Value) : Option Value := match x, y with | some (.float .f64 a), some (.float .f64 b) => some (.complex .f64 a b) | _, _ => none
def iasV (e : Nat) (x i : Option Value) : Option Value := match x, asI i with
  | some (.slice (some ⟨id, o, some g⟩) m _), some i => if 0 ≤ i ∧ i < m then some (ptr id (o + i.toNat * e) g) else none
  | _, _ => none
def iaaV (m e : Nat) (x i : Option Value) : Option Value := match x, asI i with
  | some (.pointer (some ⟨id, o, some g⟩)), some i => if 0 ≤ i ∧ i < m then some (ptr id (o + i.toNat * e) g) else none
  | _, _ => none
def ldV (H : Heap) (n : Option Nat) (a : Option Value) : Option Value := match a with
  | some (.pointer (some ⟨id, o, some g⟩)) => match H.at id g with
    | some (_, vs) => part vs o n
    | none => none
  | _ => none
def stV (base : Nat) (H : Heap) (n : Nat) (a v : Value) : Option Heap := match a with
  | .pointer (some ⟨id, o, some g⟩) => match H.at id g with
    | some (e, vs) => if base ≤ id ∧ (Value.list v).length = n ∧ (Value.list v).all oneCell ∧ o + n ≤ vs.length then some (H.set id (.cells g e (setAll vs o (Value.list v)))) else none
    | none => none
  | _ => none

def bsV (e m : Nat) (z : List Value) (ps : Option (List (Nat × Nat × Value))) : Option (List Value) := match ps with | some ps => fillAt (reps z m) ps | none => none
def msV (e by_ : Nat) (z : List Value) (l c : Option Value) : Option (Nat × List Value) := match asI l, asI c with
  | some l, some c => if 0 ≤ l ∧ l ≤ c ∧ c * by_ ≤ 2 ^ 47 ∧ c ≤ 2 ^ 47 then some (l.toNat, reps z l.toNat) else none
  | _, _ => none
def appV (base : Nat) (H : Heap) (e by_ : Nat) (s x : Value) : Option (Value × Heap) := match x with
  | .slice _ m _ => if m = 0 then (match s with | .slice .. => some (s, H) | _ => none) else match H.grab e x m with
    | some new => appd base H e by_ s m new
    | none => none
  | _ => none
def slsV (e : Nat) (x : Option Value) (lo hi : Option (Option Value)) : Option Value := match x with
  | some (.slice a m x) => match cut m lo hi with
    | some (l, h) => match a with
      | some ⟨id, o, some g⟩ => if x = e ∨ x = 0 then some (slc id (o + l * e) g (h - l) x) else none
      | none => some (.slice none 0 0)
      | _ => none
    | none => none
  | _ => none
def fldV (o : Nat) (n : Option Nat) (x : Option Value) : Option Value := match x with | some (.agg cs) => part cs.toList o n | _ => none
def ixaV (m e : Nat) (n : Option Nat) (x i : Option Value) : Option Value := match x, asI i with
  | some (.agg cs), some i => if 0 ≤ i ∧ i < m then part cs.toList (i.toNat * e) n else none
  | _, _ => none
def bxV (n : Nat) (x : Option Value) : Option (List Value) := match x with
  | some v => if (Value.list v).length = n ∧ (Value.list v).all oneCell then some (Value.list v) else none
  | none => none
def mkV (z : List Value) (ps : Option (List (Nat × Nat × Value))) : Option Value := match ps with
  | some ps => match fillAt z ps with | some cs => some (.agg cs.toArray) | none => none
  | none => none
def consq (i e : Nat) (v : Option Value) (l : Option (List (Nat × Nat × Value))) : Option (List (Nat × Nat × Value)) := match v, l with | some v, some l => some ((i * e, e, v) :: l) | _, _ => none
def consp (o n : Nat) (v : Option Value) (l : Option (List (Nat × Nat × Value))) : Option (List (Nat × Nat × Value)) := match v, l with | some v, some l => some ((o, n, v) :: l) | _, _ => none

def obV (o : Option Value) (k : Value → Heap → Prop) (H : Heap) : Prop := match o with | some v => k v H | none => False
def obH (o : Option Heap) (k : Value → Heap → Prop) : Prop := match o with | some H => k undf H | none => False
def obR (o : Option (Value × Heap)) (k : Value → Heap → Prop) : Prop := match o with | some (v, H) => k v H | none => False
def obN (f : Nat → Value) (e : Nat) (c : Option (List Value)) (H : Heap) (k : Value → Heap → Prop) : Prop := match c with | some cs => k (f H.length) (H ++ [.cells 0 e cs]) | none => False
def obM (e : Nat) (c : Option (Nat × List Value)) (H : Heap) (k : Value → Heap → Prop) : Prop := match c with | some (n, cs) => k (slc H.length 0 0 n e) (H ++ [.cells 0 e cs]) | none => False
def stB (base : Nat) (H : Heap) (id o g n : Nat) (v : Value) (b : Option (Nat × List Value)) : Option Heap := match b with
  | some (e, vs) => if base ≤ id ∧ (Value.list v).length = n ∧ (Value.list v).all oneCell ∧ o + n ≤ vs.length then some (H.set id (.cells g e (setAll vs o (Value.list v)))) else none
  | none => none
theorem stV_eq (base : Nat) (H : Heap) (n id o g : Nat) (v : Value) : stV base H n (.pointer (some ⟨id, o, some g⟩)) v = stB base H id o g n v (H.at id g) := by
  unfold stV stB
  cases h : H.at id g <;> simp only [h]
theorem stB1 (base : Nat) (H : Heap) (id o g : Nat) (v : Value) (e : Nat) (vs : List Value) (h : Value.list v = [v]) (h2 : oneCell v = true) : stB base H id o g 1 v (some (e, vs)) = if base ≤ id ∧ o + 1 ≤ vs.length then some (List.set H id (.cells g e (vs.set o v))) else none := by
  simp only [stB, h, List.length_singleton, List.all_cons, h2, List.all_nil, Bool.and_true, true_and, setAll]
def binO (op : BinOp) (x y : Option Value) : Option Value := match x, y with | some a, some b => binv op a b | _, _ => none
def unO (op : UnOp) (x : Option Value) : Option Value := match x with | some a => unv op a | none => none
def mkiV (t : Nat) (x : Option Value) : Option Value := match x with | some v => some (.iface t v) | none => none
def mkfV (f : Nat) (x : Option (List Value)) : Option Value := match x with | some vs => some (.func (.func f) #[] vs.toArray) | none => none
def stO (base : Nat) (H : Heap) (n : Nat) (a v : Option Value) : Option Heap := match a, v with | some a, some v => stV base H n a v | _, _ => none
def appO (base : Nat) (H : Heap) (e b : Nat) (x y : Option Value) : Option (Value × Heap) := match x, y with | some x, some y => appV base H e b x y | _, _ => none
def eqiV (gl : Nat) (H : Heap) (d : Nat) (n c : Bool) (x y : Option Value) : Option Value := match x, y with
  | some a, some b => match eqIf gl H d c a b with | some r => some (.bool (if n then !r else r)) | none => none
  | _, _ => none
def eqpV (gl : Nat) (H : Heap) (n : Bool) (x y : Option Value) : Option Value := match x, y with
  | some a, some b => match eqPtr gl H a b with | some r => some (.bool (if n then !r else r)) | none => none
  | _, _ => none
def eqbV (n : Bool) (x y : Option Value) : Option Value := match x, y with | some (.bool a), some (.bool b) => some (.bool (if n then !(a == b) else a == b)) | _, _ => none
def eqsV (n : Bool) (m : Nat) (x y : Option Value) : Option Value := match x, y with
  | some (.agg a), some (.agg b) => if a.size = m ∧ b.size = m then (match eqInts a.toList b.toList with | some r => some (.bool (if n then !r else r)) | none => none) else none
  | _, _ => none
def mnV (x y : Option Value) : Option Value := match x, y with | some (.int k a), some (.int _ b) => some (.int k (if b < a then b else a)) | _, _ => none
def mxV (x y : Option Value) : Option Value := match x, y with | some (.int k a), some (.int _ b) => some (.int k (if b > a then b else a)) | _, _ => none
def lensV (x : Option Value) : Option Value := match x with | some (.string s) => some (.int .i64 s.size) | _ => none
def ixsV (x i : Option Value) : Option Value := match x, asI i with
  | some (.string s), some i => if 0 ≤ i then (match s.data.toList[i.toNat]? with | some b => some (.int .u8 b.toNat) | none => none) else none
  | _, _ => none
def slaV (m e : Nat) (x : Option Value) (lo hi : Option (Option Value)) : Option Value := match x with
  | some (.pointer (some ⟨id, o, some g⟩)) => match cut m lo hi with | some (l, h) => some (slc id (o + l * e) g (h - l) 0) | none => none
  | _ => none
def sltV (x : Option Value) (lo hi : Option (Option Value)) : Option Value := match x with
  | some (.string s) => match cut s.size lo hi with | some (l, h) => some (.string (s.extract l h)) | none => none
  | _ => none
def s2aV (n : Nat) (x : Option Value) : Option Value := match x with | some (.slice (some a) m _) => if n ≤ m then some (.pointer (some a)) else none | _ => none
def lookV (H : Heap) (z : Value) (m k : Option Value) : Option Value := match m, k with
  | some (.map (some id)), some (.int .i64 k) => match H[id]? with
    | some (.map es) => match es.lookup k with | some v => some (.tuple #[v, .bool true]) | none => some (.tuple #[z, .bool false])
    | _ => none
  | _, _ => none
def b2sV (H : Heap) (x : Option Value) : Option Value := match x with
  | some (.slice none _ _) => some (.string .empty)
  | some (.slice (some ⟨id, o, some g⟩) m _) => match H.at id g with
    | some (_, vs) => if o + m ≤ vs.length then (match bytesOf ((vs.drop o).take m) with | some l => some (.string ⟨l.toArray⟩) | none => none) else none
    | none => none
  | _ => none
def dget (ρ : Env) (d : Option Nat) : Option Value := match d with | some d => ρ.get d | none => none
def agR (v w : Option Value) (K : Env → Heap → Prop) (ρ : Env) (H : Heap) : Prop := match v, w with | some v, some w => if vbeq v w then K ρ H else False | _, _ => False
def nrm (Q : AX → Env → Heap → Prop) (ρ : Env) (H : Heap) : Prop := Q .normal ρ H
def updK (K : Env → Heap → Prop) (d : Option Nat) (ρ : Env) (v : Value) (H : Heap) : Prop := K (updD ρ d v) H
mutual
theorem vbeq_refl0 : ∀ a : Value, vbeq a a = true
  | .bool _ | .int .. | .float .. | .complex .. | .string _ | .pointer _ | .slice .. | .map _ | .chan _ | .nilFunc | .nilIface => by simp [vbeq]
  | .func _ xs ys => by simp [vbeq, abeq_refl0 xs, abeq_refl0 ys]
  | .iface _ v => by simp [vbeq, vbeq_refl0 v]
  | .agg xs => by simp [vbeq, abeq_refl0 xs]
  | .tuple xs => by simp [vbeq, abeq_refl0 xs]
theorem abeq_refl0 : ∀ a : Array Value, abeq a a = true
  | ⟨xs⟩ => by simp [abeq, lbeq_refl0 xs]
theorem lbeq_refl0 : ∀ a : List Value, lbeq a a = true
  | [] => by simp [lbeq]
  | x :: xs => by simp [lbeq, vbeq_refl0 x, lbeq_refl0 xs]
end
section
variable (F : Nat → Option AFun) (gl : Nat)
def opsR (base : Nat) (K : Env → Heap → Prop) (l : List Ins) (ρ : Env) (H : Heap) : Prop := opsW F gl base l ρ H K
def insR (base : Nat) (K : Env → Heap → Prop) (x : Ins) (ρ : Env) (H : Heap) : Prop := insW F gl base x ρ H K
def opR (base : Nat) (k : Value → Heap → Prop) (ρ : Env) (H : Heap) (o : AOp) : Prop := opW F gl base ρ H o k
def gdR (base : Nat) (v : Option Value) (w : Bool) (K : Env → Heap → Prop) (d : Option Nat) (o : AOp) (ρ : Env) (H : Heap) : Prop := match v with
  | some (.bool b) => if b = w then opR F gl base (updK K d ρ) ρ H o else K (updD ρ d undf) H
  | some (.tuple _) => False
  | some _ => K (updD ρ d undf) H
  | none => False
def cndR (base : Nat) (v : Option Value) (a b : ACode) (ρ : Env) (H : Heap) (Q : AX → Env → Heap → Prop) : Prop := cndP v (XW F gl base a ρ H Q) (XW F gl base b ρ H Q)
def callR (base f : Nat) (vs : Option (List Value)) (H : Heap) (k : Value → Heap → Prop) : Prop := match vs with | some vs => obR (Cf F gl base f vs H) k | none => False
def callvR (base : Nat) (f : Option Value) (vs : Option (List Value)) (H : Heap) (k : Value → Heap → Prop) : Prop := match f, vs with | some f, some vs => obR (callV F (X F gl) base f vs H) k | _, _ => False
end
section
variable (F : Nat → Option AFun) (gl : Nat)
def runW (base : Nat) (isA : Bool) (r : Nat) (x : Ins) (ρ : Env) (H : Heap) (K : Env → Heap → Prop) : Prop :=
  match isA with
  | false => insW F gl base x ρ H K
  | true => match insS F gl (X F gl) base (some r) x ρ H with | some (ρ', H') => K ρ' H' | none => False
def againW (x : Ins) (ρ : Env) (H : Heap) (K : Prop) : Prop :=
  match wantedS ρ x.guard with
  | some true => match x.op.val gl ρ H, x.dst with
    | some v, some d => match ρ.get d with
      | some v' => if vbeq v v' then K else False
      | none => False
    | _, _ => False
  | some false => K
  | none => False
def itemsW (base r0 : Nat) : List Item → Env → Heap → (Env → Heap → Prop) → Prop
  | [], ρ, H, K => K ρ H
  | .run _ r x :: l, ρ, H, K => runW F gl base x.op.isA (r0 + r) x ρ H fun ρ' H' => itemsW base r0 l ρ' H' K
  | .again _ x :: l, ρ, H, K => againW gl x ρ H (itemsW base r0 l ρ H K)
  | .apart i j x y :: l, ρ, H, K => match itemS F gl (X F gl) base r0 (.apart i j x y) ρ H with | some _ => itemsW base r0 l ρ H K | none => False
end
section
variable {F : Nat → Option AFun} {gl : Nat}
theorem itemsW_eq {base r0 : Nat} {K : Env → Heap → Prop} : ∀ {l : List Item} {ρ : Env} {H : Heap}, itemsW F gl base r0 l ρ H K = (match itemsS F gl (X F gl) base r0 l ρ H with | some (ρ', H') => K ρ' H' | none => False)
  | [], _, _ => rfl
  | .run i r x :: l, ρ, H => by
    simp only [itemsW, itemsS, itemS]
    have key : ∀ o : Option Nat, (match insS F gl (X F gl) base o x ρ H with | some (ρ', H') => itemsW F gl base r0 l ρ' H' K | none => False) =
        (match (match insS F gl (X F gl) base o x ρ H with | some (ρ', H') => itemsS F gl (X F gl) base r0 l ρ' H' | none => none) with | some (ρ', H') => K ρ' H' | none => False) := fun o => by
      cases insS F gl (X F gl) base o x ρ H with
      | none => rfl
      | some y => exact itemsW_eq
    cases hA : x.op.isA with
    | false => simp only [runW, insW_eq]; exact key none
    | true => simp only [runW]; exact key (some (r0 + r))
  | .again i x :: l, ρ, H => by
    simp only [itemsW, itemsS, itemS, againW]
    cases wantedS ρ x.guard with
    | none => rfl
    | some b => cases b with
      | false => exact itemsW_eq
      | true =>
        simp only
        cases x.op.val gl ρ H with
        | none => rfl
        | some v => cases x.dst with
          | none => rfl
          | some d =>
            simp only
            cases ρ.get d with
            | none => rfl
            | some v' =>
              simp only
              by_cases h : vbeq v v' = true
              · simp only [if_pos h]; exact itemsW_eq
              · simp only [if_neg h]
  | .apart i j x y :: l, ρ, H => by
    simp only [itemsW, itemsS]
    cases h : itemS F gl (X F gl) base r0 (.apart i j x y) ρ H with
    | none => rfl
    | some z =>
      have : z = (ρ, H) := by
        simp only [itemS] at h
        split at h <;> try contradiction
        split at h <;> try contradiction
        split at h <;> try contradiction
        cases h; rfl
      subst this
      exact itemsW_eq
theorem XW_draw_eq {base d : Nat} {is : List Item} {ρ : Env} {H : Heap} {Q : AX → Env → Heap → Prop} : XW F gl base (.draw d is) ρ H Q = itemsW F gl base H.length is ρ (H ++ List.replicate d .dead) fun ρ' H' => Q .normal ρ' H' := by
  unfold XW
  rw [X_eq, itemsW_eq]
  simp only [execC]
  cases itemsS F gl (X F gl) base H.length is ρ (H ++ List.replicate d .dead) <;> rfl
def itemsR (F : Nat → Option AFun) (gl base r0 : Nat) (K : Env → Heap → Prop) (l : List Item) (ρ : Env) (H : Heap) : Prop := itemsW F gl base r0 l ρ H K
def runR (F : Nat → Option AFun) (gl base : Nat) (K : Env → Heap → Prop) (isA : Bool) (r : Nat) (x : Ins) (ρ : Env) (H : Heap) : Prop := runW F gl base isA r x ρ H K
def loopQ (F : Nat → Option AFun) (gl base : Nat) (l : List Nat) (a : ACode) (Q : AX → Env → Heap → Prop) : AX → Env → Heap → Prop
  | .normal, ρ, H => XW F gl base (.loop l a) ρ H Q
  | x, ρ, H => Q x ρ H
theorem XW_loop_eq {base : Nat} {l : List Nat} {a : ACode} {ρ : Env} {H : Heap} {Q : AX → Env → Heap → Prop} : XW F gl base (.loop l a) ρ H Q = XW F gl base a (ρ.mask l) H (loopQ F gl base l a Q) := by
  refine propext ⟨fun h => ?_, fun h => XW_loop (XW_mono h fun x _ _ q => by cases x <;> exact q)⟩
  obtain ⟨x, ρ', H', e, h'⟩ := XW_iff.1 h
  rw [X_eq] at e
  simp only [execC] at e
  cases h1 : execC F gl (X F gl) base a (ρ.mask l) H with
  | none => rw [h1] at e; cases e
  | some y =>
    obtain ⟨y, ρ1, H1⟩ := y
    rw [h1] at e
    refine XW_iff.2 ⟨y, ρ1, H1, by rw [X_eq]; exact h1, ?_⟩
    cases y with
    | normal => exact XW_iff.2 ⟨x, ρ', H', e, h'⟩
    | exit i => cases e; exact h'
    | ret => cases e; exact h'
theorem agR_eq (v : Value) (K : Env → Heap → Prop) (ρ : Env) (H : Heap) : agR (some v) (some v) K ρ H = K ρ H := by simp [agR, vbeq_refl0]
theorem again_eq (base r0 : Nat) (K : Env → Heap → Prop) (i : Nat) (d : Option Nat) (o : AOp) (l : List Item) (ρ : Env) (H : Heap) : itemsR F gl base r0 K (.again i ⟨d, o, none⟩ :: l) ρ H = agR (o.val gl ρ H) (dget ρ d) (itemsR F gl base r0 K l) ρ H := by
  show againW gl ⟨d, o, none⟩ ρ H (itemsW F gl base r0 l ρ H K) = _
  unfold againW agR
  simp only [wantedS]
  cases o.val gl ρ H with
  | none => rfl
  | some v => cases d with
    | none => rfl
    | some d =>
      simp only [dget]
      cases ρ.get d with
      | none => rfl
      | some v' => rfl
theorem eqiV_nn (gl : Nat) (H : Heap) (d : Nat) (n c : Bool) : eqiV gl H d n c (some .nilIface) (some .nilIface) = (if c = true then some (.bool (!n)) else none) := by
  cases c <;> cases n <;> rfl
theorem eqiV_vn (gl : Nat) (H : Heap) (d : Nat) (n c : Bool) (t : Nat) (v : Value) : eqiV gl H d n c (some (.iface t v)) (some .nilIface) = some (.bool n) := by
  cases n <;> rfl
theorem insW_gd (base : Nat) (K : Env → Heap → Prop) (d : Option Nat) (o : AOp) (s : Nat) (w : Bool) (ρ : Env) (H : Heap) :
    insR F gl base K ⟨d, o, some (s, w)⟩ ρ H = gdR F gl base (ρ.get s) w K d o ρ H := by
  unfold insR insW gdR
  simp only [wantedS]
  cases ρ.get s with
  | none => rfl
  | some v =>
    cases v with
    | bool b => cases b <;> cases w <;> rfl
    | tuple vs => rfl
    | _ => rfl
theorem opW_val {base : Nat} {ρ : Env} {H : Heap} {o : AOp} {k : Value → Heap → Prop} (h : opS F gl (X F gl) base none ρ H o = (match o.val gl ρ H with | some v => some (v, H) | none => none)) : opR F gl base k ρ H o = obV (o.val gl ρ H) k H := by
  unfold opR opW
  rw [h]
  cases o.val gl ρ H <;> rfl
theorem opW_wr {base : Nat} {ρ : Env} {H : Heap} {o : AOp} {k : Value → Heap → Prop} (h : opS F gl (X F gl) base none ρ H o = o.wr base ρ H) : opR F gl base k ρ H o = obR (o.wr base ρ H) k := by
  unfold opR opW
  rw [h]
  cases o.wr base ρ H <;> rfl
theorem opW_mk {base : Nat} {ρ : Env} {H : Heap} {o : AOp} {k : Value → Heap → Prop} {f : Nat → Value} {e : Nat} {c : Option (List Value)} (h : opS F gl (X F gl) base none ρ H o = (match o.mkBlk ρ with
    | some (k, b) => match H.put none b with
      | some (id, H') => some (k id, H')
      | none => none
    | none => none)) (hm : o.mkBlk ρ = (match c with | some cs => some (f, .cells 0 e cs) | none => none)) : opR F gl base k ρ H o = obN f e c H k := by
  unfold opR opW
  rw [h, hm]
  cases c <;> rfl
theorem opW_st {base : Nat} {ρ : Env} {H : Heap} {n : Nat} {a x : Opnd} {k : Value → Heap → Prop} : opR F gl base k ρ H (.st n a x) = obH (stO base H n (ev ρ a) (ev ρ x)) k := by
  unfold opR opW
  simp only [opS, AOp.wr]
  cases ev ρ x with
  | none => cases ev ρ a with
    | none => rfl
    | some va => cases va with
      | pointer p => cases p with
        | none => rfl
        | some p =>
          obtain ⟨id, o, sp⟩ := p
          cases sp <;> rfl
      | _ => rfl
  | some vx => cases ev ρ a with
    | none => rfl
    | some va => cases va with
      | pointer p => cases p with
        | none => rfl
        | some p =>
          obtain ⟨id, o, sp⟩ := p
          cases sp with
          | none => rfl
          | some g =>
            simp only [stO, stV]
            cases H.at id g with
            | none => rfl
            | some y =>
              obtain ⟨e, vs⟩ := y
              simp only
              by_cases hc : base ≤ id ∧ (Value.list vx).length = n ∧ (Value.list vx).all oneCell = true ∧ o + n ≤ vs.length
              · simp only [if_pos hc, obH]
              · simp only [if_neg hc, obH]
      | _ => rfl
theorem ax1 : (∀ base a b ρ H Q, XW F gl base (.seq a b) ρ H Q = XW F gl base a ρ H (seqQ F gl base b Q)) ∧
    (∀ base i a ρ H Q, XW F gl base (.block i a) ρ H Q = XW F gl base a ρ H (blockQ i Q)) ∧
    (∀ base ρ H Q, XW F gl base .skip ρ H Q = Q .normal ρ H) ∧
    (∀ base i ρ H Q, XW F gl base (.exit i) ρ H Q = Q (.exit i) ρ H) ∧
    (∀ base ρ H Q, XW F gl base .ret ρ H Q = Q .ret ρ H) ∧
    (∀ base is ρ H Q, XW F gl base (.region is) ρ H Q = opsR F gl base (nrm Q) is ρ H) ∧
    (∀ base c a b ρ H Q, XW F gl base (.cond c a b) ρ H Q = cndR F gl base (ev ρ c) a b ρ H Q) ∧
    (∀ base a b ρ H Q, cndR F gl base (some (.bool true)) a b ρ H Q = XW F gl base a ρ H Q) ∧
    (∀ base a b ρ H Q, cndR F gl base (some (.bool false)) a b ρ H Q = XW F gl base b ρ H Q) ∧
    (∀ base b Q ρ H, seqQ F gl base b Q .normal ρ H = XW F gl base b ρ H Q) ∧
    (∀ base b Q i ρ H, seqQ F gl base b Q (.exit i) ρ H = Q (.exit i) ρ H) ∧
    (∀ base b Q ρ H, seqQ F gl base b Q .ret ρ H = Q .ret ρ H) ∧
    (∀ base d is ρ H Q, XW F gl base (.draw d is) ρ H Q = itemsR F gl base H.length (nrm Q) is ρ (H ++ List.replicate d .dead)) ∧
    (∀ base r0 K ρ H, itemsR F gl base r0 K [] ρ H = K ρ H) ∧
    (∀ base r0 K i r d o g l ρ H, itemsR F gl base r0 K (.run i r ⟨d, o, g⟩ :: l) ρ H = runR F gl base (itemsR F gl base r0 K l) (o.isA) (r0 + r) ⟨d, o, g⟩ ρ H) ∧
    (∀ base r0 K i d o l ρ H, itemsR F gl base r0 K (.again i ⟨d, o, none⟩ :: l) ρ H = agR (o.val gl ρ H) (dget ρ d) (itemsR F gl base r0 K l) ρ H) ∧
    (∀ base K r x ρ H, runR F gl base K false r x ρ H = insR F gl base K x ρ H) ∧
    (∀ base K ρ H, opsR F gl base K [] ρ H = K ρ H) ∧
    (∀ base K x l ρ H, opsR F gl base K (x :: l) ρ H = insR F gl base (opsR F gl base K l) x ρ H) ∧
    (∀ base K d o ρ H, insR F gl base K ⟨d, o, none⟩ ρ H = opR F gl base (updK K d ρ) ρ H o) ∧
    (∀ base K d o s w ρ H, insR F gl base K ⟨d, o, some (s, w)⟩ ρ H = gdR F gl base (ρ.get s) w K d o ρ H) ∧
    (∀ base K d o ρ H, gdR F gl base (some (.bool true)) true K d o ρ H = opR F gl base (updK K d ρ) ρ H o) ∧
    (∀ base K d o ρ H, gdR F gl base (some (.bool false)) false K d o ρ H = opR F gl base (updK K d ρ) ρ H o) ∧
    (∀ base K d o ρ H, gdR F gl base (some (.bool true)) false K d o ρ H = K (updD ρ d undf) H) ∧
    (∀ base K d o ρ H, gdR F gl base (some (.bool false)) true K d o ρ H = K (updD ρ d undf) H) := by
  refine ⟨?_, ?_, ?_, ?_, ?_, ?_, ?_, ?_, ?_, ?_, ?_, ?_, ?_, ?_, ?_, ?_, ?_, ?_, ?_, ?_, ?_, ?_, ?_, ?_, ?_⟩
  · intros; exact XW_seq_eq
  · intros; exact XW_block_eq
  · intros; exact XW_skip_eq
  · intros; exact XW_exit_eq
  · intros; exact XW_ret_eq
  · intros; exact XW_region_eq
  · intros; exact XW_cond_eq
  · intros; rfl
  · intros; rfl
  · intros; rfl
  · intros; rfl
  · intros; rfl
  · intros; exact XW_draw_eq
  · intros; rfl
  · intros; rfl
  · intros; apply again_eq
  · intros; rfl
  · intros; rfl
  · intros; rfl
  · intros; rfl
  · intros; apply insW_gd
  · intros; rfl
  · intros; rfl
  · intros; rfl
  · intros; rfl
theorem ax2 : (∀ base k ρ H x, opR F gl base k ρ H (.mv x) = obV (ev ρ x) k H) ∧
    (∀ base k ρ H c a b, opR F gl base k ρ H (.pick c a b) = obV (pickV (ev ρ c) (ev ρ a) (ev ρ b)) k H) ∧
    (∀ base k ρ H x, opR F gl base k ρ H (.nilck x) = obV (nilV (ev ρ x)) k H) ∧
    (∀ base k ρ H op x y, opR F gl base k ρ H (.bin op x y) = obV (binO op (ev ρ x) (ev ρ y)) k H) ∧
    (∀ base k ρ H op x, opR F gl base k ρ H (.un op x) = obV (unO op (ev ρ x)) k H) ∧
    (∀ base k ρ H x i, opR F gl base k ρ H (.ext x i) = obV (extV (ev ρ x) i) k H) ∧
    (∀ base k ρ H off x, opR F gl base k ρ H (.fa off x) = obV (faV off (ev ρ x)) k H) ∧
    (∀ base k ρ H x, opR F gl base k ρ H (.len x) = obV (lenV (ev ρ x)) k H) ∧
    (∀ base k ρ H x, opR F gl base k ρ H (.lens x) = obV (lensV (ev ρ x)) k H) ∧
    (∀ base k ρ H x, opR F gl base k ρ H (.cf x) = obV (cfV (ev ρ x)) k H) ∧
    (∀ base k ρ H j x, opR F gl base k ρ H (.ci j x) = obV (ciV j (ev ρ x)) k H) ∧
    (∀ base k ρ H x, opR F gl base k ρ H (.re x) = obV (reV (ev ρ x)) k H) ∧
    (∀ base k ρ H x, opR F gl base k ρ H (.im x) = obV (imV (ev ρ x)) k H) ∧
    (∀ base k ρ H x y, opR F gl base k ρ H (.cx x y) = obV (cxV (ev ρ x) (ev ρ y)) k H) ∧
    (∀ base k ρ H x y, opR F gl base k ρ H (.mn x y) = obV (mnV (ev ρ x) (ev ρ y)) k H) ∧
    (∀ base k ρ H x y, opR F gl base k ρ H (.mx x y) = obV (mxV (ev ρ x) (ev ρ y)) k H) ∧
    (∀ base k ρ H e x i, opR F gl base k ρ H (.ias e x i) = obV (iasV e (ev ρ x) (ev ρ i)) k H) ∧
    (∀ base k ρ H m e x i, opR F gl base k ρ H (.iaa m e x i) = obV (iaaV m e (ev ρ x) (ev ρ i)) k H) ∧
    (∀ base k ρ H m e n x i, opR F gl base k ρ H (.ixa m e n x i) = obV (ixaV m e n (ev ρ x) (ev ρ i)) k H) ∧
    (∀ base k ρ H x i, opR F gl base k ρ H (.ixs x i) = obV (ixsV (ev ρ x) (ev ρ i)) k H) ∧
    (∀ base k ρ H o n x, opR F gl base k ρ H (.fld o n x) = obV (fldV o n (ev ρ x)) k H) ∧
    (∀ base k ρ H z ps, opR F gl base k ρ H (.mk z ps) = obV (mkV z (evps ρ ps)) k H) ∧
    (∀ base k ρ H f cs, opR F gl base k ρ H (.mkf f cs) = obV (mkfV f (evs ρ cs)) k H) ∧
    (∀ base k ρ H t x, opR F gl base k ρ H (.mki t x) = obV (mkiV t (ev ρ x)) k H) ∧
    (∀ base k ρ H e x lo hi, opR F gl base k ρ H (.sls e x lo hi) = obV (slsV e (ev ρ x) (lo.map (ev ρ)) (hi.map (ev ρ))) k H) ∧
    (∀ base k ρ H m e x lo hi, opR F gl base k ρ H (.sla m e x lo hi) = obV (slaV m e (ev ρ x) (lo.map (ev ρ)) (hi.map (ev ρ))) k H) ∧
    (∀ base k ρ H x lo hi, opR F gl base k ρ H (.slt x lo hi) = obV (sltV (ev ρ x) (lo.map (ev ρ)) (hi.map (ev ρ))) k H) ∧
    (∀ base k ρ H n x, opR F gl base k ρ H (.s2a n x) = obV (s2aV n (ev ρ x)) k H) ∧
    (∀ base k ρ H d n x y, opR F gl base k ρ H (.eqi d n x y) = obV (eqiV gl H d n (isC x || isC y) (ev ρ x) (ev ρ y)) k H) ∧
    (∀ base k ρ H n x y, opR F gl base k ρ H (.eqp n x y) = obV (eqpV gl H n (ev ρ x) (ev ρ y)) k H) ∧
    (∀ base k ρ H n x y, opR F gl base k ρ H (.eqb n x y) = obV (eqbV n (ev ρ x) (ev ρ y)) k H) ∧
    (∀ base k ρ H n m x y, opR F gl base k ρ H (.eqs n m x y) = obV (eqsV n m (ev ρ x) (ev ρ y)) k H) ∧
    (∀ base k ρ H n a, opR F gl base k ρ H (.ld n a) = obV (ldV H n (ev ρ a)) k H) ∧
    (∀ base k ρ H z m x, opR F gl base k ρ H (.look z m x) = obV (lookV H z (ev ρ m) (ev ρ x)) k H) ∧
    (∀ base k ρ H x, opR F gl base k ρ H (.b2s x) = obV (b2sV H (ev ρ x)) k H) ∧
    (∀ base k ρ H n a x, opR F gl base k ρ H (.st n a x) = obH (stO base H n (ev ρ a) (ev ρ x)) k) ∧
    (∀ base k ρ H e by_ x y, opR F gl base k ρ H (.app e by_ x y) = obR (appO base H e by_ (ev ρ x) (ev ρ y)) k) ∧
    (∀ base k ρ H x y, opR F gl base k ρ H (.apt x y) = obR (AOp.wr base ρ H (.apt x y)) k) ∧
    (∀ base k ρ H e x y, opR F gl base k ρ H (.copy e x y) = obR (AOp.wr base ρ H (.copy e x y)) k) ∧
    (∀ base k ρ H z x, opR F gl base k ρ H (.clear z x) = obR (AOp.wr base ρ H (.clear z x)) k) ∧
    (∀ base k ρ H m x y, opR F gl base k ρ H (.mup m x y) = obR (AOp.wr base ρ H (.mup m x y)) k) ∧
    (∀ base k ρ H f xs, opR F gl base k ρ H (.call f xs) = callR F gl base f (evs ρ xs) H k) ∧
    (∀ base k ρ H f xs, opR F gl base k ρ H (.callv f xs) = callvR F gl base (ev ρ f) (evs ρ xs) H k) ∧
    (∀ base k ρ H z, opR F gl base k ρ H (.al z) = k (ptr H.length 0 0) (H ++ [.cells 0 0 z])) ∧
    (∀ base k ρ H , opR F gl base k ρ H (.mm) = k (.map (some H.length)) (H ++ [.map []])) ∧
    (∀ base k ρ H e m z ps, opR F gl base k ρ H (.bs e m z ps) = obN (fun id => slc id 0 0 m e) e (bsV e m z (evqs ρ e ps)) H k) ∧
    (∀ base k ρ H n x, opR F gl base k ρ H (.bx n x) = obN (fun id => ptr id 0 0) 0 (bxV n (ev ρ x)) H k) ∧
    (∀ base k ρ H e by_ z l c, opR F gl base k ρ H (.ms e by_ z l c) = obM e (msV e by_ z (ev ρ l) (ev ρ c)) H k) ∧
    (∀ base f vs H k, callR F gl base f (some vs) H k = obR (Cf F gl base f vs H) k) ∧
    (∀ base f fs cs vs H k, callvR F gl base (some (.func (.func f) fs cs)) (some vs) H k = obR (Cf F gl base f (fs.toList ++ vs ++ cs.toList) H) k) := by
  refine ⟨?_, ?_, ?_, ?_, ?_, ?_, ?_, ?_, ?_, ?_, ?_, ?_, ?_, ?_, ?_, ?_, ?_, ?_, ?_, ?_, ?_, ?_, ?_, ?_, ?_, ?_, ?_, ?_, ?_, ?_, ?_, ?_, ?_, ?_, ?_, ?_, ?_, ?_, ?_, ?_, ?_, ?_, ?_, ?_, ?_, ?_, ?_, ?_, ?_, ?_⟩
  · intros; rw [opW_val rfl]; rfl
  · intros; rw [opW_val rfl]; rfl
  · intros; rw [opW_val rfl]; rfl
  · intro base k ρ H op x y; rw [opW_val rfl]; simp only [AOp.val]; cases ev ρ x with | none => rfl | some a => (cases ev ρ y with | none => rfl | some b => rfl)
  · intros; rw [opW_val rfl]; rfl
  · intros; rw [opW_val rfl]; rfl
  · intros; rw [opW_val rfl]; rfl
  · intros; rw [opW_val rfl]; rfl
  · intros; rw [opW_val rfl]; rfl
  · intros; rw [opW_val rfl]; rfl
  · intros; rw [opW_val rfl]; rfl
  · intros; rw [opW_val rfl]; rfl
  · intros; rw [opW_val rfl]; rfl
  · intros; rw [opW_val rfl]; rfl
  · intros; rw [opW_val rfl]; rfl
  · intros; rw [opW_val rfl]; rfl
  · intros; rw [opW_val rfl]; rfl
  · intros; rw [opW_val rfl]; rfl
  · intros; rw [opW_val rfl]; rfl
  · intros; rw [opW_val rfl]; rfl
  · intros; rw [opW_val rfl]; rfl
  · intros; rw [opW_val rfl]; rfl
  · intros; rw [opW_val rfl]; rfl
  · intros; rw [opW_val rfl]; rfl
  · intros; rw [opW_val rfl]; rfl
  · intros; rw [opW_val rfl]; rfl
  · intros; rw [opW_val rfl]; rfl
  · intros; rw [opW_val rfl]; rfl
  · intros; rw [opW_val rfl]; rfl
  · intros; rw [opW_val rfl]; rfl
  · intros; rw [opW_val rfl]; rfl
  · intros; rw [opW_val rfl]; rfl
  · intros; rw [opW_val rfl]; rfl
  · intros; rw [opW_val rfl]; rfl
  · intros; rw [opW_val rfl]; rfl
  · intros; exact opW_st
  · intro base k ρ H e by_ x y; rw [opW_wr rfl]; simp only [AOp.wr]; cases ev ρ x with | none => rfl | some x => (cases ev ρ y with | none => rfl | some y => rfl)
  · intros; exact opW_wr rfl
  · intros; exact opW_wr rfl
  · intros; exact opW_wr rfl
  · intros; exact opW_wr rfl
  · intro base k ρ H f xs; unfold opR opW; simp only [opS]; cases evs ρ xs with | none => rfl | some vs => (show _ = obR (callF F (X F gl) base f vs H) k; simp only; cases callF F (X F gl) base f vs H <;> rfl)
  · intro base k ρ H f xs; unfold opR opW; simp only [opS]; cases ev ρ f with | none => rfl | some f => (cases evs ρ xs with | none => rfl | some vs => (show _ = obR (callV F (X F gl) base f vs H) k; simp only; cases callV F (X F gl) base f vs H <;> rfl))
  · intros; rfl
  · intros; rfl
  · intro base k ρ H e m z ps; refine opW_mk rfl ?_; simp only [AOp.mkBlk, bsV]; cases evqs ρ e ps with | none => rfl | some l => (simp only; cases fillAt (reps z m) l <;> rfl)
  · intro base k ρ H n x; refine opW_mk rfl ?_; simp only [AOp.mkBlk, bxV]; cases ev ρ x with | none => rfl | some v => (simp only; by_cases hc : (Value.list v).length = n ∧ (Value.list v).all oneCell = true <;> simp only [hc, if_false] <;> rfl)
  · intro base k ρ H e by_ z l c; unfold opR opW; simp only [opS, AOp.mkBlk, msV]; cases asI (ev ρ l) with | none => rfl | some l => (cases asI (ev ρ c) with | none => rfl | some c => (simp only; by_cases hc : 0 ≤ l ∧ l ≤ c ∧ c * by_ ≤ 2 ^ 47 ∧ c ≤ 2 ^ 47 <;> simp only [hc, if_false] <;> rfl))
  · intros; rfl
  · intros; rfl
end
theorem ax3 : (∀ a b, pickV (some (.bool true)) a b = a) ∧
    (∀ a b, pickV (some (.bool false)) a b = b) ∧
    (∀ a, nilV (some (.pointer (some a))) = some (.pointer (some a))) ∧
    (∀ vs i, extV (some (.tuple vs)) i = vs[i]?) ∧
    (∀ off id o g, faV off (some (.pointer (some ⟨id, o, some g⟩))) = some (.pointer (some ⟨id, o + off, some g⟩))) ∧
    (∀ a n c, lenV (some (.slice a n c)) = some (.int .i64 n)) ∧
    (∀ k n, cfV (some (.int k n)) = some (.float .f64 (fofi n))) ∧
    (∀ k j n, ciV k (some (.int j n)) = some (.int k (k.wrap n))) ∧
    (∀ k a b, reV (some (.complex k a b)) = some (.float k a)) ∧
    (∀ k a b, imV (some (.complex k a b)) = some (.float k b)) ∧
    (∀ a b, cxV (some (.float .f64 a)) (some (.float .f64 b)) = some (.complex .f64 a b)) ∧
    (∀ e id o g m x k i, iasV e (some (.slice (some ⟨id, o, some g⟩) m x)) (some (.int k i)) = if 0 ≤ i ∧ i < m then some (.pointer (some ⟨id, o + i.toNat * e, some g⟩)) else none) ∧
    (∀ m e id o g k i, iaaV m e (some (.pointer (some ⟨id, o, some g⟩))) (some (.int k i)) = if 0 ≤ i ∧ i < m then some (.pointer (some ⟨id, o + i.toNat * e, some g⟩)) else none) ∧
    (∀ H n id o g, ldV H n (some (.pointer (some ⟨id, o, some g⟩))) = (match H.at id g with | some (_, vs) => part vs o n | none => none)) ∧
    (∀ o n cs, fldV o n (some (.agg cs)) = part cs.toList o n) ∧
    (∀ e id o g m x lo hi, slsV e (some (.slice (some ⟨id, o, some g⟩) m x)) lo hi = (match cut m lo hi with | some (l, h) => if x = e ∨ x = 0 then some (slc id (o + l * e) g (h - l) x) else none | none => none)) ∧
    (∀ e m x lo hi, slsV e (some (.slice none m x)) lo hi = (match cut m lo hi with | some (l, h) => some (.slice none 0 0) | none => none)) ∧
    (∀ e m z ps, bsV e m z (some ps) = fillAt (reps z m) ps) ∧
    (∀ z k a, fillAt (reps [z] 1) [(0, 1, .float k a)] = some [.float k a]) ∧
    (∀ z k i, fillAt (reps [z] 1) [(0, 1, .int k i)] = some [.int k i]) ∧
    (∀ z k a b, fillAt (reps [z] 1) [(0, 1, .complex k a b)] = some [.complex k a b]) ∧
    (∀ z a n c, fillAt (reps [z] 1) [(0, 1, .slice a n c)] = some [.slice a n c]) ∧
    (∀ z a, fillAt (reps [z] 1) [(0, 1, .pointer a)] = some [.pointer a]) ∧
    (∀ z b, fillAt (reps [z] 1) [(0, 1, .bool b)] = some [.bool b]) ∧
    (∀ z, fillAt (reps z 0) [] = some []) ∧
    (∀ z k a j b, fillAt (reps [z] 2) [(0, 1, .float k a), (1, 1, .float j b)] = some [.float k a, .float j b]) ∧
    (∀ z k a b j c d, fillAt (reps [z] 2) [(0, 1, .complex k a b), (1, 1, .complex j c d)] = some [.complex k a b, .complex j c d]) ∧
    (∀ ρ e, evqs ρ e [] = some []) ∧
    (∀ ρ e i x r, evqs ρ e ((i, x) :: r) = consq i e (ev ρ x) (evqs ρ e r)) ∧
    (∀ i e v l, consq i e (some v) (some l) = some ((i * e, e, v) :: l)) ∧
    (∀ ρ, evps ρ [] = some []) ∧
    (∀ ρ o n x r, evps ρ ((o, n, x) :: r) = consp o n (ev ρ x) (evps ρ r)) ∧
    (∀ o n v l, consp o n (some v) (some l) = some ((o, n, v) :: l)) ∧
    (∀ z ps, mkV z (some ps) = (match fillAt z ps with | some cs => some (.agg cs.toArray) | none => none)) ∧
    (∀ v k H, obV (some v) k H = k v H) ∧
    (∀ H k, obH (some H) k = k undf H) ∧
    (∀ v H k, obR (some (v, H)) k = k v H) ∧
    (∀ f e cs H k, obN f e (some cs) H k = k (f H.length) (H ++ [.cells 0 e cs])) ∧
    (∀ e n cs H k, obM e (some (n, cs)) H k = k (slc H.length 0 0 n e) (H ++ [.cells 0 e cs])) ∧
    (∀ op a b, binO op (some a) (some b) = binv op a b) ∧
    (∀ op a, unO op (some a) = unv op a) ∧
    (∀ t v, mkiV t (some v) = some (.iface t v)) ∧
    (∀ f vs, mkfV f (some vs) = some (.func (.func f) #[] vs.toArray)) ∧
    (∀ base H n a v, stO base H n (some a) (some v) = stV base H n a v) ∧
    (∀ base H e b x y, appO base H e b (some x) (some y) = appV base H e b x y) ∧
    (∀ gl H d n c, eqiV gl H d n c (some .nilIface) (some .nilIface) = (if c = true then some (.bool (!n)) else none)) ∧
    (∀ gl H d n c t v, eqiV gl H d n c (some (.iface t v)) (some .nilIface) = some (.bool n)) ∧
    (∀ k a j b, mnV (some (.int k a)) (some (.int j b)) = some (.int k (if b < a then b else a))) ∧
    (∀ k a j b, mxV (some (.int k a)) (some (.int j b)) = some (.int k (if b > a then b else a))) ∧
    (∀ s, lensV (some (.string s)) = some (.int .i64 s.size)) ∧
    (∀ n a b, eqbV n (some (.bool a)) (some (.bool b)) = some (.bool (if n then !(a == b) else a == b))) ∧
    (∀ base H n id o g v, stV base H n (.pointer (some ⟨id, o, some g⟩)) v = stB base H id o g n v (H.at id g)) ∧
    (∀ base H id o g k a e vs, stB base H id o g 1 (.float k a) (some (e, vs)) = if base ≤ id ∧ o + 1 ≤ vs.length then some (List.set H id (.cells g e (vs.set o (.float k a)))) else none) ∧
    (∀ base H id o g k i e vs, stB base H id o g 1 (.int k i) (some (e, vs)) = if base ≤ id ∧ o + 1 ≤ vs.length then some (List.set H id (.cells g e (vs.set o (.int k i)))) else none) ∧
    (∀ base H id o g b e vs, stB base H id o g 1 (.bool b) (some (e, vs)) = if base ≤ id ∧ o + 1 ≤ vs.length then some (List.set H id (.cells g e (vs.set o (.bool b)))) else none) ∧
    (∀ base H id o g a n c e vs, stB base H id o g 1 (.slice a n c) (some (e, vs)) = if base ≤ id ∧ o + 1 ≤ vs.length then some (List.set H id (.cells g e (vs.set o (.slice a n c)))) else none) ∧
    (∀ base H id o g t v e vs, stB base H id o g 1 (.iface t v) (some (e, vs)) = if base ≤ id ∧ o + 1 ≤ vs.length then some (List.set H id (.cells g e (vs.set o (.iface t v)))) else none) ∧
    (∀ base H id o g  e vs, stB base H id o g 1 (.nilIface) (some (e, vs)) = if base ≤ id ∧ o + 1 ≤ vs.length then some (List.set H id (.cells g e (vs.set o (.nilIface)))) else none) ∧
    (∀ base H id o g a e vs, stB base H id o g 1 (.pointer a) (some (e, vs)) = if base ≤ id ∧ o + 1 ≤ vs.length then some (List.set H id (.cells g e (vs.set o (.pointer a)))) else none) ∧
    (∀ base H id o g k a b e vs, stB base H id o g 1 (.complex k a b) (some (e, vs)) = if base ≤ id ∧ o + 1 ≤ vs.length then some (List.set H id (.cells g e (vs.set o (.complex k a b)))) else none) ∧
    (∀ base H id o g s e vs, stB base H id o g 1 (.string s) (some (e, vs)) = if base ≤ id ∧ o + 1 ≤ vs.length then some (List.set H id (.cells g e (vs.set o (.string s)))) else none) ∧
    (∀ id o g, ptr id o g = .pointer (some ⟨id, o, some g⟩)) ∧
    (∀ id o g n e, slc id o g n e = .slice (some ⟨id, o, some g⟩) n e) ∧
    (∀ b L, modeBase .drop b L = L) ∧
    (∀ b L, modeBase .one b L = L) ∧
    (∀ b L, modeBase .keep b L = b) ∧
    (∀ ρ d, dget ρ (some d) = ρ.get d) ∧
    (∀ ρ n, ev ρ (.t n) = ρ.get n) ∧
    (∀ ρ v, ev ρ (.c v) = some v) ∧
    (∀ ρ, evs ρ [] = some []) ∧
    (∀ ρ x r, evs ρ (x :: r) = cons2 (ev ρ x) (evs ρ r)) ∧
    (∀ v l, cons2 (some v) (some l) = some (v :: l)) ∧
    (∀ l s, (Env.ofList l).get s = look2 l s) ∧
    (∀ l t v, (Env.ofList l).upd t v = Env.ofList ((t, v) :: l)) ∧
    (∀ t v l s, look2 ((t, v) :: l) s = if s = t then some v else look2 l s) ∧
    (∀ ρ t v, updD ρ (some t) v = ρ.upd t v) ∧
    (∀ ρ v, updD ρ none v = ρ) ∧
    (∀ i, args0 i [] = []) ∧
    (∀ i v l, args0 i (v :: l) = (i, v) :: args0 (i + 1) l) ∧
    (∀ k a b, binv .add (.int k a) (.int k b) = some (.int k (k.wrap (a + b)))) ∧
    (∀ k a b, binv .sub (.int k a) (.int k b) = some (.int k (k.wrap (a - b)))) ∧
    (∀ k a b, binv .mul (.int k a) (.int k b) = some (.int k (k.wrap (a * b)))) ∧
    (∀ k a b, binv .quo (.int k a) (.int k b) = if b = 0 then none else some (.int k (k.wrap (a.tdiv b)))) ∧
    (∀ k a b, binv .rem (.int k a) (.int k b) = if b = 0 then none else some (.int k (a.tmod b))) ∧
    (∀ k a b, binv .eql (.int k a) (.int k b) = some (.bool (a == b))) ∧
    (∀ k a b, binv .neq (.int k a) (.int k b) = some (.bool (a != b))) ∧
    (∀ k a b, binv .lss (.int k a) (.int k b) = some (.bool (decide (a < b)))) ∧
    (∀ k a b, binv .leq (.int k a) (.int k b) = some (.bool (decide (a ≤ b)))) ∧
    (∀ k a b, binv .gtr (.int k a) (.int k b) = some (.bool (decide (b < a)))) ∧
    (∀ k a b, binv .geq (.int k a) (.int k b) = some (.bool (decide (b ≤ a)))) ∧
    (∀ a b, binv .add (.float .f64 a) (.float .f64 b) = some (.float .f64 (fop .add a b))) ∧
    (∀ a b, binv .sub (.float .f64 a) (.float .f64 b) = some (.float .f64 (fop .sub a b))) ∧
    (∀ a b, binv .mul (.float .f64 a) (.float .f64 b) = some (.float .f64 (fop .mul a b))) ∧
    (∀ a b, binv .quo (.float .f64 a) (.float .f64 b) = some (.float .f64 (fop .quo a b))) ∧
    (∀ a b, binv .eql (.float .f64 a) (.float .f64 b) = some (.bool (feq a b))) ∧
    (∀ k n, unv .neg (.int k n) = some (.int k (k.wrap (0 - n)))) ∧
    (∀ b, unv .neg (.float .f64 b) = some (.float .f64 (fneg b))) ∧
    (∀ b, unv .not (.bool b) = some (.bool !b)) ∧
    ((!true) = false) ∧
    ((!false) = true) ∧
    (∀ v K ρ H, agR (some v) (some v) K ρ H = K ρ H) ∧
    (∀ Q ρ H, nrm Q ρ H = Q .normal ρ H) ∧
    (∀ K d ρ v H, updK K d ρ v H = K (updD ρ d v) H) ∧
    (∀ x, AOp.isA (.mv x) = false) ∧
    (∀ c a b, AOp.isA (.pick c a b) = false) ∧
    (∀ x, AOp.isA (.nilck x) = false) ∧
    (∀ op x y, AOp.isA (.bin op x y) = false) ∧
    (∀ op x, AOp.isA (.un op x) = false) ∧
    (∀ x i, AOp.isA (.ext x i) = false) ∧
    (∀ off x, AOp.isA (.fa off x) = false) ∧
    (∀ x, AOp.isA (.len x) = false) ∧
    (∀ e x i, AOp.isA (.ias e x i) = false) ∧
    (∀ m e x i, AOp.isA (.iaa m e x i) = false) ∧
    (∀ n a, AOp.isA (.ld n a) = false) ∧
    (∀ n a x, AOp.isA (.st n a x) = false) ∧
    (∀ f xs, AOp.isA (.call f xs) = false) ∧
    (∀ f xs, AOp.isA (.callv f xs) = false) ∧
    (∀ z, AOp.isA (.al z) = true) ∧
    (∀ a b c d, AOp.isA (.bs a b c d) = true) ∧
    (∀ a b c d e, AOp.isA (.ms a b c d e) = true) ∧
    (∀ n x, AOp.isA (.bx n x) = true) ∧
    (∀ e b s x, AOp.isA (.app e b s x) = false) ∧
    (∀ s x, AOp.isA (.apt s x) = false) ∧
    (∀ d n x y, AOp.isA (.eqi d n x y) = false) ∧
    (∀ n x y, AOp.isA (.eqp n x y) = false) ∧
    (∀ n x y, AOp.isA (.eqb n x y) = false) ∧
    (∀ o n x, AOp.isA (.fld o n x) = false) ∧
    (∀ z ps, AOp.isA (.mk z ps) = false) ∧
    (∀ f cs, AOp.isA (.mkf f cs) = false) ∧
    (∀ x y, AOp.isA (.cx x y) = false) ∧
    (∀ x, AOp.isA (.cf x) = false) ∧
    (∀ k x, AOp.isA (.ci k x) = false) ∧
    (∀ z m k, AOp.isA (.look z m k) = false) ∧
    (∀ e x lo hi, AOp.isA (.sls e x lo hi) = false) ∧
    (∀ e d s, AOp.isA (.copy e d s) = false) ∧
    (∀ t x, AOp.isA (.mki t x) = false) ∧
    (∀ x, AOp.isA (.re x) = false) ∧
    (∀ x, AOp.isA (.im x) = false) ∧
    (∀ x, AOp.isA (.lens x) = false) := by
  refine ⟨?_, ?_, ?_, ?_, ?_, ?_, ?_, ?_, ?_, ?_, ?_, ?_, ?_, ?_, ?_, ?_, ?_, ?_, ?_, ?_, ?_, ?_, ?_, ?_, ?_, ?_, ?_, ?_, ?_, ?_, ?_, ?_, ?_, ?_, ?_, ?_, ?_, ?_, ?_, ?_, ?_, ?_, ?_, ?_, ?_, ?_, ?_, ?_, ?_, ?_, ?_, ?_, ?_, ?_, ?_, ?_, ?_, ?_, ?_, ?_, ?_, ?_, ?_, ?_, ?_, ?_, ?_, ?_, ?_, ?_, ?_, ?_, ?_, ?_, ?_, ?_, ?_, ?_, ?_, ?_, ?_, ?_, ?_, ?_, ?_, ?_, ?_, ?_, ?_, ?_, ?_, ?_, ?_, ?_, ?_, ?_, ?_, ?_, ?_, ?_, ?_, ?_, ?_, ?_, ?_, ?_, ?_, ?_, ?_, ?_, ?_, ?_, ?_, ?_, ?_, ?_, ?_, ?_, ?_, ?_, ?_, ?_, ?_, ?_, ?_, ?_, ?_, ?_, ?_, ?_, ?_, ?_, ?_, ?_, ?_, ?_, ?_, ?_, ?_⟩
  · intros; rfl
  · intros; rfl
  · intros; rfl
  · intros; rfl
  · intros; rfl
  · intros; rfl
  · intros; rfl
  · intros; rfl
  · intros; rfl
  · intros; rfl
  · intros; rfl
  · intros; rfl
  · intros; rfl
  · intros; rfl
  · intros; rfl
  · intros; rfl
  · intros; rfl
  · intros; rfl
  · intros; rfl
  · intros; rfl
  · intros; rfl
  · intros; rfl
  · intros; rfl
  · intros; rfl
  · intros; rfl
  · intros; rfl
  · intros; rfl
  · intros; rfl
  · intros; rfl
  · intros; rfl
  · intros; rfl
  · intros; rfl
  · intros; rfl
  · intros; rfl
  · intros; rfl
  · intros; rfl
  · intros; rfl
  · intros; rfl
  · intros; rfl
  · intros; rfl
  · intros; rfl
  · intros; rfl
  · intros; rfl
  · intros; rfl
  · intros; rfl
  · intros; apply eqiV_nn
  · intros; apply eqiV_vn
  · intros; rfl
  · intros; rfl
  · intros; rfl
  · intros; rfl
  · intros; apply stV_eq
  · intros; exact stB1 _ _ _ _ _ _ _ _ rfl rfl
  · intros; exact stB1 _ _ _ _ _ _ _ _ rfl rfl
  · intros; exact stB1 _ _ _ _ _ _ _ _ rfl rfl
  · intros; exact stB1 _ _ _ _ _ _ _ _ rfl rfl
  · intros; exact stB1 _ _ _ _ _ _ _ _ rfl rfl
  · intros; exact stB1 _ _ _ _ _ _ _ _ rfl rfl
  · intros; exact stB1 _ _ _ _ _ _ _ _ rfl rfl
  · intros; exact stB1 _ _ _ _ _ _ _ _ rfl rfl
  · intros; exact stB1 _ _ _ _ _ _ _ _ rfl rfl
  · intros; rfl
  · intros; rfl
  · intros; rfl
  · intros; rfl
  · intros; rfl
  · intros; rfl
  · intros; rfl
  · intros; rfl
  · intros; rfl
  · intros; rfl
  · intros; rfl
  · intros; rfl
  · intros; rfl
  · intros; rfl
  · intros; rfl
  · intros; rfl
  · intros; rfl
  · intros; rfl
  · intro k a b; simp only [binv, if_true, intb, gt_iff_lt, ge_iff_le]
  · intro k a b; simp only [binv, if_true, intb, gt_iff_lt, ge_iff_le]
  · intro k a b; simp only [binv, if_true, intb, gt_iff_lt, ge_iff_le]
  · intro k a b; simp only [binv, if_true, intb, gt_iff_lt, ge_iff_le]
  · intro k a b; simp only [binv, if_true, intb, gt_iff_lt, ge_iff_le]
  · intro k a b; simp only [binv, if_true, intb, gt_iff_lt, ge_iff_le]
  · intro k a b; simp only [binv, if_true, intb, gt_iff_lt, ge_iff_le]
  · intro k a b; simp only [binv, if_true, intb, gt_iff_lt, ge_iff_le]
  · intro k a b; simp only [binv, if_true, intb, gt_iff_lt, ge_iff_le]
  · intro k a b; simp only [binv, if_true, intb, gt_iff_lt, ge_iff_le]
  · intro k a b; simp only [binv, if_true, intb, gt_iff_lt, ge_iff_le]
  · intros; rfl
  · intros; rfl
  · intros; rfl
  · intros; rfl
  · intros; rfl
  · intros; rfl
  · intros; rfl
  · intros; rfl
  · intros; rfl
  · intros; rfl
  · intros; apply agR_eq
  · intros; rfl
  · intros; rfl
  · intros; rfl
  · intros; rfl
  · intros; rfl
  · intros; rfl
  · intros; rfl
  · intros; rfl
  · intros; rfl
  · intros; rfl
  · intros; rfl
  · intros; rfl
  · intros; rfl
  · intros; rfl
  · intros; rfl
  · intros; rfl
  · intros; rfl
  · intros; rfl
  · intros; rfl
  · intros; rfl
  · intros; rfl
  · intros; rfl
  · intros; rfl
  · intros; rfl
  · intros; rfl
  · intros; rfl
  · intros; rfl
  · intros; rfl
  · intros; rfl
  · intros; rfl
  · intros; rfl
  · intros; rfl
  · intros; rfl
  · intros; rfl
  · intros; rfl
  · intros; rfl
  · intros; rfl
  · intros; rfl
end Go.AM
/- The laws of symbolic runs: memory, endings. No condition. -/
namespace Go.AM

theorem at_app0 (H : Heap) (b : ABlk) (l : Heap) (g : Nat) : Heap.at (H ++ b :: l) H.length g = Heap.at (b :: l) 0 g := by
  unfold Heap.at
  rw [List.getElem?_append_right (Nat.le_refl _)]; simp
theorem at_app (H l : Heap) (j g : Nat) : Heap.at (H ++ l) (H.length + j) g = Heap.at l j g := by
  unfold Heap.at
  rw [List.getElem?_append_right (by omega)]; simp
theorem at_old {H : Heap} {id g : Nat} {x : Nat × List Value} (h : H.at id g = some x) (l : Heap) : Heap.at (H ++ l) id g = some x := by
  have hlt : id < H.length := by
    unfold Heap.at at h
    cases hj : H[id]? with
    | none => rw [hj] at h; cases h
    | some b => exact (List.getElem?_eq_some_iff.1 hj).1
  unfold Heap.at at h ⊢
  rw [List.getElem?_append_left hlt]; exact h
theorem set_app0 (H : Heap) (b c : ABlk) (l : Heap) : List.set (H ++ b :: l) H.length c = H ++ c :: l := by
  rw [List.set_append_right _ _ (Nat.le_refl _)]; simp
theorem set_app (H l : Heap) (j : Nat) (c : ABlk) : List.set (H ++ l) (H.length + j) c = H ++ List.set l j c := by
  rw [List.set_append_right _ _ (by omega)]; simp
theorem ax4 : (∀ H l : Heap, List.length (H ++ l) = H.length + l.length) ∧ (∀ (b : ABlk) (l : Heap), List.length (b :: l) = l.length + 1) ∧ (List.length ([] : Heap) = 0) ∧
    (∀ H l m : Heap, H ++ l ++ m = H ++ (l ++ m)) ∧ (∀ m : Heap, [] ++ m = m) ∧ (∀ (b : ABlk) (l m : Heap), b :: l ++ m = b :: (l ++ m)) ∧
    (∀ (H : Heap) (b : ABlk) (l : Heap) (g : Nat), Heap.at (H ++ b :: l) H.length g = Heap.at (b :: l) 0 g) ∧ (∀ (H l : Heap) (j g : Nat), Heap.at (H ++ l) (H.length + j) g = Heap.at l j g) ∧
    (∀ (g e : Nat) (vs : List Value) (l : Heap), Heap.at (.cells g e vs :: l) 0 g = some (e, vs)) ∧ (∀ (b : ABlk) (l : Heap) (g : Nat), Heap.at (b :: l) 1 g = Heap.at l 0 g) ∧ (∀ (b : ABlk) (l : Heap) (g : Nat), Heap.at (b :: l) 2 g = Heap.at l 1 g) ∧
    (∀ (b : ABlk) (l : Heap) (g : Nat), Heap.at (b :: l) 3 g = Heap.at l 2 g) ∧
    (∀ (H : Heap) (b c : ABlk) (l : Heap), List.set (H ++ b :: l) H.length c = H ++ c :: l) ∧ (∀ (H l : Heap) (j : Nat) (c : ABlk), List.set (H ++ l) (H.length + j) c = H ++ List.set l j c) ∧
    (∀ (b c : ABlk) (l : Heap), List.set (b :: l) 0 c = c :: l) ∧ (∀ (b c : ABlk) (l : Heap), List.set (b :: l) 1 c = b :: List.set l 0 c) ∧ (∀ (b c : ABlk) (l : Heap), List.set (b :: l) 2 c = b :: List.set l 1 c) ∧
    (∀ n m : Nat, (n ≤ n + m) = True) ∧ (∀ n : Nat, (n ≤ n) = True) ∧ (∀ (b : ABlk) (l : Heap) (g : Nat), Heap.at (b :: l) 4 g = Heap.at l 3 g) ∧ (∀ (b c : ABlk) (l : Heap), List.set (b :: l) 4 c = b :: List.set l 3 c) ∧ (∀ (b : ABlk) (l : Heap) (g : Nat), Heap.at (b :: l) 5 g = Heap.at l 4 g) ∧ (∀ (b c : ABlk) (l : Heap), List.set (b :: l) 5 c = b :: List.set l 4 c) ∧ (∀ (b : ABlk) (l : Heap) (g : Nat), Heap.at (b :: l) 6 g = Heap.at l 5 g) ∧ (∀ (b c : ABlk) (l : Heap), List.set (b :: l) 6 c = b :: List.set l 5 c) ∧ (∀ (b : ABlk) (l : Heap) (g : Nat), Heap.at (b :: l) 7 g = Heap.at l 6 g) ∧ (∀ (b c : ABlk) (l : Heap), List.set (b :: l) 7 c = b :: List.set l 6 c) ∧ (∀ (b : ABlk) (l : Heap) (g : Nat), Heap.at (b :: l) 8 g = Heap.at l 7 g) ∧ (∀ (b c : ABlk) (l : Heap), List.set (b :: l) 8 c = b :: List.set l 7 c) ∧ (∀ (b : ABlk) (l : Heap) (g : Nat), Heap.at (b :: l) 9 g = Heap.at l 8 g) ∧ (∀ (b c : ABlk) (l : Heap), List.set (b :: l) 9 c = b :: List.set l 8 c) ∧ (∀ (b c : ABlk) (l : Heap), List.set (b :: l) 3 c = b :: List.set l 2 c) := by
  refine ⟨fun _ _ => List.length_append, fun _ _ => rfl, rfl, fun _ _ _ => List.append_assoc _ _ _, fun _ => rfl, fun _ _ _ => rfl, at_app0, at_app, fun _ _ _ _ => by simp [Heap.at], fun _ _ _ => by simp [Heap.at], fun _ _ _ => by simp [Heap.at], fun _ _ _ => by simp [Heap.at], set_app0, set_app, fun _ _ _ => rfl, fun _ _ _ => rfl, fun _ _ _ => rfl, fun n m => by simp, fun n => by simp, fun _ _ _ => by simp [Heap.at], fun _ _ _ => rfl, fun _ _ _ => by simp [Heap.at], fun _ _ _ => rfl, fun _ _ _ => by simp [Heap.at], fun _ _ _ => rfl, fun _ _ _ => by simp [Heap.at], fun _ _ _ => rfl, fun _ _ _ => by simp [Heap.at], fun _ _ _ => rfl, fun _ _ _ => by simp [Heap.at], fun _ _ _ => rfl, fun _ _ _ => rfl⟩

/-! ### Loops whose rounds are run one by one -/
def kcons (s : Nat) (v : Option Value) (r : List (Nat × Value)) : List (Nat × Value) := match v with | some v => (s, v) :: r | none => r
def keepL (l : List (Nat × Value)) : List Nat → List (Nat × Value)
  | [] => []
  | s :: ss => kcons s (look2 l s) (keepL l ss)
theorem keep_ofList (l : List (Nat × Value)) : ∀ ss : List Nat, (Env.ofList l).keep ss = keepL l ss
  | [] => rfl
  | s :: ss => by
    have h : (Env.ofList l).get s = look2 l s := rfl
    simp only [Env.keep, keepL, h]
    cases look2 l s with
    | none => exact keep_ofList l ss
    | some v => exact congrArg ((s, v) :: ·) (keep_ofList l ss)
theorem mask_ofList (l : List (Nat × Value)) (live : List Nat) : (Env.ofList l).mask live = Env.ofList (kcons 1000000 (look2 l 1000000) (keepL l live)) := by
  show Env.ofList ((Env.ofList l).keep (markSlot :: live)) = _
  rw [keep_ofList]; rfl
theorem look2_keep_iff (ρ : Env) (s : Nat) : ∀ l : List Nat, look2 (ρ.keep l) s = if s ∈ l then ρ.get s else none
  | [] => by simp [Env.keep, look2]
  | t :: l => by
    have ih := look2_keep_iff ρ s l
    simp only [Env.keep]
    cases h : ρ.get t with
    | none =>
      simp only [List.mem_cons]
      rw [ih]
      by_cases hst : s = t
      · subst hst; simp [h]
      · simp [hst]
    | some v =>
      simp only [look2, List.mem_cons]
      by_cases hst : s = t
      · subst hst; simp [h]
      · simp only [hst, if_false, false_or]; exact ih
theorem mask_mask (ρ : Env) (l : List Nat) : (ρ.mask l).mask l = ρ.mask l := by
  ext s v
  show look2 ((ρ.mask l).keep (markSlot :: l)) s = some v ↔ look2 (ρ.keep (markSlot :: l)) s = some v
  rw [look2_keep_iff, look2_keep_iff]
  by_cases h : s ∈ markSlot :: l
  · rw [if_pos h, if_pos h]
    show look2 (ρ.keep (markSlot :: l)) s = some v ↔ _
    rw [look2_keep_iff, if_pos h]
  · rw [if_neg h, if_neg h]
theorem XW_mask {F : Nat → Option AFun} {gl base : Nat} {l : List Nat} {a : ACode} {ρ : Env} {H : Heap} {Q : AX → Env → Heap → Prop} : XW F gl base (.loop l a) ρ H Q = XW F gl base (.loop l a) (ρ.mask l) H Q := by
  rw [XW_loop_eq, XW_loop_eq (ρ := ρ.mask l), mask_mask]
theorem ax5 {F : Nat → Option AFun} {gl : Nat} : (∀ (base : Nat) (l : List Nat) (a : ACode) (ρ : Env) (H : Heap) (Q : AX → Env → Heap → Prop), XW F gl base (.loop l a) ρ H Q = XW F gl base a (ρ.mask l) H (loopQ F gl base l a Q)) ∧
    (∀ (base : Nat) (l : List Nat) (a : ACode) (ρ : Env) (H : Heap) (Q : AX → Env → Heap → Prop), loopQ F gl base l a Q .normal ρ H = XW F gl base (.loop l a) ρ H Q) ∧
    (∀ (base : Nat) (l : List Nat) (a : ACode) (i : Nat) (ρ : Env) (H : Heap) (Q : AX → Env → Heap → Prop), loopQ F gl base l a Q (.exit i) ρ H = Q (.exit i) ρ H) ∧
    (∀ (base : Nat) (l : List Nat) (a : ACode) (ρ : Env) (H : Heap) (Q : AX → Env → Heap → Prop), loopQ F gl base l a Q .ret ρ H = Q .ret ρ H) :=
  ⟨fun _ _ _ _ _ _ => XW_loop_eq, fun _ _ _ _ _ _ => rfl, fun _ _ _ _ _ _ _ => rfl, fun _ _ _ _ _ _ => rfl⟩
theorem ax7 {F : Nat → Option AFun} {gl : Nat} : (∀ (base : Nat) (l : List Nat) (a : ACode) (ρ : Env) (H : Heap) (Q : AX → Env → Heap → Prop), loopQ F gl base l a Q .normal ρ H = XW F gl base (.loop l a) ρ H Q) ∧
    (∀ (base : Nat) (l : List Nat) (a : ACode) (i : Nat) (ρ : Env) (H : Heap) (Q : AX → Env → Heap → Prop), loopQ F gl base l a Q (.exit i) ρ H = Q (.exit i) ρ H) ∧
    (∀ (base : Nat) (l : List Nat) (a : ACode) (ρ : Env) (H : Heap) (Q : AX → Env → Heap → Prop), loopQ F gl base l a Q .ret ρ H = Q .ret ρ H) :=
  ⟨fun _ _ _ _ _ _ => rfl, fun _ _ _ _ _ _ _ => rfl, fun _ _ _ _ _ _ => rfl⟩
theorem ax6 : (∀ l live, (Env.ofList l).mask live = Env.ofList (kcons 1000000 (look2 l 1000000) (keepL l live))) ∧ (∀ l, keepL l [] = []) ∧ (∀ l s ss, keepL l (s :: ss) = kcons s (look2 l s) (keepL l ss)) ∧
    (∀ s v r, kcons s (some v) r = (s, v) :: r) ∧ (∀ s r, kcons s none r = r) ∧ (∀ s, look2 [] s = none) ∧
    (∀ (i : Nat) (Q : AX → Env → Heap → Prop) (ρ : Env) (H : Heap), blockQ i Q .normal ρ H = Q .normal ρ H) ∧ (∀ (i : Nat) (Q : AX → Env → Heap → Prop) (ρ : Env) (H : Heap), blockQ i Q .ret ρ H = Q .ret ρ H) ∧
    (∀ (i j : Nat) (Q : AX → Env → Heap → Prop) (ρ : Env) (H : Heap), blockQ i Q (.exit j) ρ H = if j = i then Q .normal ρ H else Q (.exit j) ρ H) :=
  ⟨mask_ofList, fun _ => rfl, fun _ _ _ => rfl, fun _ _ _ => rfl, fun _ _ => rfl, fun _ => rfl, fun _ _ _ _ => rfl, fun _ _ _ _ => rfl, fun _ _ _ _ _ => rfl⟩

/-! ### Endings -/
section
variable {H : Heap} {base : Nat} {res : List Res} {ρ : Env}
theorem take_app (H l : Heap) : List.take H.length (H ++ l) = H := by simp
/-- Behind a function that lets its memory go. -/
theorem ret_drop {l : Heap} {vs : List Value} {v : Value} (hm : marksOf ρ = []) (hr : resAll ρ (H ++ l) res = some vs) (hv : resV vs = v) (hn : noNew H.length v = true) : retQ H base .drop res (some (v, H)) .ret ρ (H ++ l) := by
  refine ⟨.inr rfl, hm, vs, hr, ?_⟩
  rw [hv]
  simp only [settle, hn, if_true, take_app]
theorem ret_drop0 {vs : List Value} {v : Value} (hm : marksOf ρ = []) (hr : resAll ρ H res = some vs) (hv : resV vs = v) (hn : noNew H.length v = true) : retQ H base .drop res (some (v, H)) .ret ρ H := by
  have := ret_drop (l := []) (base := base) hm (by simpa using hr) hv hn
  simpa using this
end
end Go.AM
/- The roots' series: the program's and the document's. No condition. -/
set_option maxRecDepth 20000
set_option maxHeartbeats 1000000
set_option linter.unusedSimpArgs false
namespace Go.AM.Cd
theorem fmul : fop .mul 4607182418800017408 (fofi 1) = 4607182418800017408 ∧ fop .mul 4607182418800017408 (fofi 2) = 4611686018427387904 ∧ fop .mul 4611686018427387904 (fofi 3) = 4618441417868443648 ∧ fop .mul 4618441417868443648 (fofi 4) = 4627448617123184640 ∧ fop .mul 4627448617123184640 (fofi 5) = 4638144666238189568 ∧ fop .mul 4638144666238189568 (fofi 6) = 4649544402794971136 ∧ fop .mul 4649544402794971136 (fofi 7) = 4662263553305083904 ∧ fop .mul 4662263553305083904 (fofi 8) = 4675774352187195392 ∧ fop .mul 4675774352187195392 (fofi 9) = 4689977843394805760 ∧ fop .mul 4689977843394805760 (fofi 10) = 4705047200009289728 ∧ fop .mul 4705047200009289728 (fofi 11) = 4720626352061939712 ∧ fop .mul 4720626352061939712 (fofi 12) = 4736815922046566400 ∧ fop .mul 4736815922046566400 (fofi 13) = 4753323511810883584 ∧ fop .mul 4753323511810883584 (fofi 14) = 4770521722250067968 ∧ fop .mul 4770521722250067968 (fofi 15) = 4788179038478794752 ∧ fop .mul 4788179038478794752 (fofi 16) = 4806193436988276736 ∧ fop .mul 4806193436988276736 (fofi 17) = 4824542600135966720 ∧ fop .mul 4824542600135966720 (fofi 18) = 4843268373501640704 ∧ fop .mul 4843268373501640704 (fofi 19) = 4862483217080946688 := by decide +kernel
theorem fquo : fop .quo 4607182418800017408 4607182418800017408 = 4607182418800017408 ∧ fop .quo 4607182418800017408 4611686018427387904 = 4602678819172646912 ∧ fop .quo 4607182418800017408 4618441417868443648 = 4595172819793696085 ∧ fop .quo 4607182418800017408 4627448617123184640 = 4586165620538955093 ∧ fop .quo 4607182418800017408 4638144666238189568 = 4575957461383581969 ∧ fop .quo 4607182418800017408 4649544402794971136 = 4564047942368979991 ∧ fop .quo 4607182418800017408 4662263553305083904 = 4551452160554016794 ∧ fop .quo 4607182418800017408 4675774352187195392 = 4537941361671905306 ∧ fop .quo 4607182418800017408 4689977843394805760 = 4523617214285662004 ∧ fop .quo 4607182418800017408 4705047200009289728 = 4508805057796939612 ∧ fop .quo 4607182418800017408 4720626352061939712 = 4493156764026750180 ∧ fop .quo 4607182418800017408 4736815922046566400 = 4477122120089393304 ∧ fop .quo 4607182418800017408 4753323511810883584 = 4460272573143870729 ∧ fop .quo 4607182418800017408 4770521722250067968 = 4443145680587881629 ∧ fop .quo 4607182418800017408 4788179038478794752 = 4425604618586929183 ∧ fop .quo 4607182418800017408 4806193436988276736 = 4407590220077447199 ∧ fop .quo 4607182418800017408 4824542600135966720 = 4389130328383466826 ∧ fop .quo 4607182418800017408 4843268373501640704 = 4370323941990432151 := by decide +kernel
def horF (y : Nat) : List Nat → Nat
  | [] => 0
  | [c] => c
  | c :: l => fop .sub c (fop .mul y (horF y l))
section
variable {gl base : Nat} {H : Heap} {y f : Nat} {first m j : Int} {cs : List Value} {Q : AX → Env → Heap → Prop}
/-- The rounds of the first loop. -/
theorem r225a (h0 : 0 ≤ first) (h1 : first ≤ 1) (h2 : first ≤ m) (h3 : m < 17 + first) (e1 : (m - first).tmod 2 = 0) (e2 : (m - first).tdiv 2 = j) (h4 : 0 ≤ j) (h5 : j < 9) (h6 : cs.length = 9) :
    XW Tb gl H.length L225_0 (Env.ofList [(0, .float .f64 y), (1, .int .i64 first), (5, .pointer (some ⟨H.length, 0, some 0⟩)), (6, .float .f64 f), (7, .int .i64 m)]) (H ++ [.cells 0 0 cs]) Q =
    XW Tb gl H.length L225_0 (Env.ofList [(0, .float .f64 y), (1, .int .i64 first), (5, .pointer (some ⟨H.length, 0, some 0⟩)), (6, .float .f64 (fop .mul f (fofi m))), (7, .int .i64 (m + 1))]) (H ++ [.cells 0 0 (cs.set j.toNat (.float .f64 (fop .quo 4607182418800017408 (fop .mul f (fofi m)))))]) Q := by
  conv => lhs; unfold L225_0; rw [XW_loop_eq]
  simp (maxSteps := 1000000) (disch := omega) only [ax6, ax7, e1, e2, h6, ax1, ax2, ax3, ax4, reduceIte, Nat.reduceAdd, Nat.reduceMul, Nat.reduceEqDiff, Nat.reduceLeDiff, reduceCtorEq, Int.reduceAdd, Int.reduceSub, Int.reduceMul, Int.reduceNeg, Int.reduceEq, Int.reduceTMod, Int.reduceTDiv, Int.reduceLT, Int.reduceLE, Int.reduceToNat, Int.reduceBEq, Int.reduceBNe, decide_true, decide_false, and_self, and_true, true_and, w64, dT, dF, bT, bF, nT, nF, if_pos, if_neg, Int.tmod_eq_emod_of_nonneg, Int.tdiv_eq_ediv_of_nonneg, Int.toNat_natCast, Nat.mul_one, Nat.one_mul, Nat.zero_add, Nat.add_zero, Nat.zero_mul]
  rw [XW_mask]
  simp (maxSteps := 1000000) (disch := omega) only [ax6, ax1, ax2, ax3, ax4, reduceIte, Nat.reduceAdd, Nat.reduceMul, Nat.reduceEqDiff, Nat.reduceLeDiff, reduceCtorEq, Int.reduceAdd, Int.reduceSub, Int.reduceMul, Int.reduceNeg, Int.reduceEq, Int.reduceTMod, Int.reduceTDiv, Int.reduceLT, Int.reduceLE, Int.reduceToNat, Int.reduceBEq, Int.reduceBNe, decide_true, decide_false, and_self, and_true, true_and, w64, dT, dF, bT, bF, nT, nF, if_pos, if_neg, Int.tmod_eq_emod_of_nonneg, Int.tdiv_eq_ediv_of_nonneg, Int.toNat_natCast, Nat.mul_one, Nat.one_mul, Nat.zero_add, Nat.add_zero, Nat.zero_mul]
  rfl
theorem r225b (h0 : 0 ≤ first) (h1 : first ≤ 1) (h2 : 0 ≤ m) (h3 : m < 17 + first) (e : m < first ∨ (m - first).tmod 2 = 1) :
    XW Tb gl H.length L225_0 (Env.ofList [(0, .float .f64 y), (1, .int .i64 first), (5, .pointer (some ⟨H.length, 0, some 0⟩)), (6, .float .f64 f), (7, .int .i64 m)]) (H ++ [.cells 0 0 cs]) Q =
    XW Tb gl H.length L225_0 (Env.ofList [(0, .float .f64 y), (1, .int .i64 first), (5, .pointer (some ⟨H.length, 0, some 0⟩)), (6, .float .f64 (fop .mul f (fofi m))), (7, .int .i64 (m + 1))]) (H ++ [.cells 0 0 cs]) Q := by
  conv => lhs; unfold L225_0; rw [XW_loop_eq]
  by_cases hm : m < first
  · simp (maxSteps := 1000000) (disch := omega) only [ax6, ax7, ax1, ax2, ax3, ax4, reduceIte, Nat.reduceAdd, Nat.reduceMul, Nat.reduceEqDiff, Nat.reduceLeDiff, reduceCtorEq, Int.reduceAdd, Int.reduceSub, Int.reduceMul, Int.reduceNeg, Int.reduceEq, Int.reduceTMod, Int.reduceTDiv, Int.reduceLT, Int.reduceLE, Int.reduceToNat, Int.reduceBEq, Int.reduceBNe, decide_true, decide_false, and_self, and_true, true_and, w64, dT, dF, bT, bF, nT, nF, if_pos, if_neg, Int.tmod_eq_emod_of_nonneg, Int.tdiv_eq_ediv_of_nonneg, Int.toNat_natCast, Nat.mul_one, Nat.one_mul, Nat.zero_add, Nat.add_zero, Nat.zero_mul]
    rw [XW_mask]
    simp (maxSteps := 1000000) (disch := omega) only [ax6, ax1, ax2, ax3, ax4, reduceIte, Nat.reduceAdd, Nat.reduceMul, Nat.reduceEqDiff, Nat.reduceLeDiff, reduceCtorEq, Int.reduceAdd, Int.reduceSub, Int.reduceMul, Int.reduceNeg, Int.reduceEq, Int.reduceTMod, Int.reduceTDiv, Int.reduceLT, Int.reduceLE, Int.reduceToNat, Int.reduceBEq, Int.reduceBNe, decide_true, decide_false, and_self, and_true, true_and, w64, dT, dF, bT, bF, nT, nF, if_pos, if_neg, Int.tmod_eq_emod_of_nonneg, Int.tdiv_eq_ediv_of_nonneg, Int.toNat_natCast, Nat.mul_one, Nat.one_mul, Nat.zero_add, Nat.add_zero, Nat.zero_mul]
    rfl
  · have e1 := e.resolve_left hm
    simp (maxSteps := 1000000) (disch := omega) only [ax6, ax7, e1, ax1, ax2, ax3, ax4, reduceIte, Nat.reduceAdd, Nat.reduceMul, Nat.reduceEqDiff, Nat.reduceLeDiff, reduceCtorEq, Int.reduceAdd, Int.reduceSub, Int.reduceMul, Int.reduceNeg, Int.reduceEq, Int.reduceTMod, Int.reduceTDiv, Int.reduceLT, Int.reduceLE, Int.reduceToNat, Int.reduceBEq, Int.reduceBNe, decide_true, decide_false, and_self, and_true, true_and, w64, dT, dF, bT, bF, nT, nF, if_pos, if_neg, Int.tmod_eq_emod_of_nonneg, Int.tdiv_eq_ediv_of_nonneg, Int.toNat_natCast, Nat.mul_one, Nat.one_mul, Nat.zero_add, Nat.add_zero, Nat.zero_mul]
    rw [XW_mask]
    simp (maxSteps := 1000000) (disch := omega) only [ax6, ax1, ax2, ax3, ax4, reduceIte, Nat.reduceAdd, Nat.reduceMul, Nat.reduceEqDiff, Nat.reduceLeDiff, reduceCtorEq, Int.reduceAdd, Int.reduceSub, Int.reduceMul, Int.reduceNeg, Int.reduceEq, Int.reduceTMod, Int.reduceTDiv, Int.reduceLT, Int.reduceLE, Int.reduceToNat, Int.reduceBEq, Int.reduceBNe, decide_true, decide_false, and_self, and_true, true_and, w64, dT, dF, bT, bF, nT, nF, if_pos, if_neg, Int.tmod_eq_emod_of_nonneg, Int.tdiv_eq_ediv_of_nonneg, Int.toNat_natCast, Nat.mul_one, Nat.one_mul, Nat.zero_add, Nat.add_zero, Nat.zero_mul]
    rfl
theorem c225_0 : Cf Tb gl base 225 [.float .f64 y, .int .i64 0] H = some (.float .f64 (horF y [4607182418800017408, 4602678819172646912, 4586165620538955093, 4564047942368979991, 4537941361671905306, 4508805057796939612, 4477122120089393304, 4443145680587881629, 4407590220077447199]), H) := by
  refine Cf_of T225 (by simp) ?_
  simp (maxSteps := 1000000) (disch := omega) only [B225, ax6, ax1, ax2, ax3, ax4, reduceIte, Nat.reduceAdd, Nat.reduceMul, Nat.reduceEqDiff, Nat.reduceLeDiff, reduceCtorEq, Int.reduceAdd, Int.reduceSub, Int.reduceMul, Int.reduceNeg, Int.reduceEq, Int.reduceTMod, Int.reduceTDiv, Int.reduceLT, Int.reduceLE, Int.reduceToNat, Int.reduceBEq, Int.reduceBNe, decide_true, decide_false, and_self, and_true, true_and, w64, dT, dF, bT, bF, nT, nF, if_pos, if_neg, Int.tmod_eq_emod_of_nonneg, Int.tdiv_eq_ediv_of_nonneg, Int.toNat_natCast, Nat.mul_one, Nat.one_mul, Nat.zero_add, Nat.add_zero, Nat.zero_mul]
  rw [show L225_0 = ACode.loop [0, 1, 5, 6, 7] _ from rfl, XW_mask]
  simp (maxSteps := 1000000) (disch := omega) only [ax6, ax1, ax2, ax3, ax4, reduceIte, Nat.reduceAdd, Nat.reduceMul, Nat.reduceEqDiff, Nat.reduceLeDiff, reduceCtorEq, Int.reduceAdd, Int.reduceSub, Int.reduceMul, Int.reduceNeg, Int.reduceEq, Int.reduceTMod, Int.reduceTDiv, Int.reduceLT, Int.reduceLE, Int.reduceToNat, Int.reduceBEq, Int.reduceBNe, decide_true, decide_false, and_self, and_true, true_and, w64, dT, dF, bT, bF, nT, nF, if_pos, if_neg, Int.tmod_eq_emod_of_nonneg, Int.tdiv_eq_ediv_of_nonneg, Int.toNat_natCast, Nat.mul_one, Nat.one_mul, Nat.zero_add, Nat.add_zero, Nat.zero_mul]
  refine Eq.mpr (congrArg (fun c => XW Tb gl H.length c _ _ _) (show _ = L225_0 from rfl)) ?_
  simp only [List.reduceReplicate]
  rw [r225b (by decide) (by decide) (by decide) (by decide) (by decide)]
  simp only [fmul, Int.reduceAdd]
  rw [r225a (j := 1) (by decide) (by decide) (by decide) (by decide) (by decide) (by decide) (by decide) (by decide) (by simp)]
  simp only [fmul, fquo, Int.reduceAdd, Int.reduceToNat, List.reduceReplicate, List.set_cons_zero, List.set_cons_succ]
  rw [r225b (by decide) (by decide) (by decide) (by decide) (by decide)]
  simp only [fmul, Int.reduceAdd]
  rw [r225a (j := 2) (by decide) (by decide) (by decide) (by decide) (by decide) (by decide) (by decide) (by decide) (by simp)]
  simp only [fmul, fquo, Int.reduceAdd, Int.reduceToNat, List.reduceReplicate, List.set_cons_zero, List.set_cons_succ]
  rw [r225b (by decide) (by decide) (by decide) (by decide) (by decide)]
  simp only [fmul, Int.reduceAdd]
  rw [r225a (j := 3) (by decide) (by decide) (by decide) (by decide) (by decide) (by decide) (by decide) (by decide) (by simp)]
  simp only [fmul, fquo, Int.reduceAdd, Int.reduceToNat, List.reduceReplicate, List.set_cons_zero, List.set_cons_succ]
  rw [r225b (by decide) (by decide) (by decide) (by decide) (by decide)]
  simp only [fmul, Int.reduceAdd]
  rw [r225a (j := 4) (by decide) (by decide) (by decide) (by decide) (by decide) (by decide) (by decide) (by decide) (by simp)]
  simp only [fmul, fquo, Int.reduceAdd, Int.reduceToNat, List.reduceReplicate, List.set_cons_zero, List.set_cons_succ]
  rw [r225b (by decide) (by decide) (by decide) (by decide) (by decide)]
  simp only [fmul, Int.reduceAdd]
  rw [r225a (j := 5) (by decide) (by decide) (by decide) (by decide) (by decide) (by decide) (by decide) (by decide) (by simp)]
  simp only [fmul, fquo, Int.reduceAdd, Int.reduceToNat, List.reduceReplicate, List.set_cons_zero, List.set_cons_succ]
  rw [r225b (by decide) (by decide) (by decide) (by decide) (by decide)]
  simp only [fmul, Int.reduceAdd]
  rw [r225a (j := 6) (by decide) (by decide) (by decide) (by decide) (by decide) (by decide) (by decide) (by decide) (by simp)]
  simp only [fmul, fquo, Int.reduceAdd, Int.reduceToNat, List.reduceReplicate, List.set_cons_zero, List.set_cons_succ]
  rw [r225b (by decide) (by decide) (by decide) (by decide) (by decide)]
  simp only [fmul, Int.reduceAdd]
  rw [r225a (j := 7) (by decide) (by decide) (by decide) (by decide) (by decide) (by decide) (by decide) (by decide) (by simp)]
  simp only [fmul, fquo, Int.reduceAdd, Int.reduceToNat, List.reduceReplicate, List.set_cons_zero, List.set_cons_succ]
  rw [r225b (by decide) (by decide) (by decide) (by decide) (by decide)]
  simp only [fmul, Int.reduceAdd]
  rw [r225a (j := 8) (by decide) (by decide) (by decide) (by decide) (by decide) (by decide) (by decide) (by decide) (by simp)]
  simp only [fmul, fquo, Int.reduceAdd, Int.reduceToNat, List.reduceReplicate, List.set_cons_zero, List.set_cons_succ]
  unfold L225_0
  rw [XW_loop_eq]
  simp (maxSteps := 1000000) (disch := omega) only [ax6, ax7, L225_1, ax5, List.getElem?_cons_zero, List.getElem?_cons_succ, part, List.set_cons_zero, List.set_cons_succ, List.length_cons, List.length_nil, ax1, ax2, ax3, ax4, reduceIte, Nat.reduceAdd, Nat.reduceMul, Nat.reduceEqDiff, Nat.reduceLeDiff, reduceCtorEq, Int.reduceAdd, Int.reduceSub, Int.reduceMul, Int.reduceNeg, Int.reduceEq, Int.reduceTMod, Int.reduceTDiv, Int.reduceLT, Int.reduceLE, Int.reduceToNat, Int.reduceBEq, Int.reduceBNe, decide_true, decide_false, and_self, and_true, true_and, w64, dT, dF, bT, bF, nT, nF, if_pos, if_neg, Int.tmod_eq_emod_of_nonneg, Int.tdiv_eq_ediv_of_nonneg, Int.toNat_natCast, Nat.mul_one, Nat.one_mul, Nat.zero_add, Nat.add_zero, Nat.zero_mul]
  exact ret_drop (l := [_]) rfl rfl rfl rfl
theorem c225_1 : Cf Tb gl base 225 [.float .f64 y, .int .i64 1] H = some (.float .f64 (horF y [4607182418800017408, 4595172819793696085, 4575957461383581969, 4551452160554016794, 4523617214285662004, 4493156764026750180, 4460272573143870729, 4425604618586929183, 4389130328383466826]), H) := by
  refine Cf_of T225 (by simp) ?_
  simp (maxSteps := 1000000) (disch := omega) only [B225, ax6, ax1, ax2, ax3, ax4, reduceIte, Nat.reduceAdd, Nat.reduceMul, Nat.reduceEqDiff, Nat.reduceLeDiff, reduceCtorEq, Int.reduceAdd, Int.reduceSub, Int.reduceMul, Int.reduceNeg, Int.reduceEq, Int.reduceTMod, Int.reduceTDiv, Int.reduceLT, Int.reduceLE, Int.reduceToNat, Int.reduceBEq, Int.reduceBNe, decide_true, decide_false, and_self, and_true, true_and, w64, dT, dF, bT, bF, nT, nF, if_pos, if_neg, Int.tmod_eq_emod_of_nonneg, Int.tdiv_eq_ediv_of_nonneg, Int.toNat_natCast, Nat.mul_one, Nat.one_mul, Nat.zero_add, Nat.add_zero, Nat.zero_mul]
  rw [show L225_0 = ACode.loop [0, 1, 5, 6, 7] _ from rfl, XW_mask]
  simp (maxSteps := 1000000) (disch := omega) only [ax6, ax1, ax2, ax3, ax4, reduceIte, Nat.reduceAdd, Nat.reduceMul, Nat.reduceEqDiff, Nat.reduceLeDiff, reduceCtorEq, Int.reduceAdd, Int.reduceSub, Int.reduceMul, Int.reduceNeg, Int.reduceEq, Int.reduceTMod, Int.reduceTDiv, Int.reduceLT, Int.reduceLE, Int.reduceToNat, Int.reduceBEq, Int.reduceBNe, decide_true, decide_false, and_self, and_true, true_and, w64, dT, dF, bT, bF, nT, nF, if_pos, if_neg, Int.tmod_eq_emod_of_nonneg, Int.tdiv_eq_ediv_of_nonneg, Int.toNat_natCast, Nat.mul_one, Nat.one_mul, Nat.zero_add, Nat.add_zero, Nat.zero_mul]
  refine Eq.mpr (congrArg (fun c => XW Tb gl H.length c _ _ _) (show _ = L225_0 from rfl)) ?_
  simp only [List.reduceReplicate]
  rw [r225a (j := 0) (by decide) (by decide) (by decide) (by decide) (by decide) (by decide) (by decide) (by decide) (by simp)]
  simp only [fmul, fquo, Int.reduceAdd, Int.reduceToNat, List.reduceReplicate, List.set_cons_zero, List.set_cons_succ]
  rw [r225b (by decide) (by decide) (by decide) (by decide) (by decide)]
  simp only [fmul, Int.reduceAdd]
  rw [r225a (j := 1) (by decide) (by decide) (by decide) (by decide) (by decide) (by decide) (by decide) (by decide) (by simp)]
  simp only [fmul, fquo, Int.reduceAdd, Int.reduceToNat, List.reduceReplicate, List.set_cons_zero, List.set_cons_succ]
  rw [r225b (by decide) (by decide) (by decide) (by decide) (by decide)]
  simp only [fmul, Int.reduceAdd]
  rw [r225a (j := 2) (by decide) (by decide) (by decide) (by decide) (by decide) (by decide) (by decide) (by decide) (by simp)]
  simp only [fmul, fquo, Int.reduceAdd, Int.reduceToNat, List.reduceReplicate, List.set_cons_zero, List.set_cons_succ]
  rw [r225b (by decide) (by decide) (by decide) (by decide) (by decide)]
  simp only [fmul, Int.reduceAdd]
  rw [r225a (j := 3) (by decide) (by decide) (by decide) (by decide) (by decide) (by decide) (by decide) (by decide) (by simp)]
  simp only [fmul, fquo, Int.reduceAdd, Int.reduceToNat, List.reduceReplicate, List.set_cons_zero, List.set_cons_succ]
  rw [r225b (by decide) (by decide) (by decide) (by decide) (by decide)]
  simp only [fmul, Int.reduceAdd]
  rw [r225a (j := 4) (by decide) (by decide) (by decide) (by decide) (by decide) (by decide) (by decide) (by decide) (by simp)]
  simp only [fmul, fquo, Int.reduceAdd, Int.reduceToNat, List.reduceReplicate, List.set_cons_zero, List.set_cons_succ]
  rw [r225b (by decide) (by decide) (by decide) (by decide) (by decide)]
  simp only [fmul, Int.reduceAdd]
  rw [r225a (j := 5) (by decide) (by decide) (by decide) (by decide) (by decide) (by decide) (by decide) (by decide) (by simp)]
  simp only [fmul, fquo, Int.reduceAdd, Int.reduceToNat, List.reduceReplicate, List.set_cons_zero, List.set_cons_succ]
  rw [r225b (by decide) (by decide) (by decide) (by decide) (by decide)]
  simp only [fmul, Int.reduceAdd]
  rw [r225a (j := 6) (by decide) (by decide) (by decide) (by decide) (by decide) (by decide) (by decide) (by decide) (by simp)]
  simp only [fmul, fquo, Int.reduceAdd, Int.reduceToNat, List.reduceReplicate, List.set_cons_zero, List.set_cons_succ]
  rw [r225b (by decide) (by decide) (by decide) (by decide) (by decide)]
  simp only [fmul, Int.reduceAdd]
  rw [r225a (j := 7) (by decide) (by decide) (by decide) (by decide) (by decide) (by decide) (by decide) (by decide) (by simp)]
  simp only [fmul, fquo, Int.reduceAdd, Int.reduceToNat, List.reduceReplicate, List.set_cons_zero, List.set_cons_succ]
  rw [r225b (by decide) (by decide) (by decide) (by decide) (by decide)]
  simp only [fmul, Int.reduceAdd]
  rw [r225a (j := 8) (by decide) (by decide) (by decide) (by decide) (by decide) (by decide) (by decide) (by decide) (by simp)]
  simp only [fmul, fquo, Int.reduceAdd, Int.reduceToNat, List.reduceReplicate, List.set_cons_zero, List.set_cons_succ]
  unfold L225_0
  rw [XW_loop_eq]
  simp (maxSteps := 1000000) (disch := omega) only [ax6, ax7, L225_1, ax5, List.getElem?_cons_zero, List.getElem?_cons_succ, part, List.set_cons_zero, List.set_cons_succ, List.length_cons, List.length_nil, ax1, ax2, ax3, ax4, reduceIte, Nat.reduceAdd, Nat.reduceMul, Nat.reduceEqDiff, Nat.reduceLeDiff, reduceCtorEq, Int.reduceAdd, Int.reduceSub, Int.reduceMul, Int.reduceNeg, Int.reduceEq, Int.reduceTMod, Int.reduceTDiv, Int.reduceLT, Int.reduceLE, Int.reduceToNat, Int.reduceBEq, Int.reduceBNe, decide_true, decide_false, and_self, and_true, true_and, w64, dT, dF, bT, bF, nT, nF, if_pos, if_neg, Int.tmod_eq_emod_of_nonneg, Int.tdiv_eq_ediv_of_nonneg, Int.toNat_natCast, Nat.mul_one, Nat.one_mul, Nat.zero_add, Nat.add_zero, Nat.zero_mul]
  exact ret_drop (l := [_]) rfl rfl rfl rfl
end
end Go.AM.Cd
