/- Floats up to the bits of a NaN: what the abstract machine reckons with. No condition. -/
import GoSem.Dispatch
import Derived.RangeFuncLeaves
import Derived.OrdersIn
import Derived.Below
import Derived.Laws.Sem
import Derived.Laws.Entries
import Derived.ChangeKeysEq
import Derived.LaidEql
import Derived.LaidEqlPtr
import Derived.Laws.StructEq
import Derived.MapKept
import Derived.Laws.BytesString
import Derived.Laws.Slices
import Derived.Laws.Cells
set_option linter.all false
namespace Go.AM

/-- The one NaN. -/
def nan64 : Nat := 0x7ff8000000000000
def isNaN (b : Nat) : Bool := (Ieee.double.read b).isNaN
/-- A float's bits, those of every NaN as one. -/
def canon (b : Nat) : Nat := if isNaN b then nan64 else b

theorem isNaN_nan64 : isNaN nan64 = true := by decide +kernel
theorem canon_of_nan {b : Nat} (h : isNaN b = true) : canon b = nan64 := by simp [canon, h]
theorem canon_of_not {b : Nat} (h : isNaN b = false) : canon b = b := by simp [canon, h]
theorem isNaN_canon (b : Nat) : isNaN (canon b) = isNaN b := by
  unfold canon; split
  · rename_i h; rw [isNaN_nan64, h]
  · rfl
theorem canon_canon (b : Nat) : canon (canon b) = canon b := by
  cases h : isNaN b
  · simp [canon, h]
  · simp [canon, h, isNaN_nan64]

/-- Two words of one canonical form are read alike, but for which NaN it is. -/
theorem canon_cases {c a : Nat} (h : canon c = a) : (isNaN c = true ∧ a = nan64) ∨ (isNaN c = false ∧ a = c) := by
  cases hc : isNaN c
  · right; rw [canon_of_not hc] at h; exact ⟨rfl, h.symm⟩
  · left; rw [canon_of_nan hc] at h; exact ⟨rfl, h.symm⟩

theorem read_nan {c : Nat} (h : isNaN c = true) : ∃ s f, Ieee.double.read c = .nan s f := by
  unfold isNaN Ieee.Datum.isNaN at h
  split at h
  · exact ⟨_, _, by assumption⟩
  · cases h

def fbin (op : BinOp) (x y : Nat) : Option Nat :=
  match op with
  | .add => Ieee.double.add x y
  | .sub => Ieee.double.sub x y
  | .mul => Ieee.double.mul x y
  | .quo => Ieee.double.div x y
  | _ => none

theorem sum_nan_l (s f) (d : Ieee.Datum) : (Ieee.Datum.nan s f).sum d = none := by cases d <;> rfl
theorem sum_nan_r (s f) (d : Ieee.Datum) : d.sum (.nan s f) = none := by cases d <;> rfl
theorem product_nan_l (s f) (d : Ieee.Datum) : (Ieee.Datum.nan s f).product d = none := by cases d <;> rfl
theorem product_nan_r (s f) (d : Ieee.Datum) : d.product (.nan s f) = none := by cases d <;> rfl
theorem quotient_nan_l (n s f) (d : Ieee.Datum) : (Ieee.Datum.nan s f).quotient n d = none := by cases d <;> rfl
theorem quotient_nan_r (n s f) (d : Ieee.Datum) : d.quotient n (.nan s f) = none := by cases d <;> rfl
theorem order_nan_l (s f) (d : Ieee.Datum) : (Ieee.Datum.nan s f).order d = none := by cases d <;> rfl
theorem order_nan_r (s f) (d : Ieee.Datum) : d.order (.nan s f) = none := by cases d <;> rfl

theorem fbin_nan_l {op : BinOp} {x y : Nat} (h : isNaN x = true) : fbin op x y = none := by
  obtain ⟨s, f, e⟩ := read_nan h
  cases op <;> simp [fbin, Ieee.Format.add, Ieee.Format.sub, Ieee.Format.mul, Ieee.Format.div, e, sum_nan_l, product_nan_l, quotient_nan_l]
theorem fbin_nan_r {op : BinOp} {x y : Nat} (h : isNaN y = true) : fbin op x y = none := by
  obtain ⟨s, f, e⟩ := read_nan h
  cases op <;> simp [fbin, Ieee.Format.add, Ieee.Format.sub, Ieee.Format.mul, Ieee.Format.div, e, sum_nan_r, product_nan_r, quotient_nan_r, Ieee.Datum.opposite]

theorem fbin_canon (op : BinOp) {c d a b : Nat} (h : canon c = a) (h' : canon d = b) : fbin op c d = fbin op a b := by
  rcases canon_cases h with ⟨hc, rfl⟩ | ⟨_, rfl⟩
  · rw [fbin_nan_l hc, fbin_nan_l isNaN_nan64]
  · rcases canon_cases h' with ⟨hd, rfl⟩ | ⟨_, rfl⟩
    · rw [fbin_nan_r hd, fbin_nan_r isNaN_nan64]
    · rfl

theorem order_canon {c d a b : Nat} (h : canon c = a) (h' : canon d = b) : Ieee.double.order c d = Ieee.double.order a b := by
  unfold Ieee.Format.order
  rcases canon_cases h with ⟨hc, rfl⟩ | ⟨_, rfl⟩
  · obtain ⟨s, f, e⟩ := read_nan hc
    obtain ⟨s', f', e'⟩ := read_nan isNaN_nan64
    rw [e, e', order_nan_l, order_nan_l]
  · rcases canon_cases h' with ⟨hd, rfl⟩ | ⟨_, rfl⟩
    · obtain ⟨s, f, e⟩ := read_nan hd
      obtain ⟨s', f', e'⟩ := read_nan isNaN_nan64
      rw [e, e', order_nan_r, order_nan_r]
    · rfl

/-- The bits that the tape may choose for a NaN are a NaN's. -/
theorem isNaN_nanBits (x y t : Nat) : isNaN ((Question.nanBits .f64 x y).cut t) = true := by
  have hs : Ieee.double.signWeight = 2 ^ 63 := by decide
  have hb : Ieee.double.binade = 2 ^ 52 := by decide
  have hi : Ieee.double.infRung = 0x7ff0000000000000 := by decide
  simp only [Question.cut, isNaN, Ieee.Format.read, hs, hb, hi]
  have h1 : t % 2 < 2 := Nat.mod_lt _ (by decide)
  have h2 : (t / 2) % (2 ^ 52 - 1) < 2 ^ 52 - 1 := Nat.mod_lt _ (by decide)
  generalize t % 2 = u at h1
  generalize (t / 2) % (2 ^ 52 - 1) = v at h2
  have e : (u * 2 ^ 63 + 0x7ff0000000000000 + 1 + v) % 2 ^ 63 = 0x7ff0000000000000 + 1 + v := by omega
  rw [e, if_neg (by omega), if_neg (by omega), if_neg (by omega)]
  rfl

/-- The float operation up to the bits of a NaN. -/
def fop (op : BinOp) (x y : Nat) : Nat := canon ((fbin op x y).getD nan64)

/-- minus -/
def fneg (x : Nat) : Nat := if isNaN x then nan64 else x ^^^ 2 ^ 63

theorem xor_sign_low (c : Nat) : (c ^^^ 2 ^ 63) % 2 ^ 63 = c % 2 ^ 63 := by
  rw [Nat.xor_mod_two_pow]; simp
theorem isNaN_low (c : Nat) : isNaN c = decide (0x7ff0000000000000 < c % 2 ^ 63) := by
  have hs : Ieee.double.signWeight = 2 ^ 63 := by decide
  have hb : Ieee.double.binade = 2 ^ 52 := by decide
  have hi : Ieee.double.infRung = 0x7ff0000000000000 := by decide
  simp only [isNaN, Ieee.Format.read, hs, hb, hi]
  generalize c % 2 ^ 63 = r
  by_cases h1 : r < 2 ^ 52
  · rw [if_pos h1]; simp [Ieee.Datum.isNaN]; omega
  · rw [if_neg h1]
    by_cases h2 : r < 0x7ff0000000000000
    · rw [if_pos h2]; simp [Ieee.Datum.isNaN]; omega
    · rw [if_neg h2]
      by_cases h3 : r = 0x7ff0000000000000
      · rw [if_pos h3]; simp [Ieee.Datum.isNaN]; omega
      · rw [if_neg h3]; simp [Ieee.Datum.isNaN]; omega
theorem isNaN_xor (c : Nat) : isNaN (c ^^^ 2 ^ 63) = isNaN c := by rw [isNaN_low, isNaN_low, xor_sign_low]

theorem canon_neg {c a : Nat} (h : canon c = a) : canon (c ^^^ 2 ^ 63) = fneg a := by
  rcases canon_cases h with ⟨hc, rfl⟩ | ⟨hc, rfl⟩
  · rw [canon_of_nan (by rw [isNaN_xor]; exact hc), fneg, if_pos isNaN_nan64]
  · rw [canon_of_not (by rw [isNaN_xor]; exact hc), fneg, if_neg (by simp [hc])]

end Go.AM
/- An abstract machine: the operations of the program's functions over memory of blocks, without order, room and the bits of a NaN: what it answers the program's own run answers (proved later). No condition. -/
namespace Go.AM

/-! ### Memory -/
/-- Where an operand comes from. -/
inductive Opnd where
  | t (n : Nat)
  | c (v : Value)
  deriving Inhabited

inductive AOp where
  | mv (x : Opnd)
  | pick (c a b : Opnd)
  | nilck (x : Opnd)
  | bin (op : BinOp) (x y : Opnd)
  | eqb (neg : Bool) (x y : Opnd)
  | eqp (neg : Bool) (x y : Opnd)
  | eqi (d : Nat) (neg : Bool) (x y : Opnd)
  | eqs (neg : Bool) (n : Nat) (x y : Opnd)
  | un (op : UnOp) (x : Opnd)
  | ext (x : Opnd) (i : Nat)
  | fld (off : Nat) (n : Option Nat) (x : Opnd)
  | ixs (x i : Opnd)
  | ixa (len esz : Nat) (n : Option Nat) (x i : Opnd)
  | fa (off : Nat) (x : Opnd)
  | iaa (len esz : Nat) (x i : Opnd)
  | ias (esz : Nat) (x i : Opnd)
  | mk (zero : List Value) (ps : List (Nat × Nat × Opnd))
  | mkf (f : Nat) (cs : List Opnd)
  | mki (t : Nat) (x : Opnd)
  | ci (k : IntKind) (x : Opnd)
  | cf (x : Opnd)
  | sls (esz : Nat) (x : Opnd) (lo hi : Option Opnd)
  | slt (x : Opnd) (lo hi : Option Opnd)
  | sla (len esz : Nat) (x : Opnd) (lo hi : Option Opnd)
  | s2a (n : Nat) (x : Opnd)
  | len (x : Opnd)
  | lens (x : Opnd)
  | re (x : Opnd)
  | im (x : Opnd)
  | cx (x y : Opnd)
  | mn (x y : Opnd)
  | mx (x y : Opnd)
  -- reads
  | ld (n : Option Nat) (a : Opnd)
  | look (zero : Value) (m k : Opnd)
  | b2s (x : Opnd)
  -- new blocks
  | al (zero : List Value)
  | bx (n : Nat) (x : Opnd)
  | bs (esz len : Nat) (zero : List Value) (ps : List (Nat × Opnd))
  | ms (esz bytes : Nat) (zero : List Value) (l c : Opnd)
  | mm
  -- writes
  | st (n : Nat) (a x : Opnd)
  | app (esz bytes : Nat) (s x : Opnd)
  | apt (s x : Opnd)
  | copy (esz : Nat) (d s : Opnd)
  | clear (zero : List Value) (x : Opnd)
  | mup (m k x : Opnd)
  -- calls
  | call (f : Nat) (xs : List Opnd)
  | callv (f : Opnd) (xs : List Opnd)
  | stop
  deriving Inhabited

structure Ins where
  dst : Option Nat
  op : AOp
  guard : Option (Nat × Bool) := none
  deriving Inhabited

inductive Item where
  | run (i : Nat) (r : Nat) (x : Ins)
  | again (i : Nat) (x : Ins)
  | apart (i j : Nat) (x y : Ins)
  deriving Inhabited

inductive ACode where
  | skip
  | region (is : List Ins)
  | draw (dead : Nat) (is : List Item)
  | seq (a b : ACode)
  | cond (c : Opnd) (a b : ACode)
  | block (id : Nat) (a : ACode)
  | loop (live : List Nat) (a : ACode)
  | exit (id : Nat)
  | ret
  | rangeFunc (f : Opnd) (ps : List Nat) (as bd : ACode)
  deriving Inhabited

@[ext] structure Env where
  get : Nat → Option Value
def Env.upd (ρ : Env) (t : Nat) (v : Value) : Env := ⟨fun s => if s = t then some v else ρ.get s⟩
def look2 : List (Nat × Value) → Nat → Option Value
  | [], _ => none
  | (t, v) :: l, s => if s = t then some v else look2 l s
def Env.ofList (l : List (Nat × Value)) : Env := ⟨look2 l⟩
/-- The slot that holds the marks of ranges over functions. -/
def markSlot : Nat := 1000000
def Env.keep (ρ : Env) : List Nat → List (Nat × Value)
  | [] => []
  | s :: l => match ρ.get s with
    | some v => (s, v) :: ρ.keep l
    | none => ρ.keep l
def Env.mask (ρ : Env) (live : List Nat) : Env := Env.ofList (ρ.keep (markSlot :: live))

inductive ABlk where
  | cells (g e : Nat) (vs : List Value)
  | map (es : List (Int × Value))
  | loop (ρ : Env) (ps : List Nat) (as bd : ACode) (base : Nat)
  | busy (ρ : Env) (ps : List Nat) (as bd : ACode) (base : Nat)
  | defer
  | dead
  | gone

abbrev Heap := List ABlk

def ptr (id off g : Nat) : Value := .pointer (some ⟨id, off, some g⟩)
def slc (id off g len esz : Nat) : Value := .slice (some ⟨id, off, some g⟩) len esz
def undf : Value := .tuple #[]

def Heap.put (H : Heap) (r : Option Nat) (b : ABlk) : Option (Nat × Heap) :=
  match r with
  | none => some (H.length, H ++ [b])
  | some id => match H[id]? with
    | some .dead => some (id, H.set id b)
    | _ => none

/-- The cells of a live block. -/
def Heap.at (H : Heap) (id g : Nat) : Option (Nat × List Value) :=
  match H[id]? with
  | some (.cells g' e vs) => if g' = g then some (e, vs) else none
  | _ => none

/-! ### Operations on values alone -/
def intb (op : BinOp) (k : IntKind) (a b : Int) : Option Value :=
  match op with
  | .add => some (.int k (k.wrap (a + b)))
  | .sub => some (.int k (k.wrap (a - b)))
  | .mul => some (.int k (k.wrap (a * b)))
  | .quo => if b = 0 then none else some (.int k (k.wrap (a.tdiv b)))
  | .rem => if b = 0 then none else some (.int k (a.tmod b))
  | .and => some (.int k (k.wrap ((BitVec.ofInt k.bits a &&& BitVec.ofInt k.bits b).toNat)))
  | .or => some (.int k (k.wrap ((BitVec.ofInt k.bits a ||| BitVec.ofInt k.bits b).toNat)))
  | .eql => some (.bool (a == b))
  | .neq => some (.bool (a != b))
  | .lss => some (.bool (a < b))
  | .leq => some (.bool (a ≤ b))
  | .gtr => some (.bool (a > b))
  | .geq => some (.bool (a ≥ b))
  | _ => none

def feq (a b : Nat) : Bool := Ieee.double.order a b == some .eq
def fltb (op : BinOp) (a b : Nat) : Option Value :=
  match op with
  | .add | .sub | .mul | .quo => some (.float .f64 (fop op a b))
  | .eql => some (.bool (feq a b))
  | .neq => some (.bool (Ieee.double.order a b != some .eq))
  | .lss => some (.bool (Ieee.double.order a b == some .lt))
  | .leq => some (.bool (Ieee.double.order a b == some .lt || Ieee.double.order a b == some .eq))
  | .gtr => some (.bool (Ieee.double.order a b == some .gt))
  | .geq => some (.bool (Ieee.double.order a b == some .gt || Ieee.double.order a b == some .eq))
  | _ => none
def cpxb (op : BinOp) (a b c d : Nat) : Option Value :=
  match op with
  | .add => some (.complex .f64 (fop .add a c) (fop .add b d))
  | .sub => some (.complex .f64 (fop .sub a c) (fop .sub b d))
  | .eql => some (.bool (feq a c && feq b d))
  | .neq => some (.bool !(feq a c && feq b d))
  | _ => none
def strb (op : BinOp) (x y : ByteArray) : Option Value :=
  match op with
  | .add => if x.size + y.size ≤ 2 ^ 47 then some (.string (x ++ y)) else none
  | .eql => some (.bool (x.toList == y.toList))
  | .neq => some (.bool !(x.toList == y.toList))
  | _ => none
def binv (op : BinOp) (x y : Value) : Option Value :=
  match x, y with
  | .int k a, .int k' b =>
    match op with
    | .shr => if b < 0 then none else some (.int k (a.fdiv (2 ^ (min b.toNat k.bits))))
    | .shl => if b < 0 then none else some (.int k (k.wrap (a * 2 ^ (min b.toNat k.bits))))
    | _ => if k = k' then intb op k a b else none
  | .float .f64 a, .float .f64 b => fltb op a b
  | .complex .f64 a b, .complex .f64 c d => cpxb op a b c d
  | .string a, .string b => strb op a b
  | _, _ => none
/-- '==' of bools, of pointers and of interface values (pointers in them): gl blocks are surely apart. -/
def Heap.lives (H : Heap) (a : Addr) : Bool := match a.spot with
  | some g => (H.at a.block g).isSome
  | none => false
def eqp (gl : Nat) (H : Heap) (a b : Addr) : Option Bool :=
  if a.block < gl ∧ b.block < gl ∧ H.lives a = true ∧ H.lives b = true then
    if a.block = b.block then (if a.off = b.off then some true else none) else (if a.off = 0 ∧ b.off = 0 then some false else none)
  else none
def isC : Opnd → Bool
  | .c _ => true
  | _ => false
def eqPtr (gl : Nat) (H : Heap) : Value → Value → Option Bool
  | .pointer none, .pointer b => some b.isNone
  | .pointer (some _), .pointer none => some false
  | .pointer (some a), .pointer (some b) => eqp gl H a b
  | _, _ => none
def eqIf (gl : Nat) (H : Heap) (d : Nat) (c : Bool) : Value → Value → Option Bool
  | .nilIface, .iface .. => some false
  | .iface .., .nilIface => some false
  | .nilIface, .nilIface => if c then some true else none
  | .iface t (.pointer (some a)), .iface t' (.pointer (some b)) => if t = d ∧ t' = d then eqp gl H a b else none
  | _, _ => none
def eqInts : List Value → List Value → Option Bool
  | [], [] => some true
  | .int .i64 a :: x, .int .i64 b :: y => if a == b then eqInts x y else some false
  | _, _ => none
def unv (op : UnOp) (x : Value) : Option Value :=
  match op, x with
  | .neg, .int k n => some (.int k (k.wrap (0 - n)))
  | .neg, .float .f64 b => some (.float .f64 (fneg b))
  | .not, .bool b => some (.bool !b)
  | _, _ => none
def part (cs : List Value) (off : Nat) (n : Option Nat) : Option Value :=
  match n with
  | none => cs[off]?
  | some n => if off + n ≤ cs.length then some (.agg ((cs.drop off).take n).toArray) else none
def Value.list (v : Value) : List Value := v.cells.toList
def setAll (vs : List Value) (off : Nat) : List Value → List Value
  | [] => vs
  | x :: r => setAll (vs.set off x) (off + 1) r
def ev (ρ : Env) : Opnd → Option Value
  | .t n => ρ.get n
  | .c v => some v
def evs (ρ : Env) : List Opnd → Option (List Value)
  | [] => some []
  | x :: r => match ev ρ x, evs ρ r with
    | some v, some l => some (v :: l)
    | _, _ => none
def asI (v : Option Value) : Option Int := match v with | some (.int _ n) => some n | _ => none
def oneCell (v : Value) : Bool := match v with | .agg _ | .tuple _ => false | _ => true
def fillAt (cs : List Value) (ps : List (Nat × Nat × Value)) : Option (List Value) :=
  match ps with
  | [] => some cs
  | (off, n, v) :: r => if (Value.list v).length = n ∧ (Value.list v).all oneCell ∧ off + n ≤ cs.length then fillAt (setAll cs off (Value.list v)) r else none
def evps (ρ : Env) : List (Nat × Nat × Opnd) → Option (List (Nat × Nat × Value))
  | [] => some []
  | (o, n, x) :: r => match ev ρ x, evps ρ r with
    | some v, some l => some ((o, n, v) :: l)
    | _, _ => none
def evqs (ρ : Env) (esz : Nat) : List (Nat × Opnd) → Option (List (Nat × Nat × Value))
  | [] => some []
  | (i, x) :: r => match ev ρ x, evqs ρ esz r with
    | some v, some l => some ((i * esz, esz, v) :: l)
    | _, _ => none
def reps (zero : List Value) : Nat → List Value
  | 0 => []
  | n + 1 => zero ++ reps zero n
/-- The bounds of a cut: lo, hi out of len; hi is len where none is told. -/
def cut (len : Nat) (lo hi : Option (Option Value)) : Option (Nat × Nat) :=
  match (match hi with
    | none => some len
    | some v => match asI v with
      | some i => if 0 ≤ i ∧ i ≤ len then some i.toNat else none
      | none => none) with
  | none => none
  | some h => match (match lo with
    | none => some 0
    | some v => match asI v with
      | some i => if 0 ≤ i ∧ i ≤ h then some i.toNat else none
      | none => none) with
    | none => none
    | some l => some (l, h)
def bytesOf : List Value → Option (List UInt8)
  | [] => some []
  | .int .u8 n :: r => match bytesOf r with
    | some l => some (UInt8.ofNat n.toNat :: l)
    | none => none
  | _ :: _ => none

/-- What an operation that neither writes nor calls nor makes memory comes to. -/
def AOp.val (gl : Nat) (ρ : Env) (H : Heap) : AOp → Option Value
  | .mv x => ev ρ x
  | .pick c a b => match ev ρ c with
    | some (.bool true) => ev ρ a
    | some (.bool false) => ev ρ b
    | _ => none
  | .nilck x => match ev ρ x with
    | some (.pointer (some a)) => some (.pointer (some a))
    | _ => none
  | .bin op x y => match ev ρ x, ev ρ y with
    | some a, some b => binv op a b
    | _, _ => none
  | .eqb neg x y => match ev ρ x, ev ρ y with
    | some (.bool a), some (.bool b) => some (.bool (if neg then !(a == b) else a == b))
    | _, _ => none
  | .eqp neg x y => match ev ρ x, ev ρ y with
    | some a, some b => match eqPtr gl H a b with
      | some r => some (.bool (if neg then !r else r))
      | none => none
    | _, _ => none
  | .eqi d neg x y => match ev ρ x, ev ρ y with
    | some a, some b => match eqIf gl H d (isC x || isC y) a b with
      | some r => some (.bool (if neg then !r else r))
      | none => none
    | _, _ => none
  | .eqs neg n x y => match ev ρ x, ev ρ y with
    | some (.agg a), some (.agg b) => if a.size = n ∧ b.size = n then (match eqInts a.toList b.toList with
      | some r => some (.bool (if neg then !r else r))
      | none => none) else none
    | _, _ => none
  | .un op x => match ev ρ x with
    | some a => unv op a
    | none => none
  | .ext x i => match ev ρ x with
    | some (.tuple vs) => vs[i]?
    | _ => none
  | .fld off n x => match ev ρ x with
    | some (.agg cs) => part cs.toList off n
    | _ => none
  | .ixs x i => match ev ρ x, asI (ev ρ i) with
    | some (.string s), some i => if 0 ≤ i then (match s.data.toList[i.toNat]? with
      | some b => some (.int .u8 b.toNat)
      | none => none) else none
    | _, _ => none
  | .ixa m esz n x i => match ev ρ x, asI (ev ρ i) with
    | some (.agg cs), some i => if 0 ≤ i ∧ i < m then part cs.toList (i.toNat * esz) n else none
    | _, _ => none
  | .fa off x => match ev ρ x with
    | some (.pointer (some ⟨id, o, some g⟩)) => some (ptr id (o + off) g)
    | _ => none
  | .iaa m esz x i => match ev ρ x, asI (ev ρ i) with
    | some (.pointer (some ⟨id, o, some g⟩)), some i => if 0 ≤ i ∧ i < m then some (ptr id (o + i.toNat * esz) g) else none
    | _, _ => none
  | .ias esz x i => match ev ρ x, asI (ev ρ i) with
    | some (.slice (some ⟨id, o, some g⟩) m _), some i => if 0 ≤ i ∧ i < m then some (ptr id (o + i.toNat * esz) g) else none
    | _, _ => none
  | .mk zero ps => match evps ρ ps with
    | some ps => match fillAt zero ps with
      | some cs => some (.agg cs.toArray)
      | none => none
    | none => none
  | .mkf f cs => match evs ρ cs with
    | some vs => some (.func (.func f) #[] vs.toArray)
    | none => none
  | .mki t x => match ev ρ x with
    | some v => some (.iface t v)
    | none => none
  | .ci k x => match ev ρ x with
    | some (.int _ n) => some (.int k (k.wrap n))
    | _ => none
  | .cf x => match ev ρ x with
    | some (.int _ n) => some (.float .f64 (canon (FloatKind.f64.nearest n)))
    | _ => none
  | .sls esz x lo hi => match ev ρ x with
    | some (.slice a m x) => match cut m (lo.map (ev ρ)) (hi.map (ev ρ)) with
      | some (l, h) => match a with
        | some ⟨id, o, some g⟩ => if x = esz ∨ x = 0 then some (slc id (o + l * esz) g (h - l) x) else none
        | none => some (.slice none 0 0)
        | _ => none
      | none => none
    | _ => none
  | .slt x lo hi => match ev ρ x with
    | some (.string s) => match cut s.size (lo.map (ev ρ)) (hi.map (ev ρ)) with
      | some (l, h) => some (.string (s.extract l h))
      | none => none
    | _ => none
  | .sla m esz x lo hi => match ev ρ x with
    | some (.pointer (some ⟨id, o, some g⟩)) => match cut m (lo.map (ev ρ)) (hi.map (ev ρ)) with
      | some (l, h) => some (slc id (o + l * esz) g (h - l) 0)
      | none => none
    | _ => none
  | .s2a n x => match ev ρ x with
    | some (.slice (some a) m _) => if n ≤ m then some (.pointer (some a)) else none
    | _ => none
  | .len x => match ev ρ x with
    | some (.slice _ n _) => some (.int .i64 n)
    | _ => none
  | .lens x => match ev ρ x with
    | some (.string s) => some (.int .i64 s.size)
    | _ => none
  | .re x => match ev ρ x with
    | some (.complex k a _) => some (.float k a)
    | _ => none
  | .im x => match ev ρ x with
    | some (.complex k _ b) => some (.float k b)
    | _ => none
  | .cx x y => match ev ρ x, ev ρ y with
    | some (.float .f64 a), some (.float .f64 b) => some (.complex .f64 a b)
    | _, _ => none
  | .mn x y => match ev ρ x, ev ρ y with
    | some (.int k a), some (.int _ b) => some (.int k (if b < a then b else a))
    | _, _ => none
  | .mx x y => match ev ρ x, ev ρ y with
    | some (.int k a), some (.int _ b) => some (.int k (if b > a then b else a))
    | _, _ => none
  | .ld n a => match ev ρ a with
    | some (.pointer (some ⟨id, o, some g⟩)) => match H.at id g with
      | some (_, vs) => part vs o n
      | none => none
    | _ => none
  | .look zero m k => match ev ρ m, ev ρ k with
    | some (.map (some id)), some (.int .i64 k) => match H[id]? with
      | some (.map es) => match es.lookup k with
        | some v => some (.tuple #[v, .bool true])
        | none => some (.tuple #[zero, .bool false])
      | _ => none
    | _, _ => none
  | .b2s x => match ev ρ x with
    | some (.slice none _ _) => some (.string .empty)
    | some (.slice (some ⟨id, o, some g⟩) m _) => match H.at id g with
      | some (_, vs) => if o + m ≤ vs.length then (match bytesOf ((vs.drop o).take m) with
        | some l => some (.string ⟨l.toArray⟩)
        | none => none) else none
      | none => none
    | _ => none
  | _ => none

/-- What an operation that makes a new block comes to: its value, as a function of the block's number, and the block. -/
def AOp.mkBlk (ρ : Env) : AOp → Option ((Nat → Value) × ABlk)
  | .al zero => some (fun id => ptr id 0 0, .cells 0 0 zero)
  | .bx n x => match ev ρ x with
    | some v => if (Value.list v).length = n ∧ (Value.list v).all oneCell then some (fun id => ptr id 0 0, .cells 0 0 (Value.list v)) else none
    | none => none
  | .bs esz m zero ps => match evqs ρ esz ps with
    | some ps => match fillAt (reps zero m) ps with
      | some cs => some (fun id => slc id 0 0 m esz, .cells 0 esz cs)
      | none => none
    | none => none
  | .ms esz bytes zero l c => match asI (ev ρ l), asI (ev ρ c) with
    | some l, some c => if 0 ≤ l ∧ l ≤ c ∧ c * bytes ≤ 2 ^ 47 ∧ c ≤ 2 ^ 47 then some (fun id => slc id 0 0 l.toNat esz, .cells 0 esz (reps zero l.toNat)) else none
    | _, _ => none
  | .mm => some (fun id => .map (some id), .map [])
  | _ => none

/-- The cells that an append or a copy takes: n elements of a slice. -/
def Heap.grab (H : Heap) (esz : Nat) (x : Value) (n : Nat) : Option (List Value) :=
  match x with
  | .slice none _ _ => if n = 0 then some [] else none
  | .slice (some ⟨id, o, some g⟩) _ _ => match H.at id g with
    | some (_, vs) => if o + n * esz ≤ vs.length ∧ ((vs.drop o).take (n * esz)).all oneCell then some ((vs.drop o).take (n * esz)) else none
    | none => none
  | _ => none

def appd (base : Nat) (H : Heap) (esz bytes : Nat) (s : Value) (m : Nat) (new : List Value) : Option (Value × Heap) :=
  match s with
  | .slice none 0 _ => if m * bytes ≤ 2 ^ 47 ∧ m ≤ 2 ^ 47 then some (slc H.length 0 0 m esz, H ++ [.cells 0 esz new]) else none
  | .slice (some ⟨id, o, some g⟩) n x =>
    match H.at id g with
    | some (_, vs) => if base ≤ id ∧ x = esz ∧ x ≠ 0 ∧ o + n * esz ≤ vs.length ∧ (n + m) * bytes ≤ 2 ^ 47 ∧ n + m ≤ 2 ^ 47 then
        some (slc id 0 (g + 1) (n + m) esz, H.set id (.cells (g + 1) esz ((vs.drop o).take (n * esz) ++ new)))
      else none
    | none => none
  | _ => none

/-- What an operation that writes comes to. -/
def AOp.wr (base : Nat) (ρ : Env) (H : Heap) : AOp → Option (Value × Heap)
  | .st n a x => match ev ρ a, ev ρ x with
    | some (.pointer (some ⟨id, o, some g⟩)), some v => match H.at id g with
      | some (e, vs) => if base ≤ id ∧ (Value.list v).length = n ∧ (Value.list v).all oneCell ∧ o + n ≤ vs.length then some (undf, H.set id (.cells g e (setAll vs o (Value.list v)))) else none
      | none => none
    | _, _ => none
  | .app esz bytes s x => match ev ρ s, ev ρ x with
    | some s, some x => match x with
      | .slice _ m _ => if m = 0 then (match s with | .slice .. => some (s, H) | _ => none) else match H.grab esz x m with
        | some new => appd base H esz bytes s m new
        | none => none
      | _ => none
    | _, _ => none
  | .apt s x => match ev ρ s, ev ρ x with
    | some s, some (.string b) => if b.size = 0 then (match s with | .slice .. => some (s, H) | _ => none) else appd base H 1 1 s b.size (b.data.toList.map fun c => .int .u8 c.toNat)
    | _, _ => none
  | .copy esz d s => match ev ρ d, ev ρ s with
    | some (.slice (some ⟨id, o, some g⟩) n _), some (.slice sa m sc) => match H.grab esz (.slice sa m sc) (min m n), H.at id g with
      | some new, some (e, vs) => if base ≤ id ∧ o + n * esz ≤ vs.length then some (.int .i64 (min m n : Nat), H.set id (.cells g e (setAll vs o new))) else none
      | _, _ => none
    | some (.slice none _ _), some (.slice ..) => some (.int .i64 0, H)
    | _, _ => none
  | .clear zero x => match ev ρ x with
    | some (.slice none _ _) => some (undf, H)
    | some (.slice (some ⟨id, o, some g⟩) n _) => match H.at id g with
      | some (e, vs) => if base ≤ id ∧ o + n * zero.length ≤ vs.length then some (undf, H.set id (.cells g e (setAll vs o (reps zero n)))) else none
      | none => none
    | _ => none
  | .mup m k x => match ev ρ m, ev ρ k, ev ρ x with
    | some (.map (some id)), some (.int .i64 k), some v => match H[id]? with
      | some (.map es) => if base ≤ id then some (undf, H.set id (.map ((k, v) :: es.filter (fun e => e.1 != k)))) else none
      | _ => none
    | _, _, _ => none
  | _ => none

mutual
def vbeq : Value → Value → Bool
  | .bool a, .bool b => a == b
  | .int k a, .int k' b => k == k' && a == b
  | .float k a, .float k' b => k == k' && a == b
  | .complex k a b, .complex k' c d => k == k' && a == c && b == d
  | .string a, .string b => decide (a = b)
  | .pointer a, .pointer b => a == b
  | .slice a n c, .slice b n' c' => a == b && n == n' && c == c'
  | .map a, .map b => a == b
  | .chan a, .chan b => a == b
  | .func f xs ys, .func g zs ws => f == g && abeq xs zs && abeq ys ws
  | .nilFunc, .nilFunc => true
  | .iface t v, .iface t' w => t == t' && vbeq v w
  | .nilIface, .nilIface => true
  | .agg xs, .agg ys => abeq xs ys
  | .tuple xs, .tuple ys => abeq xs ys
  | _, _ => false
def abeq : Array Value → Array Value → Bool
  | ⟨xs⟩, ⟨ys⟩ => lbeq xs ys
def lbeq : List Value → List Value → Bool
  | [], [] => true
  | x :: xs, y :: ys => vbeq x y && lbeq xs ys
  | _, _ => false
end

/-! ### Functions -/
inductive Res where
  | t (n : Nat)
  | cell (a : Nat) (n : Option Nat)
  deriving Inhabited
inductive Mode where
  | keep | drop | one
  deriving DecidableEq, Inhabited
inductive AFun where
  | code (body : ACode) (res : List Res) (mode : Mode)
  | fromBits | toBits | canonBits
  deriving Inhabited

inductive AX where
  | normal | exit (id : Nat) | ret
  deriving DecidableEq, Inhabited

/-- No pointer of a plain value leads to a block from L on (of an interface value, a struct, a tuple: in its parts). -/
def noNew1 (L : Nat) : Value → Bool
  | .pointer (some a) => a.block < L
  | .slice (some a) _ _ => a.block < L
  | .pointer none | .slice none _ _ | .bool _ | .int .. | .float .. | .complex .. | .string _ | .nilIface | .nilFunc => true
  | _ => false
def noNew2 (L : Nat) : Value → Bool
  | .iface _ v => noNew1 L v
  | v => noNew1 L v
def noNew (L : Nat) : Value → Bool
  | .agg vs => vs.toList.all (noNew2 L)
  | .tuple vs => vs.toList.all (noNew2 L)
  | v => noNew2 L v

/-- A function's answer, as its mode says: all memory kept; the new memory let go; all but one new slice of plain elements let go. -/
def settle (m : Mode) (L : Nat) (v : Value) (H : Heap) : Option (Value × Heap) :=
  match m with
  | .keep => some (v, H)
  | .drop => if noNew L v then some (v, List.take L H) else none
  | .one =>
    if noNew L v then some (v, List.take L H) else
    let fix (s : Value) (k : Value → Value) : Option (Value × Heap) :=
      match s with
      | .slice (some ⟨id, o, some g⟩) n c => match H.at id g with
        | some (e, vs) => if vs.all (noNew1 L) ∧ L ≤ id then some (k (.slice (some ⟨L, o, some g⟩) n c), List.take L H ++ [.cells g e vs]) else none
        | none => none
      | _ => none
    match v with
    | .tuple vs => match vs.toList with
      | [s, r] => if noNew2 L r then fix s (fun s => .tuple #[s, r]) else none
      | _ => none
    | s => fix s id

def resOf (ρ : Env) (H : Heap) : Res → Option Value
  | .t n => ρ.get n
  | .cell a n => match ρ.get a with
    | some (.pointer (some ⟨id, o, some g⟩)) => match H.at id g with
      | some (_, vs) => part vs o n
      | none => none
    | _ => none
def resAll (ρ : Env) (H : Heap) : List Res → Option (List Value)
  | [] => some []
  | r :: l => match resOf ρ H r, resAll ρ H l with
    | some v, some vs => some (v :: vs)
    | _, _ => none
def resV : List Value → Value
  | [v] => v
  | vs => .tuple vs.toArray

def marksOf (ρ : Env) : List Nat :=
  match ρ.get markSlot with
  | some (.tuple vs) => vs.toList.filterMap fun | .map (some d) => some d | _ => none
  | _ => []
def endMarks (base : Nat) (H : Heap) : List Nat → Option Heap
  | [] => some H
  | d :: l => match H[d]? with
    | some .defer => if base ≤ d then endMarks base (H.set d .gone) l else none
    | _ => none

abbrev Out := AX × Env × Heap
abbrev Run := Nat → ACode → Env → Heap → Option Out

section
variable (F : Nat → Option AFun) (gl : Nat)

def args0 : Nat → List Value → List (Nat × Value)
  | _, [] => []
  | i, v :: l => (i, v) :: args0 (i + 1) l

def modeBase (m : Mode) (base L : Nat) : Nat := match m with | .keep => base | _ => L

/-- A call of a function. -/
def callF (self : Run) (base : Nat) (f : Nat) (vs : List Value) (H : Heap) : Option (Value × Heap) :=
  match F f with
  | some (.code body res mode) => if markSlot < vs.length then none else
    match self (modeBase mode base H.length) body (Env.ofList (args0 0 vs)) H with
    | some (x, ρ, H') => if x = .normal ∨ x = .ret then
        match endMarks (modeBase mode base H.length) H' (marksOf ρ) with
        | some H'' => match resAll ρ H'' res with
          | some l => settle mode H.length (resV l) H''
          | none => none
        | none => none
      else none
    | none => none
  | some .fromBits => match vs with
    | [.int .u64 n] => some (.float .f64 (canon n.toNat), H)
    | _ => none
  | some .toBits => match vs with
    | [.float .f64 b] => if isNaN b then none else some (.int .u64 b, H)
    | _ => none
  | some .canonBits => match vs with
    | [.float .f64 b] => some (.int .u64 b, H)
    | _ => none
  | none => none

/-- A call of yield: a round of a range over a function. -/
def yieldF (self : Run) (l : Nat) (vs : List Value) (H : Heap) : Option (Value × Heap) :=
  match H[l]? with
  | some (.loop ρ ps as bd base) => if vs.length = ps.length then
      match self base as ((ps.zip vs).foldl (fun ρ (t, v) => ρ.upd t v) ρ) H with
      | some (.normal, ρ', H') => match H'[l]? with
        | some (.loop ρ2 ps2 as2 bd2 base2) => match self base bd ρ' (H'.set l (.busy ρ2 ps2 as2 bd2 base2)) with
          | some (.normal, _, H'') => match H''[l]? with
            | some (.busy ρ3 ps3 as3 bd3 base3) => some (.bool true, H''.set l (.loop ρ3 ps3 as3 bd3 base3))
            | _ => none
          | _ => none
        | _ => none
      | _ => none
    else none
  | _ => none

/-- A loop whose rounds may write from base on. -/
def loopOk (H : Heap) (l base : Nat) : Bool := match H[l]? with
  | some (.loop _ _ _ _ b) => decide (base ≤ l) && decide (base ≤ b) && decide (b ≤ l)
  | _ => false

def callV (self : Run) (base : Nat) (f : Value) (vs : List Value) (H : Heap) : Option (Value × Heap) :=
  match f with
  | .func (.func f) first caps => callF F self base f (first.toList ++ vs ++ caps.toList) H
  | .func (.yield l) _ _ => if loopOk H l base then yieldF self l vs H else none
  | _ => none

/-- One operation, the new block at r (none: behind the others). -/
def opS (self : Run) (base : Nat) (r : Option Nat) (ρ : Env) (H : Heap) (o : AOp) : Option (Value × Heap) :=
  match o with
  | .call f xs => match evs ρ xs with
    | some vs => callF F self base f vs H
    | none => none
  | .callv f xs => match ev ρ f, evs ρ xs with
    | some f, some vs => callV F self base f vs H
    | _, _ => none
  | .al .. | .bx .. | .bs .. | .ms .. | .mm => match o.mkBlk ρ with
    | some (k, b) => match H.put r b with
      | some (id, H') => some (k id, H')
      | none => none
    | none => none
  | .st .. | .app .. | .apt .. | .copy .. | .clear .. | .mup .. => o.wr base ρ H
  | .stop => none
  | _ => match o.val gl ρ H with
    | some v => some (v, H)
    | none => none

def wantedS (ρ : Env) (g : Option (Nat × Bool)) : Option Bool :=
  match g with
  | none => some true
  | some (s, want) => match ρ.get s with
    | some (.bool b) => some (b == want)
    | some (.tuple _) => none
    | some _ => some false
    | none => none

def updD (ρ : Env) (d : Option Nat) (v : Value) : Env := match d with | some t => ρ.upd t v | none => ρ

def insS (self : Run) (base : Nat) (r : Option Nat) (x : Ins) (ρ : Env) (H : Heap) : Option (Env × Heap) :=
  match wantedS ρ x.guard with
  | some true => match opS F gl self base r ρ H x.op with
    | some (v, H') => some (updD ρ x.dst v, H')
    | none => none
  | some false => some (updD ρ x.dst undf, H)
  | none => none

def opsS (self : Run) (base : Nat) : List Ins → Env → Heap → Option (Env × Heap)
  | [], ρ, H => some (ρ, H)
  | x :: l, ρ, H => match insS F gl self base none x ρ H with
    | some (ρ', H') => opsS self base l ρ' H'
    | none => none

def AOp.isA : AOp → Bool
  | .al .. | .bx .. | .bs .. | .ms .. | .mm => true
  | _ => false

def itemS (self : Run) (base r0 : Nat) (it : Item) (ρ : Env) (H : Heap) : Option (Env × Heap) :=
  match it with
  | .run _ r x => insS F gl self base (if x.op.isA then some (r0 + r) else none) x ρ H
  | .again _ x => match wantedS ρ x.guard with
    | some true => match x.op.val gl ρ H, x.dst with
      | some v, some d => match ρ.get d with
        | some v' => if vbeq v v' then some (ρ, H) else none
        | none => none
      | _, _ => none
    | some false => some (ρ, H)
    | none => none
  | .apart _ _ x y => match x.op, y.op with
    | .st _ a _, .st _ b _ => match ev ρ a, ev ρ b with
      | some (.pointer (some a)), some (.pointer (some b)) => if a.block ≠ b.block then some (ρ, H) else none
      | _, _ => none
    | _, _ => none

def itemsS (self : Run) (base r0 : Nat) : List Item → Env → Heap → Option (Env × Heap)
  | [], ρ, H => some (ρ, H)
  | x :: l, ρ, H => match itemS F gl self base r0 x ρ H with
    | some (ρ', H') => itemsS self base r0 l ρ' H'
    | none => none

def pushMark (ρ : Env) (d : Nat) : Env :=
  ρ.upd markSlot (.tuple (.map (some d) :: ((marksOf ρ).map fun d => Value.map (some d))).toArray)

def execC (self : Run) (base : Nat) : ACode → Env → Heap → Option Out
  | .skip, ρ, H => some (.normal, ρ, H)
  | .region is, ρ, H => match opsS F gl self base is ρ H with
    | some (ρ', H') => some (.normal, ρ', H')
    | none => none
  | .draw dead is, ρ, H => match itemsS F gl self base H.length is ρ (H ++ List.replicate dead .dead) with
    | some (ρ', H') => some (.normal, ρ', H')
    | none => none
  | .seq a b, ρ, H => match execC self base a ρ H with
    | some (.normal, ρ', H') => execC self base b ρ' H'
    | r => r
  | .cond c a b, ρ, H => match ev ρ c with
    | some (.bool true) => execC self base a ρ H
    | some (.bool false) => execC self base b ρ H
    | _ => none
  | .block id a, ρ, H => match execC self base a ρ H with
    | some (.exit id', ρ', H') => if id' = id then some (.normal, ρ', H') else some (.exit id', ρ', H')
    | r => r
  | .loop live a, ρ, H => match execC self base a (ρ.mask live) H with
    | some (.normal, ρ', H') => self base (.loop live a) ρ' H'
    | r => r
  | .exit id, ρ, H => some (.exit id, ρ, H)
  | .ret, ρ, H => some (.ret, ρ, H)
  | .rangeFunc f ps as bd, ρ, H => match ev ρ f with
    | some (.func (.func g) first caps) =>
      match callF F self base g (first.toList ++ [.func (.yield (H.length + 1)) #[] #[]] ++ caps.toList) (H ++ [.defer, .loop ρ ps as bd base]) with
      | some (_, H') => match H'[H.length + 1]? with
        | some (.loop ..) => some (.normal, pushMark ρ H.length, H'.set (H.length + 1) .gone)
        | _ => none
      | none => none
    | _ => none

/-- The machine with so much fuel. -/
def run : Nat → Run
  | 0 => fun _ _ _ _ => none
  | n + 1 => execC F gl (run n)

end
end Go.AM
/- How the abstract machine's memory and values stand to the program's own. No condition. -/
namespace Go.AM
open Go.RowKit (Below)

/-- Where a block lies: its block, its first cell, how many cells that block has. -/
structure Pl where
  b : Nat
  o : Nat
  n : Nat
abbrev Mu := Nat → Option Pl

/-- A value may hold a pointer of generation g to this block. -/
def okp (H : Heap) (id g : Nat) : Prop :=
  match H[id]? with
  | some (.cells g0 _ _) => g ≤ g0
  | some .dead => False
  | some _ => True
  | none => False

def isLoop : Option ABlk → Prop
  | some (.loop ..) | some (.busy ..) => True
  | _ => False

inductive VR (μ : Mu) (H : Heap) : Value → Value → Prop
  | undf (v : Value) : VR μ H (.tuple #[]) v
  | bool (b : Bool) : VR μ H (.bool b) (.bool b)
  | int (k : IntKind) (n : Int) : VR μ H (.int k n) (.int k n)
  | float {a c : Nat} (h : canon c = a) : VR μ H (.float .f64 a) (.float .f64 c)
  | complex {a b c d : Nat} (h : canon c = a) (h' : canon d = b) : VR μ H (.complex .f64 a b) (.complex .f64 c d)
  | string (s : ByteArray) : VR μ H (.string s) (.string s)
  | nilPtr : VR μ H (.pointer none) (.pointer none)
  | ptr {id off g b o : Nat} (h : okp H id g) (h' : ∀ e vs, H.at id g = some (e, vs) → ∃ p, μ id = some p ∧ b = p.b ∧ o = p.o + off) :
      VR μ H (.pointer (some ⟨id, off, some g⟩)) (.pointer (some ⟨b, o, none⟩))
  | nilSlc : VR μ H (.slice none 0 0) (.slice none 0 0)
  | slc {id off g b o n c x : Nat} (h : okp H id g) (hn : n ≤ c) (h' : c ≠ 0 → ∀ e vs, H.at id g = some (e, vs) → ∃ p, μ id = some p ∧ b = p.b ∧ o = p.o + off ∧ (x ≠ 0 → o + c * x ≤ p.n)) :
      VR μ H (.slice (some ⟨id, off, some g⟩) n x) (.slice (some ⟨b, o, none⟩) n c)
  | nilMap : VR μ H (.map none) (.map none)
  | map {id b : Nat} (h : okp H id 0) (h' : ∀ es, H[id]? = some (.map es) → μ id = some ⟨b, 0, 0⟩) : VR μ H (.map (some id)) (.map (some b))
  | func (f : Nat) {xs ys zs ws : Array Value} (hx : xs.size = zs.size) (h : ∀ i, VR μ H (xs.getD i AM.undf) (zs.getD i AM.undf)) (hy : ys.size = ws.size) (h' : ∀ i, VR μ H (ys.getD i AM.undf) (ws.getD i AM.undf)) :
      VR μ H (.func (.func f) xs ys) (.func (.func f) zs ws)
  | yield {l b : Nat} (h : okp H l 0) (h' : isLoop H[l]? → μ l = some ⟨b, 0, 0⟩) : VR μ H (.func (.yield l) #[] #[]) (.func (.yield b) #[] #[])
  | nilFunc : VR μ H .nilFunc .nilFunc
  | nilIface : VR μ H .nilIface .nilIface
  | iface (t : Nat) {v c : Value} (h : VR μ H v c) : VR μ H (.iface t v) (.iface t c)
  | agg {xs ys : Array Value} (hs : xs.size = ys.size) (h : ∀ i, VR μ H (xs.getD i AM.undf) (ys.getD i AM.undf)) : VR μ H (.agg xs) (.agg ys)
  | tuple {xs ys : Array Value} (hs : xs.size = ys.size) (h : ∀ i, VR μ H (xs.getD i AM.undf) (ys.getD i AM.undf)) : VR μ H (.tuple xs) (.tuple ys)

/-- Lists of values. -/
inductive LR (μ : Mu) (H : Heap) : List Value → List Value → Prop
  | nil : LR μ H [] []
  | cons {x y : Value} {xs ys : List Value} (h : VR μ H x y) (t : LR μ H xs ys) : LR μ H (x :: xs) (y :: ys)

section
variable {μ : Mu} {H : Heap}
theorem LR.length {xs ys : List Value} (h : LR μ H xs ys) : xs.length = ys.length := by induction h <;> simp_all
theorem LR.getD {xs ys : List Value} (h : LR μ H xs ys) : ∀ i, VR μ H (xs.getD i undf) (ys.getD i undf) := by
  induction h with
  | nil => intro i; exact .undf _
  | cons h _ ih => intro i; cases i with
    | zero => exact h
    | succ i => simpa using ih i
theorem LR.of {xs : List Value} : ∀ {ys : List Value}, xs.length = ys.length → (∀ i, VR μ H (xs.getD i undf) (ys.getD i undf)) → LR μ H xs ys := by
  induction xs with
  | nil => intro ys h _; cases ys with
    | nil => exact .nil
    | cons => cases h
  | cons x xs ih => intro ys h h'; cases ys with
    | nil => cases h
    | cons y ys => exact .cons (by simpa using h' 0) (ih (by simpa using h) fun i => by simpa using h' (i + 1))
theorem LR.get? {xs ys : List Value} (h : LR μ H xs ys) {i : Nat} {x : Value} (hx : xs[i]? = some x) : ∃ y, ys[i]? = some y ∧ VR μ H x y := by
  induction h generalizing i with
  | nil => simp at hx
  | cons h _ ih => cases i with
    | zero => simp at hx; subst hx; exact ⟨_, rfl, h⟩
    | succ i => simpa using ih (by simpa using hx)
theorem LR.append {a b c d : List Value} (h : LR μ H a b) (h' : LR μ H c d) : LR μ H (a ++ c) (b ++ d) := by
  induction h with
  | nil => exact h'
  | cons h _ ih => exact .cons h ih
theorem LR.take {a b : List Value} (h : LR μ H a b) : ∀ n, LR μ H (a.take n) (b.take n) := by
  induction h with
  | nil => intro n; simpa using LR.nil
  | cons h _ ih => intro n; cases n with
    | zero => simpa using LR.nil
    | succ n => simpa using LR.cons h (ih n)
theorem LR.drop {a b : List Value} (h : LR μ H a b) : ∀ n, LR μ H (a.drop n) (b.drop n) := by
  induction h with
  | nil => intro n; simpa using LR.nil
  | cons h t ih => intro n; cases n with
    | zero => simpa using LR.cons h t
    | succ n => simpa using ih n
theorem LR.set {a b : List Value} (h : LR μ H a b) {x y : Value} (hv : VR μ H x y) : ∀ n, LR μ H (a.set n x) (b.set n y) := by
  induction h with
  | nil => intro n; simpa using LR.nil
  | cons h t ih => intro n; cases n with
    | zero => simpa using LR.cons hv t
    | succ n => simpa using LR.cons h (ih n)
theorem LR.setAll {x y : List Value} (hv : LR μ H x y) : ∀ {a b : List Value}, LR μ H a b → ∀ n, LR μ H (setAll a n x) (setAll b n y) := by
  induction hv with
  | nil => intro a b h n; exact h
  | cons h _ ih => intro a b h' n; exact ih (h'.set h n) (n + 1)
theorem getD_toList (xs : Array Value) (i : Nat) : xs.toList.getD i undf = xs.getD i undf := by
  cases xs; simp [Array.getD]; split <;> simp_all
theorem VR.of_agg {xs : Array Value} {c : Value} (h : VR μ H (.agg xs) c) : ∃ ys, c = .agg ys ∧ LR μ H xs.toList ys.toList := by
  cases h with
  | agg hs h => exact ⟨_, rfl, LR.of (by simpa using hs) fun i => by rw [getD_toList, getD_toList]; exact h i⟩
theorem VR.of_tuple {xs : Array Value} {c : Value} (h : VR μ H (.tuple xs) c) (hne : xs ≠ #[]) : ∃ ys, c = .tuple ys ∧ LR μ H xs.toList ys.toList := by
  cases h with
  | undf => exact absurd rfl hne
  | tuple hs h => exact ⟨_, rfl, LR.of (by simpa using hs) fun i => by rw [getD_toList, getD_toList]; exact h i⟩
theorem VR.mk_agg {xs ys : List Value} (h : LR μ H xs ys) : VR μ H (.agg xs.toArray) (.agg ys.toArray) :=
  .agg (by simpa using h.length) fun i => by rw [← getD_toList, ← getD_toList]; exact h.getD i
theorem VR.mk_tuple {xs ys : List Value} (h : LR μ H xs ys) : VR μ H (.tuple xs.toArray) (.tuple ys.toArray) :=
  .tuple (by simpa using h.length) fun i => by rw [← getD_toList, ← getD_toList]; exact h.getD i
theorem VR.mk_func (f : Nat) {xs ys zs ws : List Value} (h : LR μ H xs zs) (h' : LR μ H ys ws) : VR μ H (.func (.func f) xs.toArray ys.toArray) (.func (.func f) zs.toArray ws.toArray) :=
  .func f (by simpa using h.length) (fun i => by rw [← getD_toList, ← getD_toList]; exact h.getD i) (by simpa using h'.length) (fun i => by rw [← getD_toList, ← getD_toList]; exact h'.getD i)
theorem VR.of_func {f : Nat} {xs ys : Array Value} {c : Value} (h : VR μ H (.func (.func f) xs ys) c) : ∃ zs ws, c = .func (.func f) zs ws ∧ LR μ H xs.toList zs.toList ∧ LR μ H ys.toList ws.toList := by
  cases h with
  | func _ hx h hy h' => exact ⟨_, _, rfl, LR.of (by simpa using hx) fun i => by rw [getD_toList, getD_toList]; exact h i, LR.of (by simpa using hy) fun i => by rw [getD_toList, getD_toList]; exact h' i⟩
end

/-! ### Memory goes on -/
structure Ext (μ : Mu) (H : Heap) (μ' : Mu) (H' : Heap) : Prop where
  okp : ∀ id g, okp H id g → okp H' id g
  at_ : ∀ id g e vs, AM.okp H id g → H'.at id g = some (e, vs) → (∃ vs0, H.at id g = some (e, vs0)) ∧ μ' id = μ id
  map_ : ∀ id es, AM.okp H id 0 → H'[id]? = some (.map es) → (∃ es0, H[id]? = some (.map es0)) ∧ μ' id = μ id
  loop_ : ∀ id, AM.okp H id 0 → isLoop H'[id]? → isLoop H[id]? ∧ μ' id = μ id
  defer_ : ∀ id, AM.okp H id 0 → H'[id]? = some .defer → H[id]? = some .defer ∧ μ' id = μ id

theorem Ext.refl (μ : Mu) (H : Heap) : Ext μ H μ H := ⟨fun _ _ h => h, fun _ _ _ vs _ h => ⟨⟨vs, h⟩, rfl⟩, fun _ es _ h => ⟨⟨es, h⟩, rfl⟩, fun _ _ h => ⟨h, rfl⟩, fun _ _ h => ⟨h, rfl⟩⟩
theorem Ext.trans {μ μ1 μ2 : Mu} {H H1 H2 : Heap} (h : Ext μ H μ1 H1) (k : Ext μ1 H1 μ2 H2) : Ext μ H μ2 H2 :=
  ⟨fun id g e => k.okp id g (h.okp id g e),
   fun id g e vs o e2 => by
    obtain ⟨⟨v1, a1⟩, m1⟩ := k.at_ id g e vs (h.okp _ _ o) e2
    obtain ⟨a0, m0⟩ := h.at_ id g e v1 o a1
    exact ⟨a0, m1.trans m0⟩,
   fun id es o e2 => by
    obtain ⟨⟨v1, a1⟩, m1⟩ := k.map_ id es (h.okp _ _ o) e2
    obtain ⟨a0, m0⟩ := h.map_ id v1 o a1
    exact ⟨a0, m1.trans m0⟩,
   fun id o e2 => by
    obtain ⟨a1, m1⟩ := k.loop_ id (h.okp _ _ o) e2
    obtain ⟨a0, m0⟩ := h.loop_ id o a1
    exact ⟨a0, m1.trans m0⟩,
   fun id o e2 => by
    obtain ⟨a1, m1⟩ := k.defer_ id (h.okp _ _ o) e2
    obtain ⟨a0, m0⟩ := h.defer_ id o a1
    exact ⟨a0, m1.trans m0⟩⟩

theorem VR.ext {μ μ' : Mu} {H H' : Heap} (x : Ext μ H μ' H') {a c : Value} (h : VR μ H a c) : VR μ' H' a c := by
  induction h with
  | undf v => exact .undf v
  | bool b => exact .bool b
  | int k n => exact .int k n
  | float h => exact .float h
  | complex h h' => exact .complex h h'
  | string s => exact .string s
  | nilPtr => exact .nilPtr
  | ptr h h' =>
    exact .ptr (x.okp _ _ h) fun e vs ha => by
      obtain ⟨⟨v0, a0⟩, m⟩ := x.at_ _ _ e vs h ha
      rw [m]; exact h' e v0 a0
  | nilSlc => exact .nilSlc
  | slc h hn h' =>
    exact .slc (x.okp _ _ h) hn fun hc e vs ha => by
      obtain ⟨⟨v0, a0⟩, m⟩ := x.at_ _ _ e vs h ha
      rw [m]; exact h' hc e v0 a0
  | nilMap => exact .nilMap
  | map h h' =>
    exact .map (x.okp _ _ h) fun es ha => by
      obtain ⟨⟨v0, a0⟩, m⟩ := x.map_ _ es h ha
      rw [m]; exact h' v0 a0
  | func f hx _ hy _ ih ih' => exact .func f hx ih hy ih'
  | yield h h' =>
    exact .yield (x.okp _ _ h) fun ha => by
      obtain ⟨a0, m⟩ := x.loop_ _ h ha
      rw [m]; exact h' a0
  | nilFunc => exact .nilFunc
  | nilIface => exact .nilIface
  | iface t _ ih => exact .iface t ih
  | agg hs _ ih => exact .agg hs ih
  | tuple hs _ ih => exact .tuple hs ih
theorem LR.ext {μ μ' : Mu} {H H' : Heap} (x : Ext μ H μ' H') {a c : List Value} (h : LR μ H a c) : LR μ' H' a c := by
  induction h with
  | nil => exact .nil
  | cons h _ ih => exact .cons (h.ext x) ih

end Go.AM
/- The operations on values: each answers as the abstract machine's does. No condition. -/
namespace Go.AM
open Go.RowKit (Below)

/-! ### Does the abstract operation stand for the program's? -/
/-- A constant that holds no pointer, its floats with the one NaN. -/
def okV : Nat → Value → Bool
  | _, .bool _ | _, .int .. | _, .string _ | _, .pointer none | _, .map none | _, .nilFunc | _, .nilIface => true
  | _, .slice none n c => n == 0 && c == 0
  | _, .float .f64 b => canon b == b
  | _, .complex .f64 a b => canon a == a && canon b == b
  | _, .func (.func _) xs ys => xs.size == 0 && ys.size == 0
  | n + 1, .iface _ v => okV n v
  | n + 1, .agg vs => vs.toList.all (okV n)
  | n + 1, .tuple vs => vs.toList.all (okV n)
  | _, _ => false
def okO : Operand → Opnd → Bool
  | .tmp t, .t n => t == n && t != markSlot
  | .const v, .c w => vbeq v w && okV 4 v
  | .global g, .c (.pointer (some ⟨id, 0, some 0⟩)) => g == id && decide (g < 24)
  | .func f, .c (.func (.func f') xs ys) => f == f' && xs.size == 0 && ys.size == 0
  | _, _ => false
def okOs : List Operand → List Opnd → Bool
  | [], [] => true
  | x :: xs, y :: ys => okO x y && okOs xs ys
  | _, _ => false
def okOo : Option Operand → Option Opnd → Bool
  | none, none => true
  | some x, some y => okO x y
  | _, _ => false
def isAggT (P : Program) (t : TypeId) : Option Bool :=
  match P.underlying t with
  | some (.struct _) | some (.array _ _) => some true
  | some _ => some false
  | none => none
/-- A variable of type t is n cells (none: one cell, no struct and no array). -/
def okN (P : Program) (t : TypeId) (n : Option Nat) : Bool :=
  match n with
  | none => isAggT P t == some false
  | some k => isAggT P t == some true && P.cellsOf t == k
def okI (P : Program) (t : TypeId) : Bool := match P.underlying t with | some (.int _) => true | _ => false
def okS (P : Program) (t : TypeId) (esz : Nat) : Bool := match P.underlying t with | some (.slice e) => P.cellsOf e == esz && (P.underlying e).isSome | _ => false
def okA (P : Program) (t : TypeId) (m esz : Nat) : Bool := match P.underlying t with | some (.array n e) => n == m && P.cellsOf e == esz && (P.underlying e).isSome | _ => false
def okStr (P : Program) (t : TypeId) : Bool := match P.underlying t with | some .string => true | _ => false
def okZ (P : Program) (t : TypeId) (zero : List Value) : Bool :=
  match (P.info? t).bind (·.zero) with
  | some z => lbeq z.cells.toList zero && zero.all (okV 2)
  | none => false
def okPs (P : Program) (fs : Array Field) : List (Nat × Operand) → List (Nat × Nat × Opnd) → Bool
  | [], [] => true
  | (i, x) :: xs, (off, n, y) :: ys => okO x y && (match fs[i]? with | some f => f.offset == off && P.cellsOf f.type == n | none => false) && okPs P fs xs ys
  | _, _ => false
def okQs (esz : Nat) : List (Nat × Operand) → List (Nat × Nat × Opnd) → Bool
  | [], [] => true
  | (i, x) :: xs, (off, n, y) :: ys => okO x y && off == i * esz && n == esz && okQs esz xs ys
  | _, _ => false
def okRs : List (Nat × Operand) → List (Nat × Opnd) → Bool
  | [], [] => true
  | (i, x) :: xs, (j, y) :: ys => i == j && okO x y && okRs xs ys
  | _, _ => false

section
variable (P : Program) (B0 : Nat) (w0 : World) (gl b0 : Nat)

def alive (H : Heap) (id : Nat) : Prop :=
  match H[id]? with
  | some .dead | some .gone | none => False
  | _ => True

/-- A map's entries, by keys. -/
def MapR (μ : Mu) (H : Heap) (es : List (Int × Value)) (ces : List MapEntry) : Prop :=
  (∀ e ∈ ces, ∃ k, e.key = .int .i64 k) ∧ ∀ k : Int, match es.lookup k with
    | some v => ∃ (i : Nat) (e : MapEntry), ces[i]? = some e ∧ e.key = .int .i64 k ∧ VR μ H v e.val ∧ ∀ (j : Nat) (e' : MapEntry), j < i → ces[j]? = some e' → e'.key ≠ .int .i64 k
    | none => ∀ e ∈ ces, e.key ≠ .int .i64 k

/-- The temporaries of a frame. -/
def TR (μ : Mu) (H : Heap) (ρ : Env) (tmps : Array Value) : Prop := ∀ t v, ρ.get t = some v → t ≠ markSlot → VR μ H v (tmps.getD t undef)

/-- The marks of ranges over functions, and a frame's deferred calls. -/
inductive DR (μ : Mu) (H : Heap) : List Nat → List Deferred → Prop
  | nil : DR μ H [] []
  | cons {d b : Nat} {ds : List Nat} {cs : List Deferred} (h : okp H d 0) (h' : H[d]? = some .defer → μ d = some ⟨b, 0, 0⟩) (t : DR μ H ds cs) : DR μ H (d :: ds) ({ target := .collected b, args := #[] } :: cs)
theorem DR.ext {μ μ' : Mu} {H H' : Heap} (x : Ext μ H μ' H') {ds : List Nat} {cs : List Deferred} (h : DR μ H ds cs) : DR μ' H' ds cs := by
  induction h with
  | nil => exact .nil
  | cons h h' _ ih => exact .cons (x.okp _ _ h) (fun e => by
      obtain ⟨a, b⟩ := x.defer_ _ h e
      rw [b]; exact h' a) ih

variable (okC : Nat → Code → ACode → Bool)

/-- No range over a function in this code (a round's code). -/
def noRF : ACode → Bool
  | .seq a b | .cond _ a b => noRF a && noRF b
  | .block _ a | .loop _ a => noRF a
  | .rangeFunc .. => false
  | _ => true

def LoopR (μ : Mu) (H : Heap) (w : World) (id : Nat) (st : LoopState) (ρ : Env) (ps : List Nat) (as bd : ACode) : Prop :=
  ∃ b cas cbd tmps fn D, μ id = some ⟨b, 0, 0⟩ ∧ B0 ≤ b ∧ w.heap[b]? = some (.loop { state := st, pending := none, fn := fn, tmps := tmps, params := ps.toArray, assign := cas, body := cbd, defers := D }) ∧
    TR μ H ρ tmps ∧ (∀ p ∈ ps, p < tmps.size ∧ p ≠ markSlot) ∧ ∃ N, N ≤ tmps.size ∧ (okC N cas as = true ∧ noRF as = true) ∧ okC N cbd bd = true ∧ noRF bd = true

structure RH (μ : Mu) (H : Heap) (w : World) : Prop where
  below : Below B0 w0 w
  glob : ∀ id, id < 24 → okp H id 0 ∧ ∀ p, μ id = some p → p.b = id ∧ p.o = 0
  cells : ∀ id g e vs, H[id]? = some (.cells g e vs) → ∃ p cs el fr, μ id = some p ∧ w.heap[p.b]? = some (.cells cs el fr) ∧ cs.size = p.n ∧ p.o + vs.length ≤ p.n ∧
    (∀ j v, vs[j]? = some v → ∃ c, cs[p.o + j]? = some c ∧ VR μ H v c) ∧ (b0 ≤ id → fr = (0, 0) ∧ B0 ≤ p.b) ∧ (id < gl → fr = (0, 0))
  maps : ∀ id es, H[id]? = some (.map es) → ∃ b ces clk, μ id = some ⟨b, 0, 0⟩ ∧ B0 ≤ b ∧ w.heap[b]? = some (.map ces clk) ∧ MapR μ H es ces.toList
  loops : ∀ id ρ ps as bd base, H[id]? = some (.loop ρ ps as bd base) → b0 ≤ base ∧ LoopR B0 okC μ H w id .ready ρ ps as bd
  busys : ∀ id ρ ps as bd base, H[id]? = some (.busy ρ ps as bd base) → b0 ≤ base ∧ LoopR B0 okC μ H w id .busy ρ ps as bd
  defers : ∀ id, H[id]? = some .defer → ∃ b, μ id = some ⟨b, 0, 0⟩ ∧ B0 ≤ b ∧ w.heap[b]? = some (.deferred (some []))
  inj0 : ∀ id id' p p', id ≠ id' → alive H id → alive H id' → μ id = some p → μ id' = some p' → (b0 ≤ id → p.b ≠ p'.b) ∧ (id < gl → id' < gl → p.b ≠ p'.b ∨ p.o ≠ p'.o)
  ext : b0 ≤ H.length
  gb : 24 ≤ gl ∧ gl ≤ b0 ∧ True ∧ B0 ≤ w0.heap.size

/-- Only the count of draws has turned. -/
structure Drawn (w w' : World) : Prop where
  heap : w'.heap = w.heap
  os : w'.os = w.os
  tape : w'.tape = w.tape
  output : w'.output = w.output
theorem Drawn.refl (w : World) : Drawn w w := ⟨rfl, rfl, rfl, rfl⟩
theorem Drawn.trans {a b c : World} (h : Drawn a b) (k : Drawn b c) : Drawn a c := ⟨k.heap.trans h.heap, k.os.trans h.os, k.tape.trans h.tape, k.output.trans h.output⟩
theorem Drawn.one (w : World) (n : Nat) : Drawn w { w with drawn := n } := ⟨rfl, rfl, rfl, rfl⟩

variable {P B0 w0 gl b0 okC}
theorem RH.inj {μ : Mu} {H : Heap} {w : World} (h : RH B0 w0 gl b0 okC μ H w) (id id' : Nat) (p p' : Pl) (h1 : id ≠ id') (h2 : alive H id) (h3 : alive H id') (h4 : μ id = some p) (h5 : μ id' = some p') (h6 : b0 ≤ id ∨ False) : p.b ≠ p'.b :=
  (h.inj0 id id' p p' h1 h2 h3 h4 h5).1 (h6.resolve_right fun h => h)
theorem RH.drawn {μ : Mu} {H : Heap} {w w' : World} (h : RH B0 w0 gl b0 okC μ H w) (d : Drawn w w') : RH B0 w0 gl b0 okC μ H w' := by
  refine ⟨⟨d.os.trans h.below.os, d.tape.trans h.below.tape, d.output.trans h.below.output, by rw [d.heap]; exact h.below.size, fun k hk => by rw [d.heap]; exact h.below.block k hk⟩, h.glob, ?_, ?_, ?_, ?_, ?_, h.inj0, h.ext, h.gb⟩
  · rw [d.heap]; exact h.cells
  · rw [d.heap]; exact h.maps
  · intro id ρ ps as bd base e; unfold LoopR; rw [d.heap]; exact h.loops id ρ ps as bd base e
  · intro id ρ ps as bd base e; unfold LoopR; rw [d.heap]; exact h.busys id ρ ps as bd base e
  · rw [d.heap]; exact h.defers
end

/-! ### Equality of values by program -/
theorem bsplit {a b : Bool} (h : (a && b) = true) : a = true ∧ b = true := by simpa using h
mutual
theorem vbeq_eq : ∀ {a b : Value}, vbeq a b = true → a = b
  | .bool _, b, h => by cases b <;> simp_all [vbeq]
  | .int .., b, h => by cases b <;> simp_all [vbeq]
  | .float .., b, h => by cases b <;> simp_all [vbeq]
  | .complex .., b, h => by cases b <;> simp_all [vbeq]
  | .string _, b, h => by cases b <;> simp_all [vbeq]
  | .pointer _, b, h => by cases b <;> simp_all [vbeq]
  | .slice .., b, h => by cases b <;> simp_all [vbeq]
  | .map _, b, h => by cases b <;> simp_all [vbeq]
  | .chan _, b, h => by cases b <;> simp_all [vbeq]
  | .func f xs ys, b, h => by
    cases b <;> simp only [vbeq, Bool.false_eq_true] at h
    obtain ⟨h1, h2⟩ := bsplit h
    obtain ⟨h0, h1⟩ := bsplit h1
    rw [abeq_eq h1, abeq_eq h2, eq_of_beq h0]
  | .nilFunc, b, h => by cases b <;> simp_all [vbeq]
  | .iface t v, b, h => by
    cases b <;> simp only [vbeq, Bool.false_eq_true] at h
    obtain ⟨h1, h2⟩ := bsplit h
    rw [vbeq_eq h2, eq_of_beq h1]
  | .nilIface, b, h => by cases b <;> simp_all [vbeq]
  | .agg xs, b, h => by
    cases b <;> simp only [vbeq, Bool.false_eq_true] at h
    rw [abeq_eq h]
  | .tuple xs, b, h => by
    cases b <;> simp only [vbeq, Bool.false_eq_true] at h
    rw [abeq_eq h]
theorem abeq_eq : ∀ {a b : Array Value}, abeq a b = true → a = b
  | ⟨xs⟩, ⟨ys⟩, h => by
    simp only [abeq] at h
    rw [lbeq_eq h]
theorem lbeq_eq : ∀ {a b : List Value}, lbeq a b = true → a = b
  | [], b, h => by cases b <;> simp_all [lbeq]
  | x :: xs, b, h => by
    cases b <;> simp only [lbeq, Bool.false_eq_true] at h
    obtain ⟨h1, h2⟩ := bsplit h
    rw [vbeq_eq h1, lbeq_eq h2]
end
mutual
theorem vbeq_refl : ∀ a : Value, vbeq a a = true
  | .bool _ | .int .. | .float .. | .complex .. | .string _ | .pointer _ | .slice .. | .map _ | .chan _ | .nilFunc | .nilIface => by simp [vbeq]
  | .func _ xs ys => by simp [vbeq, abeq_refl xs, abeq_refl ys]
  | .iface _ v => by simp [vbeq, vbeq_refl v]
  | .agg xs => by simp [vbeq, abeq_refl xs]
  | .tuple xs => by simp [vbeq, abeq_refl xs]
theorem abeq_refl : ∀ a : Array Value, abeq a a = true
  | ⟨xs⟩ => by simp [abeq, lbeq_refl xs]
theorem lbeq_refl : ∀ a : List Value, lbeq a a = true
  | [] => by simp [lbeq]
  | x :: xs => by simp [lbeq, vbeq_refl x, lbeq_refl xs]
end

theorem okV_VR {μ : Mu} {H : Heap} : ∀ (n : Nat) (v : Value), okV n v = true → VR μ H v v := by
  intro n
  induction n with
  | zero =>
    intro v h
    cases v with
    | bool b => exact .bool b
    | int k n => exact .int k n
    | float k b => cases k <;> simp [okV] at h; exact .float h
    | complex k a b => cases k <;> simp [okV] at h; exact .complex h.1 h.2
    | string s => exact .string s
    | pointer a => cases a <;> simp [okV] at h; exact .nilPtr
    | slice a n c => cases a <;> simp [okV] at h; obtain ⟨rfl, rfl⟩ := h; exact .nilSlc
    | map r => cases r <;> simp [okV] at h; exact .nilMap
    | func f xs ys =>
      cases f <;> simp [okV] at h
      obtain ⟨rfl, rfl⟩ := h
      exact VR.mk_func _ .nil .nil
    | nilFunc => exact .nilFunc
    | nilIface => exact .nilIface
    | _ => simp [okV] at h
  | succ n ih =>
    intro v h
    have lst : ∀ vs : List Value, vs.all (okV n) = true → LR μ H vs vs := by
      intro vs h
      induction vs with
      | nil => exact .nil
      | cons x xs ihx => simp at h; exact .cons (ih x h.1) (ihx (by simpa using h.2))
    cases v with
    | bool b => exact .bool b
    | int k n => exact .int k n
    | float k b => cases k <;> simp [okV] at h; exact .float h
    | complex k a b => cases k <;> simp [okV] at h; exact .complex h.1 h.2
    | string s => exact .string s
    | pointer a => cases a <;> simp [okV] at h; exact .nilPtr
    | slice a n c => cases a <;> simp [okV] at h; obtain ⟨rfl, rfl⟩ := h; exact .nilSlc
    | map r => cases r <;> simp [okV] at h; exact .nilMap
    | func f xs ys =>
      cases f <;> simp [okV] at h
      obtain ⟨rfl, rfl⟩ := h
      exact VR.mk_func _ .nil .nil
    | nilFunc => exact .nilFunc
    | nilIface => exact .nilIface
    | iface t v => exact .iface t (ih v (by simpa [okV] using h))
    | agg vs => have := VR.mk_agg (lst vs.toList (by simpa [okV] using h)); simpa using this
    | tuple vs => have := VR.mk_tuple (lst vs.toList (by simpa [okV] using h)); simpa using this
    | chan r => simp [okV] at h

end Go.AM
/- The operations on values, one by one. No condition. -/
namespace Go.AM
open Go.RowKit (Below)

def okBinT (op : BinOp) : Bool := match op with | .andNot => false | _ => true

def okFs (P : Program) : Nat → List Field → Bool
  | _, [] => true
  | i, f :: r => f.name != "_" && f.offset == i && okI P f.type && okFs P (i + 1) r

/-- Does a value operation of the abstract machine stand for this operation? -/
def okVal (P : Program) : Op → AOp → Bool
  | .move x, .mv y | .assign x, .mv y => okO x y
  | .pick c a b, .pick c' a' b' => okO c c' && okO a a' && okO b b'
  | .nilCheck x, .nilck y => okO x y
  | .binOp op _ x y _, .bin op' x' y' => op == op' && okO x x' && okO y y'
  | .binOp op t x y _, .eqb neg x' y' => op == (if neg then .neq else .eql) && okO x x' && okO y y' && (match P.underlying t with | some .bool => true | _ => false)
  | .binOp op t x y _, .eqp neg x' y' => op == (if neg then .neq else .eql) && okO x x' && okO y y' && (match P.underlying t with | some (.pointer e) => P.cellsOf e != 0 && (P.info? e).isSome | _ => false)
  | .binOp op t x y _, .eqi d neg x' y' => op == (if neg then .neq else .eql) && okO x x' && okO y y' && (match P.underlying t with | some (.interface _) => true | _ => false) &&
      (match P.underlying d, P.info? d with | some (.pointer e), some i => P.cellsOf e != 0 && (P.info? e).isSome && i.comparable | _, _ => false)
  | .binOp op t x y _, .eqs neg n x' y' => op == (if neg then .neq else .eql) && okO x x' && okO y y' && !P.eqGuardType P.depth t && !P.stoodInHeld t &&
      (match P.underlying t with | some (.struct fs) => fs.size == n && okFs P 0 fs.toList | _ => false)
  | .unOp op _ x, .un op' x' => op == op' && okO x x'
  | .extract x i, .ext x' i' => okO x x' && i == i'
  | .field t x f, .fld off n x' => okO x x' && (match P.underlying t with | some (.struct fs) => (match fs[f]? with | some fl => fl.offset == off && okN P fl.type n | none => false) | _ => false)
  | .index t x i, .ixs x' i' => okO x x' && okO i i' && okStr P t
  | .index t x i, .ixa m esz n x' i' => okO x x' && okO i i' && okA P t m esz && (match P.underlying t with | some (.array _ e) => okN P e n | _ => false)
  | .fieldAddr t x f, .fa off x' => okO x x' && (match P.underlying t with | some (.struct fs) => (match fs[f]? with | some fl => fl.offset == off && P.cellsOf fl.type != 0 && (P.info? fl.type).isSome | none => false) | _ => false)
  | .indexAddr t x i, .iaa m esz x' i' => okO x x' && okO i i' && okA P t m esz
  | .indexAddr t x i, .ias esz x' i' => okO x x' && okO i i' && okS P t esz
  | .makeFunc (.func f) first caps, .mkf f' cs => f == f' && first.size == 0 && okOs caps.toList cs
  | .makeInterface t x, .mki t' x' => t == t' && okO x x' && (match P.underlying t with | some (.interface _) => false | some _ => true | none => false)
  | .convert s d x, .ci k x' => okO x x' && okI P s && (match P.underlying d with | some (.int k') => k' == k | _ => false)
  | .convert s d x, .cf x' => okO x x' && okI P s && (match P.underlying d with | some (.float .f64) => true | _ => false)
  | .convert s d x, .b2s x' => okO x x' && okStr P d && (match P.underlying s with | some (.slice e) => (match P.underlying e with | some (.int .u8) => true | _ => false) | _ => false)
  | .slice t x lo hi none, .sls esz x' lo' hi' => okO x x' && okOo lo lo' && okOo hi hi' && okS P t esz
  | .slice t x lo hi none, .slt x' lo' hi' => okO x x' && okOo lo lo' && okOo hi hi' && okStr P t
  | .slice t x lo hi none, .sla m esz x' lo' hi' => okO x x' && okOo lo lo' && okOo hi hi' && okA P t m esz
  | .sliceToArrayPointer t x, .s2a n x' => okO x x' && (match P.underlying t with | some (.array m _) => m == n && n != 0 | _ => false)
  | .call { callee := .builtin .len, args, argTypes }, .len x' => okOs args.toList [x'] && (match argTypes[0]? with | some t => (match P.underlying t with | some (.slice _) => true | _ => false) | none => false)
  | .call { callee := .builtin .len, args, argTypes }, .lens x' => okOs args.toList [x'] && (match argTypes[0]? with | some t => okStr P t | none => false)
  | .call { callee := .builtin .real, args, .. }, .re x' => okOs args.toList [x']
  | .call { callee := .builtin .imag, args, .. }, .im x' => okOs args.toList [x']
  | .call { callee := .builtin .complex, args, .. }, .cx x' y' => okOs args.toList [x', y']
  | .call { callee := .builtin .min, args, .. }, .mn x' y' => okOs args.toList [x', y']
  | .call { callee := .builtin .max, args, .. }, .mx x' y' => okOs args.toList [x', y']
  | .load t x, .ld n x' => okO x x' && okN P t n
  | .build t ps, .mk zero qs => okZ P t zero && (match P.underlying t with
    | some (.struct fs) => okPs P fs ps.toList qs && fs.all (fun f => (P.info? f.type).isSome)
    | some (.array _ e) => okQs (P.cellsOf e) ps.toList qs && (P.info? e).isSome
    | _ => false)
  | .lookup t m k true, .look zero m' k' => okO m m' && okO k k' && okV 3 zero && (match P.underlying t with
    | some (.map kt et) => (match P.underlying kt with | some (.int .i64) => true | _ => false) && (match (P.info? et).bind (·.zero) with | some z => vbeq z zero | none => false)
    | _ => false)
  | _, _ => false

section
variable {P : Program} {B0 : Nat} {w0 : World} {gl b0 : Nat} {okC : Nat → Code → ACode → Bool} {μ : Mu} {H : Heap} {w : World} {ρ : Env} {a : Act}

theorem ev_sim {x : Operand} {y : Opnd} (hok : okO x y = true) (hR : RH B0 w0 gl b0 okC μ H w) (hT : TR μ H ρ a.tmps) {v : Value} (h : ev ρ y = some v) : VR μ H v (a.eval x) := by
  cases x with
  | tmp t =>
    cases y with
    | t n =>
      simp [okO] at hok
      obtain ⟨rfl, hm⟩ := hok
      exact hT t v h hm
    | c v => simp [okO] at hok
  | const c =>
    cases y with
    | t n => simp [okO] at hok
    | c v' =>
      simp only [okO, Bool.and_eq_true] at hok
      obtain rfl := vbeq_eq hok.1
      obtain rfl : c = v := by simpa [ev] using h
      exact okV_VR 4 _ hok.2
  | global g =>
    cases y with
    | t n => simp [okO] at hok
    | c v' =>
      simp only [ev, Option.some.injEq] at h
      subst h
      unfold okO at hok
      split at hok <;> try contradiction
      rename_i g' id e1 e2
      cases e1; cases e2
      simp only [Bool.and_eq_true, beq_iff_eq, decide_eq_true_eq] at hok
      obtain ⟨rfl, hg⟩ := hok
      obtain ⟨h1, h2⟩ := hR.glob g hg
      refine .ptr h1 fun e vs ha => ?_
      unfold Heap.at at ha
      split at ha <;> try contradiction
      rename_i g' e' vs' hc
      obtain ⟨p, cs, el, fr, hp, _⟩ := hR.cells _ _ _ _ hc
      obtain ⟨hb, ho⟩ := h2 p hp
      exact ⟨p, hp, hb.symm, by omega⟩
  | func f =>
    cases y with
    | t n => simp [okO] at hok
    | c v' =>
      simp only [ev, Option.some.injEq] at h
      subst h
      unfold okO at hok
      split at hok <;> try contradiction
      rename_i f1 f2 xs ys e1 e2
      cases e1; cases e2
      simp at hok
      obtain ⟨⟨rfl, rfl⟩, rfl⟩ := hok
      exact VR.mk_func _ .nil .nil

theorem evs_sim : ∀ {xs : List Operand} {ys : List Opnd}, okOs xs ys = true → RH B0 w0 gl b0 okC μ H w → TR μ H ρ a.tmps → ∀ {vs}, evs ρ ys = some vs → LR μ H vs (xs.map a.eval)
  | [], [], _, _, _, vs, h => by simp [evs] at h; subst h; exact .nil
  | x :: xs, y :: ys, hok, hR, hT, vs, h => by
    simp only [okOs, Bool.and_eq_true] at hok
    simp only [evs] at h
    split at h <;> try contradiction
    rename_i v l h1 h2
    cases h
    exact .cons (ev_sim hok.1 hR hT h1) (evs_sim hok.2 hR hT h2)

/-- An operation whose answer is a value. -/
theorem exec_v {ρ' : Operand → Value} {o : Oper} {s : Sem Value} (h : execOp ρ' o = (do pure (.value (← s)))) {c : Value} {w' : World} (hs : s.run P w = .ok c w') : (execOp ρ' o).run P w = .ok (.value c) w' := by
  rw [h]; simp [hs]

theorem VR.int_inv {k : IntKind} {n : Int} {c : Value} (h : VR μ H (.int k n) c) : c = .int k n := by cases h; rfl
theorem VR.bool_inv {b : Bool} {c : Value} (h : VR μ H (.bool b) c) : c = .bool b := by cases h; rfl
theorem VR.string_inv {s : ByteArray} {c : Value} (h : VR μ H (.string s) c) : c = .string s := by cases h; rfl
theorem VR.float_inv {x : Nat} {c : Value} (h : VR μ H (.float .f64 x) c) : ∃ y, c = .float .f64 y ∧ canon y = x := by cases h; exact ⟨_, rfl, by assumption⟩
theorem VR.float_k {k : FloatKind} {x : Nat} {c : Value} (h : VR μ H (.float k x) c) : k = .f64 := by cases h; rfl
theorem VR.complex_inv {k : FloatKind} {x y : Nat} {c : Value} (h : VR μ H (.complex k x y) c) : k = .f64 ∧ ∃ x' y', c = .complex .f64 x' y' ∧ canon x' = x ∧ canon y' = y := by cases h; exact ⟨rfl, _, _, rfl, by assumption, by assumption⟩

theorem asI_inv {x : Operand} {y : Opnd} (hok : okO x y = true) (hR : RH B0 w0 gl b0 okC μ H w) (hT : TR μ H ρ a.tmps) {i : Int} (h : asI (ev ρ y) = some i) : ∃ k, a.eval x = .int k i := by
  unfold asI at h
  split at h <;> try contradiction
  rename_i k n he
  cases h
  exact ⟨k, (ev_sim hok hR hT he).int_inv⟩

theorem intb_run (op : BinOp) (k : IntKind) (x y : Int) {v : Value} (h : intb op k x y = some v) (t : TypeId) (hs : op ≠ .shl) (hs' : op ≠ .shr) : (binOp op t (.int k x) (.int k y)).run P w = .ok v w := by
  cases op <;> simp only [intb] at h <;>
    first
      | (cases h; simp [binOp, Op.intArith, Op.intBits, Op.intCmp]; done)
      | (split at h <;> first | contradiction | (cases h; simp_all [binOp, Op.intDiv]))
      | contradiction

theorem floatArith_run (op : BinOp) (hop : op = .add ∨ op = .sub ∨ op = .mul ∨ op = .quo) {x y a' b' : Nat} (hx : canon x = a') (hy : canon y = b') :
    ∃ r w', (Op.floatArith op .f64 x y).run P w = .ok (.float .f64 r) w' ∧ canon r = fop op a' b' ∧ Drawn w w' := by
  have key : ∃ r w', (match fbin op x y with | some r => (pure (.float .f64 r) : Sem Value) | none => do pure (.float .f64 (← choose (.nanBits .f64 x y)))).run P w = .ok (.float .f64 r) w' ∧ canon r = fop op a' b' ∧ Drawn w w' := by
    unfold fop
    rw [← fbin_canon op hx hy]
    cases hf : fbin op x y with
    | some r => exact ⟨r, w, by simp, by simp, .refl w⟩
    | none =>
      refine ⟨(Question.nanBits .f64 x y).cut (w.tape w.drawn (.nanBits .f64 x y)), { w with drawn := w.drawn + 1 }, by simp [Question.forced], ?_, .one _ _⟩
      rw [canon_of_nan (isNaN_nanBits _ _ _)]
      simp [canon, isNaN_nan64]
  rcases hop with rfl | rfl | rfl | rfl <;> exact key

end
end Go.AM
/- The operations on values, one by one: the simulation. No condition. -/
namespace Go.AM
open Go.RowKit (Below)

section
variable {P : Program} {B0 : Nat} {w0 : World} {gl b0 : Nat} {okC : Nat → Code → ACode → Bool} {μ : Mu} {H : Heap} {w : World} {ρ : Env} {a : Act}

/-- The operation answers a value that stands for v; memory stays. -/
def SimV (P : Program) (μ : Mu) (H : Heap) (w : World) (ρ' : Operand → Value) (o : Oper) (v : Value) : Prop :=
  ∃ c w', (execOp ρ' o).run P w = .ok (.value c) w' ∧ VR μ H v c ∧ Drawn w w'

theorem simV_v {o : Oper} {s : Sem Value} {v c : Value} {w' : World} (h : execOp a.eval o = (do pure (.value (← s)))) (hs : s.run P w = .ok c w') (hv : VR μ H v c) (hd : Drawn w w') : SimV P μ H w a.eval o v :=
  ⟨c, w', exec_v h hs, hv, hd⟩

theorem bin_run {op : BinOp} {t : TypeId} {x y v c d : Value} (hx : VR μ H x c) (hy : VR μ H y d) (hv : binv op x y = some v) : ∃ r w', (binOp op t c d).run P w = .ok r w' ∧ VR μ H v r ∧ Drawn w w' := by
  unfold binv at hv
  split at hv
  · rename_i k m k' n
    obtain rfl := hx.int_inv
    obtain rfl := hy.int_inv
    split at hv
    · split at hv <;> try contradiction
      rename_i hn
      cases hv
      exact ⟨_, w, by simp [binOp, Op.shift, hn], .int _ _, .refl w⟩
    · split at hv <;> try contradiction
      rename_i hn
      cases hv
      exact ⟨_, w, by simp [binOp, Op.shift, hn], .int _ _, .refl w⟩
    · split at hv <;> try contradiction
      rename_i h1 h2 hk
      subst hk
      refine ⟨v, w, intb_run op k m n hv t (fun e => h2 e) (fun e => h1 e), ?_, .refl w⟩
      have : okV 0 v = true := by
        cases op <;> simp only [intb] at hv <;> first | contradiction | (cases hv; rfl) | (split at hv <;> first | contradiction | (cases hv; rfl))
      exact okV_VR 0 v this
  · rename_i m n
    obtain ⟨m', rfl, hm⟩ := hx.float_inv
    obtain ⟨n', rfl, hn⟩ := hy.float_inv
    have ord : FloatKind.f64.format.order m' n' = Ieee.double.order m n := order_canon hm hn
    unfold fltb at hv
    split at hv <;> try contradiction
    all_goals cases hv
    · obtain ⟨r, w', h1, h2, h3⟩ := floatArith_run (P := P) (w := w) .add (by simp) hm hn
      exact ⟨_, w', by simpa [binOp] using h1, .float h2, h3⟩
    · obtain ⟨r, w', h1, h2, h3⟩ := floatArith_run (P := P) (w := w) .sub (by simp) hm hn
      exact ⟨_, w', by simpa [binOp] using h1, .float h2, h3⟩
    · obtain ⟨r, w', h1, h2, h3⟩ := floatArith_run (P := P) (w := w) .mul (by simp) hm hn
      exact ⟨_, w', by simpa [binOp] using h1, .float h2, h3⟩
    · obtain ⟨r, w', h1, h2, h3⟩ := floatArith_run (P := P) (w := w) .quo (by simp) hm hn
      exact ⟨_, w', by simpa [binOp] using h1, .float h2, h3⟩
    all_goals exact ⟨_, w, by simp [binOp, Op.floatCmp, ord, feq], .bool _, .refl w⟩
  · rename_i m n m1 n1
    obtain ⟨_, m', n', rfl, hm, hn⟩ := hx.complex_inv
    obtain ⟨_, m1', n1', rfl, hm1, hn1⟩ := hy.complex_inv
    unfold cpxb at hv
    split at hv <;> try contradiction
    all_goals cases hv
    · obtain ⟨r, w', h1, h2, h3⟩ := floatArith_run (P := P) (w := w) .add (by simp) hm hm1
      obtain ⟨r', w'', h1', h2', h3'⟩ := floatArith_run (P := P) (w := w') .add (by simp) hn hn1
      exact ⟨_, w'', by simp [binOp, Op.complexOp, Op.Complex.arith, h1, h1'], .complex h2 h2', h3.trans h3'⟩
    · obtain ⟨r, w', h1, h2, h3⟩ := floatArith_run (P := P) (w := w) .sub (by simp) hm hm1
      obtain ⟨r', w'', h1', h2', h3'⟩ := floatArith_run (P := P) (w := w') .sub (by simp) hn hn1
      exact ⟨_, w'', by simp [binOp, Op.complexOp, Op.Complex.arith, h1, h1'], .complex h2 h2', h3.trans h3'⟩
    all_goals
      have o1 : FloatKind.f64.format.order m' m1' = Ieee.double.order m m1 := order_canon hm hm1
      have o2 : FloatKind.f64.format.order n' n1' = Ieee.double.order n n1 := order_canon hn hn1
      refine ⟨_, w, by simp [binOp, Op.complexOp, Op.Complex.cmp, Op.floatCmp, o1, o2, asBool]; rfl, ?_, .refl w⟩
      simp only [feq]
      first | exact .bool _ | (cases hA : (Ieee.double.order m m1 == some Ordering.eq) <;> simp [hA] <;> exact .bool _)
  · rename_i s s'
    obtain rfl := hx.string_inv
    obtain rfl := hy.string_inv
    unfold strb at hv
    split at hv <;> try contradiction
    · split at hv <;> try contradiction
      rename_i hs
      cases hv
      refine ⟨_, w, ?_, .string _, .refl w⟩
      have : ¬ ((s.size : Int) + s'.size > IntKind.i64.max) := by
        have : IntKind.i64.max = 9223372036854775807 := by decide
        omega
      simp [binOp, Op.stringOp, this]
      omega
    · cases hv; exact ⟨_, w, by simp [binOp, Op.stringOp], .bool _, .refl w⟩
    · cases hv; exact ⟨_, w, by simp [binOp, Op.stringOp], .bool _, .refl w⟩
  · contradiction

variable (hR : RH B0 w0 gl b0 okC μ H w) (hT : TR μ H ρ a.tmps)
include hR hT

theorem sim_mv {o : Oper} {y : Opnd} {v : Value} (hok : okVal P o.op (.mv y) = true) (hv : AOp.val gl ρ H (.mv y) = some v) : SimV P μ H w a.eval o v := by
  obtain ⟨d, op, t, p, af, g⟩ := o
  cases op <;> simp [okVal] at hok
  all_goals exact ⟨_, w, rfl, ev_sim hok hR hT hv, .refl w⟩

theorem sim_pick {o : Oper} {c' a' b' : Opnd} {v : Value} (hok : okVal P o.op (.pick c' a' b') = true) (hv : AOp.val gl ρ H (.pick c' a' b') = some v) : SimV P μ H w a.eval o v := by
  obtain ⟨d, op, t, p, af, g⟩ := o
  cases op <;> simp [okVal] at hok
  rename_i c x y
  obtain ⟨⟨h1, h2⟩, h3⟩ := hok
  simp only [AOp.val] at hv
  split at hv <;> try contradiction
  · rename_i he
    have e := (ev_sim h1 hR hT he).bool_inv
    exact ⟨_, w, by simp [execOp, e, asBool], ev_sim h2 hR hT hv, .refl w⟩
  · rename_i he
    have e := (ev_sim h1 hR hT he).bool_inv
    exact ⟨_, w, by simp [execOp, e, asBool], ev_sim h3 hR hT hv, .refl w⟩

theorem sim_nilck {o : Oper} {y : Opnd} {v : Value} (hok : okVal P o.op (.nilck y) = true) (hv : AOp.val gl ρ H (.nilck y) = some v) : SimV P μ H w a.eval o v := by
  obtain ⟨d, op, t, p, af, g⟩ := o
  cases op <;> simp [okVal] at hok
  rename_i x
  simp only [AOp.val] at hv
  split at hv <;> try contradiction
  rename_i ad he
  cases hv
  have h := ev_sim hok hR hT he
  have h' := h
  generalize hx : a.eval x = c at h
  cases h
  exact ⟨_, w, by simp [execOp, hx]; rfl, by rw [hx] at h'; exact h', .refl w⟩

theorem sim_bin {o : Oper} {op : BinOp} {x' y' : Opnd} {v : Value} (hok : okVal P o.op (.bin op x' y') = true) (hv : AOp.val gl ρ H (.bin op x' y') = some v) : SimV P μ H w a.eval o v := by
  obtain ⟨d, op', t, p, af, g⟩ := o
  cases op' <;> simp [okVal] at hok
  rename_i op' xt x y yt
  obtain ⟨⟨rfl, h1⟩, h2⟩ := hok
  simp only [AOp.val] at hv
  split at hv <;> try contradiction
  rename_i m n e1 e2
  have v1 := ev_sim h1 hR hT e1
  have v2 := ev_sim h2 hR hT e2
  obtain ⟨r, w', hr, hvr, hd⟩ := bin_run (P := P) (t := xt) (w := w) v1 v2 hv
  have hg : (eqGuard op' xt x y (a.eval x) (a.eval y)).run P w = .ok () w := by
    unfold eqGuard
    unfold binv at hv
    split at hv <;> try contradiction
    · rw [v1.int_inv, v2.int_inv]; split <;> simp
    · obtain ⟨_, e, _⟩ := v1.float_inv; rw [e]; split <;> simp
    · obtain ⟨_, _, _, e, _⟩ := v1.complex_inv; rw [e]; split <;> simp
    · rw [v1.string_inv]; split <;> simp
  exact ⟨r, w', by simp [execOp, hg, hr], hvr, hd⟩

end
end Go.AM
/- The operations on values, one by one: the simulation, 2. No condition. -/
namespace Go.AM
open Go.RowKit (Below)

section
variable {P : Program} {B0 : Nat} {w0 : World} {gl b0 : Nat} {okC : Nat → Code → ACode → Bool} {μ : Mu} {H : Heap} {w : World} {ρ : Env} {a : Act}

theorem run_equal_of {t : TypeId} {x y : Value} {r : Bool} (h : ∀ d, (Op.equalIn (d + 1) t x y).run P w = .ok r w) : (Op.equal t x y).run P w = .ok r w := h 9999
theorem run_equal_of2 {t : TypeId} {x y : Value} {r : Bool} (h : ∀ d, (Op.equalIn (d + 2) t x y).run P w = .ok r w) : (Op.equal t x y).run P w = .ok r w := h 9998

/-- A pointer to a live block. -/
theorem ptr_live (hR : RH B0 w0 gl b0 okC μ H w) {id off g : Nat} {c : Value} (h : VR μ H (.pointer (some ⟨id, off, some g⟩)) c) {e : Nat} {vs : List Value} (ha : H.at id g = some (e, vs)) :
    ∃ p cs el fr, μ id = some p ∧ c = .pointer (some ⟨p.b, p.o + off, none⟩) ∧ w.heap[p.b]? = some (.cells cs el fr) ∧ cs.size = p.n ∧ p.o + vs.length ≤ p.n ∧
      (∀ j v, vs[j]? = some v → ∃ c, cs[p.o + j]? = some c ∧ VR μ H v c) ∧ (b0 ≤ id → fr = (0, 0) ∧ B0 ≤ p.b) ∧ (id < gl → fr = (0, 0)) := by
  cases h with
  | ptr hk h' =>
    obtain ⟨p, hp, rfl, rfl⟩ := h' e vs ha
    unfold Heap.at at ha
    split at ha <;> try contradiction
    rename_i g' e' vs' hc
    split at ha <;> try contradiction
    cases ha
    obtain ⟨p', cs, el, fr, hp', h1, h2, h3, h4, h5, h6⟩ := hR.cells _ _ _ _ hc
    rw [hp] at hp'; cases hp'
    exact ⟨p, cs, el, fr, hp, rfl, h1, h2, h3, h4, h5, h6⟩

theorem at_ok {id g e : Nat} {vs : List Value} (ha : H.at id g = some (e, vs)) : H[id]? = some (.cells g e vs) := by
  unfold Heap.at at ha
  split at ha <;> try contradiction
  rename_i hc
  split at ha <;> try contradiction
  rename_i hg
  cases ha; rw [hc, hg]

variable (hR : RH B0 w0 gl b0 okC μ H w) (hT : TR μ H ρ a.tmps)

theorem eqp_run {ad bd : Addr} {r : Bool} (hR : RH B0 w0 gl b0 okC μ H w) {c d : Value} (hx : VR μ H (.pointer (some ad)) c) (hy : VR μ H (.pointer (some bd)) d) (h : eqp gl H ad bd = some r) :
    ∃ a' b', c = .pointer (some a') ∧ d = .pointer (some b') ∧ (if r then a' = b' else a' ≠ b') ∧ (∃ ca ta, w.heap[a'.block]? = some (.cells ca ta (0, 0))) ∧ ∃ cb tb, w.heap[b'.block]? = some (.cells cb tb (0, 0)) := by
  unfold eqp at h
  split at h <;> try contradiction
  rename_i hc
  obtain ⟨g1, g2, l1, l2⟩ := hc
  obtain ⟨id, off, sp⟩ := ad
  obtain ⟨id', off', sp'⟩ := bd
  cases sp with
  | none => simp [Heap.lives] at l1
  | some g =>
    cases sp' with
    | none => simp [Heap.lives] at l2
    | some g' =>
      simp only [Heap.lives, Option.isSome_iff_exists] at l1 l2
      obtain ⟨⟨e, vs⟩, a1⟩ := l1
      obtain ⟨⟨e', vs'⟩, a2⟩ := l2
      obtain ⟨p, cs, el, fr, hp, rfl, q1, q2, q3, q4, q5, q6⟩ := ptr_live hR hx a1
      obtain ⟨p', cs', el', fr', hp', rfl, q1', q2', q3', q4', q5', q6'⟩ := ptr_live hR hy a2
      simp only at g1 g2
      refine ⟨_, _, rfl, rfl, ?_, ⟨cs, el, by rw [q1, q6 g1]⟩, ⟨cs', el', by rw [q1', q6' g2]⟩⟩
      by_cases hb : id = id'
      · subst hb
        rw [hp] at hp'; cases hp'
        simp only [if_true] at h
        split at h
        · cases h; simp_all
        · contradiction
      · rw [if_neg hb] at h
        split at h <;> try contradiction
        rename_i ho
        cases h
        simp only at ho
        obtain ⟨rfl, rfl⟩ := ho
        rcases (hR.inj0 id id' p p' hb (by unfold alive; rw [at_ok a1]; trivial) (by unfold alive; rw [at_ok a2]; trivial) hp hp').2 g1 g2 with this | this <;> simp [this]

include hR hT

theorem sim_eqb {o : Oper} {neg : Bool} {x' y' : Opnd} {v : Value} (hok : okVal P o.op (.eqb neg x' y') = true) (hv : AOp.val gl ρ H (.eqb neg x' y') = some v) : SimV P μ H w a.eval o v := by
  obtain ⟨d, op', t, p, af, g⟩ := o
  cases op' <;> simp [okVal] at hok
  rename_i op' xt x y yt
  obtain ⟨⟨⟨rfl, h1⟩, h2⟩, h3⟩ := hok
  split at h3 <;> try contradiction
  rename_i hu
  simp only [AOp.val] at hv
  split at hv <;> try contradiction
  rename_i m n e1 e2
  cases hv
  have v1 := (ev_sim h1 hR hT e1).bool_inv
  have v2 := (ev_sim h2 hR hT e2).bool_inv
  refine ⟨.bool (if neg then !(m == n) else m == n), w, ?_, .bool _, .refl w⟩
  have he : (Op.equal xt (.bool m) (.bool n)).run P w = .ok (m == n) w := run_equal_of fun d => by simp [Op.equalIn, run_underlying hu]
  cases neg <;> simp [execOp, v1, v2, eqGuard, binOp, he]

theorem sim_eqp {o : Oper} {neg : Bool} {x' y' : Opnd} {v : Value} (hok : okVal P o.op (.eqp neg x' y') = true) (hv : AOp.val gl ρ H (.eqp neg x' y') = some v) : SimV P μ H w a.eval o v := by
  obtain ⟨d, op', t, p, af, g⟩ := o
  cases op' <;> simp [okVal] at hok
  rename_i op' xt x y yt
  obtain ⟨⟨⟨rfl, h1⟩, h2⟩, h3⟩ := hok
  split at h3 <;> try contradiction
  rename_i e hu
  simp at h3
  obtain ⟨hsz, hi⟩ := h3
  obtain ⟨i, hi⟩ := Option.isSome_iff_exists.1 hi
  have hsz' : i.size ≠ 0 := by simpa [Program.cellsOf, hi] using hsz
  simp only [AOp.val] at hv
  split at hv <;> try contradiction
  rename_i m n e1 e2
  split at hv <;> try contradiction
  rename_i r hr
  cases hv
  have v1 := ev_sim h1 hR hT e1
  have v2 := ev_sim h2 hR hT e2
  have key : ∃ c d, a.eval x = c ∧ a.eval y = d ∧ (∃ pa, c = .pointer pa) ∧ (Op.equal xt c d).run P w = .ok r w := by
    unfold eqPtr at hr
    split at hr <;> try contradiction
    · rename_i b
      cases hr
      generalize hx : a.eval x = c at v1
      generalize hy : a.eval y = d at v2
      cases v1
      cases v2 <;> exact ⟨_, _, rfl, rfl, ⟨_, rfl⟩, run_equal_of fun d => by simp [Op.equalIn, run_underlying hu]⟩
    · cases hr
      generalize hx : a.eval x = c at v1
      generalize hy : a.eval y = d at v2
      cases v1
      cases v2
      exact ⟨_, _, rfl, rfl, ⟨_, rfl⟩, run_equal_of fun d => by simp [Op.equalIn, run_underlying hu]⟩
    · obtain ⟨a', b', hc, hd, hif, ⟨ca, ta, ha⟩, cb, tb, hb⟩ := eqp_run hR v1 v2 hr
      refine ⟨_, _, rfl, rfl, ⟨_, hc⟩, ?_⟩
      rw [hc, hd]
      cases r
      · simp at hif
        exact run_equal_of fun d => by simp [Op.equalIn, run_underlying hu, sizeOf, typeInfo, hi, hsz', run_sameAddr_other w hif ha hb]
      · simp at hif
        subst hif
        exact run_equal_of fun d => by simp [Op.equalIn, run_underlying hu, sizeOf, typeInfo, hi, hsz', run_sameAddr_same]
  obtain ⟨c, d', hx, hy, ⟨pa, rfl⟩, hrun⟩ := key
  refine ⟨.bool (if neg then !r else r), w, ?_, .bool _, .refl w⟩
  have hg : (eqGuard (if neg = true then BinOp.neq else .eql) xt x y (.pointer pa) d').run P w = .ok () w := by cases neg <;> cases d' <;> simp [eqGuard]
  cases neg <;> cases d' <;> simp_all [execOp, binOp]

theorem sim_eqi {o : Oper} {dt : Nat} {neg : Bool} {x' y' : Opnd} {v : Value} (hok : okVal P o.op (.eqi dt neg x' y') = true) (hv : AOp.val gl ρ H (.eqi dt neg x' y') = some v) : SimV P μ H w a.eval o v := by
  obtain ⟨d, op', t, p, af, g⟩ := o
  cases op' <;> simp [okVal] at hok
  rename_i op' xt x y yt
  obtain ⟨⟨⟨⟨rfl, h1⟩, h2⟩, h3⟩, h4⟩ := hok
  split at h3 <;> try contradiction
  rename_i ms hu
  split at h4 <;> try contradiction
  rename_i e i hd hinfo
  simp at h4
  obtain ⟨⟨hsz, hi⟩, hcomp⟩ := h4
  obtain ⟨j, hi⟩ := Option.isSome_iff_exists.1 hi
  have hsz' : j.size ≠ 0 := by simpa [Program.cellsOf, hi] using hsz
  simp only [AOp.val] at hv
  split at hv <;> try contradiction
  rename_i m n e1 e2
  split at hv <;> try contradiction
  rename_i r hr
  cases hv
  have v1 := ev_sim h1 hR hT e1
  have v2 := ev_sim h2 hR hT e2
  have key : ∃ c d, a.eval x = c ∧ a.eval y = d ∧ (c = .nilIface ∨ ∃ t v, c = .iface t v) ∧ (d = .nilIface ∨ ∃ t v, d = .iface t v) ∧ (c = .nilIface → d = .nilIface → isC x' = true ∨ isC y' = true) ∧ (Op.equal xt c d).run P w = .ok r w := by
    unfold eqIf at hr
    split at hr <;> try contradiction
    · cases hr
      generalize hx : a.eval x = c at v1
      generalize hy : a.eval y = d at v2
      cases v1; cases v2
      exact ⟨_, _, rfl, rfl, .inl rfl, (.inr ⟨_, _, rfl⟩), (fun _ h => by cases h), run_equal_of fun d => by simp [Op.equalIn, run_underlying hu]⟩
    · cases hr
      generalize hx : a.eval x = c at v1
      generalize hy : a.eval y = d at v2
      cases v1; cases v2
      exact ⟨_, _, rfl, rfl, .inr ⟨_, _, rfl⟩, .inl rfl, (fun h => by cases h), run_equal_of fun d => by simp [Op.equalIn, run_underlying hu]⟩
    · split at hr <;> try contradiction
      rename_i hc
      cases hr
      generalize hx : a.eval x = c at v1
      generalize hy : a.eval y = d at v2
      cases v1; cases v2
      exact ⟨_, _, rfl, rfl, .inl rfl, .inl rfl, (fun _ _ => by simpa using hc), run_equal_of fun d => by simp [Op.equalIn, run_underlying hu]⟩
    · rename_i t1 ad t2 bd
      split at hr <;> try contradiction
      rename_i ht
      obtain ⟨rfl, rfl⟩ := ht
      generalize hx : a.eval x = c at v1
      generalize hy : a.eval y = d at v2
      cases v1 with | iface _ v1 =>
      cases v2 with | iface _ v2 =>
      obtain ⟨a', b', rfl, rfl, hif, ⟨ca, ta, ha⟩, cb, tb, hb⟩ := eqp_run hR v1 v2 hr
      refine ⟨_, _, rfl, rfl, .inr ⟨_, _, rfl⟩, .inr ⟨_, _, rfl⟩, (fun h => by cases h), ?_⟩
      cases r
      · simp at hif
        exact run_equal_of2 fun d => run_equalIn_iface_ptr_other w d hu hd hinfo hcomp hi hsz' hif ha hb
      · simp at hif
        subst hif
        exact run_equal_of2 fun d => run_equalIn_iface_ptr_same w d a' hu hd hinfo hcomp hi
  obtain ⟨c, d', hx, hy, hc, hd', hnil, hrun⟩ := key
  refine ⟨.bool (if neg then !r else r), w, ?_, .bool _, .refl w⟩
  have isc : ∀ {x : Operand} {x' : Opnd}, okO x x' = true → isC x' = true → (∃ u, x = .const u) ∨ ∃ pa, (a.eval x = .pointer pa) ∨ ∃ f, a.eval x = .func (.func f) #[] #[] := by
    intro x x' hok hc
    cases x with
    | tmp t => cases x' <;> simp [okO, isC] at hok hc
    | const u => exact .inl ⟨u, rfl⟩
    | global g => exact .inr ⟨_, .inl rfl⟩
    | func f => exact .inr ⟨none, .inr ⟨f, rfl⟩⟩
  have hg : (eqGuard (if neg = true then BinOp.neq else .eql) xt x y c d').run P w = .ok () w := by
    have hop : ((if neg = true then BinOp.neq else BinOp.eql) matches .eql | .neq) = true := by cases neg <;> rfl
    rcases hc with rfl | ⟨t1, v1, rfl⟩
    · rcases hd' with rfl | ⟨t2, v2, rfl⟩
      · rcases hnil rfl rfl with h | h
        · rcases isc h1 h with ⟨u, rfl⟩ | ⟨pa, h | ⟨f, h⟩⟩
          · cases neg <;> simp [eqGuard]
          · rw [hx] at h; cases h
          · rw [hx] at h; cases h
        · rcases isc h2 h with ⟨u, rfl⟩ | ⟨pa, h | ⟨f, h⟩⟩
          · cases neg <;> simp [eqGuard]
          · rw [hy] at h; cases h
          · rw [hy] at h; cases h
      · cases neg <;> simp [eqGuard]
    · cases neg <;> rcases hd' with rfl | ⟨t2, v2, rfl⟩ <;> simp [eqGuard]
  have hb : ∀ op : BinOp, op = (if neg = true then BinOp.neq else .eql) → (binOp op xt c d').run P w = .ok (.bool (if neg then !r else r)) w := by
    intro op hop
    rcases hc with rfl | ⟨t1, v1, rfl⟩ <;> rcases hd' with rfl | ⟨t2, v2, rfl⟩ <;> cases neg <;> simp at hop <;> subst hop <;> simp [binOp, hrun]
  simp [execOp, hx, hy, hg, hb]

end
end Go.AM
/- The operations on values, one by one: the simulation, 3. No condition. -/
namespace Go.AM
open Go.RowKit (Below)

section
variable {P : Program} {B0 : Nat} {w0 : World} {gl b0 : Nat} {okC : Nat → Code → ACode → Bool} {μ : Mu} {H : Heap} {w : World} {ρ : Env} {a : Act}

theorem okI_inv {t : TypeId} (h : okI P t = true) : ∃ k, P.underlying t = some (.int k) := by
  unfold okI at h; split at h <;> first | exact ⟨_, by assumption⟩ | contradiction
theorem okStr_inv {t : TypeId} (h : okStr P t = true) : P.underlying t = some .string := by
  unfold okStr at h; split at h <;> first | assumption | contradiction
theorem okS_inv {t : TypeId} {esz : Nat} (h : okS P t esz = true) : ∃ e, P.underlying t = some (.slice e) ∧ P.cellsOf e = esz ∧ ∃ d, P.underlying e = some d := by
  unfold okS at h; split at h <;> first | contradiction | skip
  simp [Option.isSome_iff_exists] at h
  exact ⟨_, by assumption, h.1, h.2⟩
theorem okA_inv {t : TypeId} {m esz : Nat} (h : okA P t m esz = true) : ∃ e, P.underlying t = some (.array m e) ∧ P.cellsOf e = esz ∧ ∃ d, P.underlying e = some d := by
  unfold okA at h; split at h <;> first | contradiction | skip
  simp [Option.isSome_iff_exists] at h
  obtain ⟨⟨rfl, h1⟩, h2⟩ := h
  exact ⟨_, by assumption, h1, h2⟩

theorem info_of_underlying {t : TypeId} {d : TypeDesc} (h : P.underlying t = some d) : ∃ i, P.info? t = some i := by
  unfold Program.underlying at h
  cases hi : P.info? t with
  | none => simp [hi] at h
  | some i => exact ⟨i, rfl⟩
theorem run_sizeOf {t : TypeId} {d : TypeDesc} (h : P.underlying t = some d) (w : World) : (sizeOf t).run P w = .ok (P.cellsOf t) w := by
  obtain ⟨i, hi⟩ := info_of_underlying h
  simp [sizeOf, typeInfo, hi, Program.cellsOf]
theorem run_sizeOf' {t : TypeId} {i : TypeInfo} (hi : P.info? t = some i) (w : World) : (sizeOf t).run P w = .ok (P.cellsOf t) w := by
  simp [sizeOf, typeInfo, hi, Program.cellsOf]

theorem isAggT_run {t : TypeId} {b : Bool} (h : isAggT P t = some b) (w : World) : (isAgg t).run P w = .ok b w := by
  unfold isAggT at h
  split at h <;> first | contradiction | skip
  all_goals cases h
  all_goals rename_i hu
  · simp [isAgg, run_underlying hu]
  · simp [isAgg, run_underlying hu]
  · rename_i d h1 h2
    simp only [isAgg, Sem.run_bind, run_underlying hu, Result.andThen_ok]
    cases d <;> first | rfl | exact absurd rfl (h1 _) | exact absurd rfl (h2 _ _)

theorem isAggT_und {t : TypeId} {b : Bool} (h : isAggT P t = some b) : ∃ d, P.underlying t = some d := by
  unfold isAggT at h
  split at h <;> first | contradiction | exact ⟨_, by assumption⟩

theorem part_run {t : TypeId} {n : Option Nat} (hok : okN P t n = true) {vs : List Value} {cs : Array Value} (hl : LR μ H vs cs.toList) {off : Nat} {v : Value} (h : AM.part vs off n = some v) (w : World) :
    ∃ c, (Go.part t cs off).run P w = .ok c w ∧ VR μ H v c := by
  cases n with
  | none =>
    simp only [okN, beq_iff_eq] at hok
    simp only [AM.part] at h
    obtain ⟨c, hc, hv⟩ := hl.get? h
    have hc' : cs[off]? = some c := by simpa using hc
    exact ⟨c, by simp [Go.part, isAggT_run hok, hc'], hv⟩
  | some k =>
    simp only [okN, Bool.and_eq_true, beq_iff_eq] at hok
    simp only [AM.part] at h
    split at h <;> try contradiction
    cases h
    obtain ⟨d, hd⟩ := isAggT_und hok.1
    refine ⟨.agg (cs.extract off (off + k)), by simp [Go.part, isAggT_run hok.1, run_sizeOf hd, hok.2], ?_⟩
    have := VR.mk_agg ((hl.drop off).take k)
    have e : (List.take k (List.drop off cs.toList)).toArray = cs.extract off (off + k) := by
      apply Array.toList_inj.1
      simp [Array.toList_extract, List.extract]
    rwa [e] at this

theorem eqFields_run (d : Nat) : ∀ (fs : List Field) (i : Nat) (xs ys : List Value) (cx cy : Array Value) (r : Bool), okFs P i fs = true → xs.length = fs.length → ys.length = fs.length →
    (∀ j v, xs[j]? = some v → ∃ c, cx[i + j]? = some c ∧ VR μ H v c) → (∀ j v, ys[j]? = some v → ∃ c, cy[i + j]? = some c ∧ VR μ H v c) → eqInts xs ys = some r →
    (Op.eqFields (d + 1) cx cy fs).run P w = .ok r w
  | [], i, xs, ys, cx, cy, r, _, hx, hy, _, _, h => by
    cases xs with
    | nil => cases ys with
      | nil => simp [eqInts] at h; subst h; simp [Op.eqFields]
      | cons => cases hy
    | cons => cases hx
  | f :: fs, i, xs, ys, cx, cy, r, hok, hx, hy, gx, gy, h => by
    cases xs with
    | nil => cases hx
    | cons x xs =>
    cases ys with
    | nil => cases hy
    | cons y ys =>
    simp only [okFs, Bool.and_eq_true, bne_iff_ne, beq_iff_eq] at hok
    obtain ⟨⟨⟨h1, h2⟩, h3⟩, h4⟩ := hok
    obtain ⟨k, hu⟩ := okI_inv h3
    obtain ⟨c1, hx0, v1⟩ := gx 0 x rfl
    obtain ⟨c2, hy0, v2⟩ := gy 0 y rfl
    unfold eqInts at h
    split at h <;> try contradiction
    rename_i m xs' n ys' e1 e2
    simp only [List.cons.injEq] at e1 e2
    obtain ⟨rfl, rfl⟩ := e1
    obtain ⟨rfl, rfl⟩ := e2
    obtain rfl := v1.int_inv
    obtain rfl := v2.int_inv
    have px : (Go.part f.type cx f.offset).run P w = .ok (.int .i64 m) w := by
      simp only [Nat.add_zero] at hx0
      simp [Go.part, isAgg, run_underlying hu, h2, hx0]
    have py : (Go.part f.type cy f.offset).run P w = .ok (.int .i64 n) w := by
      simp only [Nat.add_zero] at hy0
      simp [Go.part, isAgg, run_underlying hu, h2, hy0]
    have pe : (Op.equalIn (d + 1) f.type (.int .i64 m) (.int .i64 n)).run P w = .ok (m == n) w := run_equalIn_int w d f.type .i64 k m n hu
    have step : (Op.eqFields (d + 1) cx cy (f :: fs)).run P w = if (!(m == n)) = true then .ok false w else (Op.eqFields (d + 1) cx cy fs).run P w := by
      simp only [Op.eqFields, ne_eq, h1, not_false_eq_true, if_true, Sem.run_bind, px, py, pe, Result.andThen_ok, Sem.run_ite, Sem.run_pure]
    rw [step]
    split at h
    · rename_i he
      simp only [he, Bool.not_true, Bool.false_eq_true, if_false]
      refine eqFields_run d fs (i + 1) _ _ cx cy r h4 (by simpa using hx) (by simpa using hy) (fun j v hj => ?_) (fun j v hj => ?_) h
      · have := gx (j + 1) v (by simpa using hj)
        rwa [show i + (j + 1) = i + 1 + j by omega] at this
      · have := gy (j + 1) v (by simpa using hj)
        rwa [show i + (j + 1) = i + 1 + j by omega] at this
    · rename_i he
      simp only [he, Bool.not_false, if_true]
      cases h; rfl

theorem VR.ptr_inv {id off g : Nat} {c : Value} (h : VR μ H (.pointer (some ⟨id, off, some g⟩)) c) : ∃ b o, c = .pointer (some ⟨b, o, none⟩) ∧ okp H id g ∧ ∀ e vs, H.at id g = some (e, vs) → ∃ p, μ id = some p ∧ b = p.b ∧ o = p.o + off := by
  cases h; exact ⟨_, _, rfl, by assumption, by assumption⟩
theorem VR.slc_inv {id off g n x : Nat} {c : Value} (h : VR μ H (.slice (some ⟨id, off, some g⟩) n x) c) : ∃ b o k, c = .slice (some ⟨b, o, none⟩) n k ∧ okp H id g ∧ n ≤ k ∧ (k ≠ 0 → ∀ e vs, H.at id g = some (e, vs) → ∃ p, μ id = some p ∧ b = p.b ∧ o = p.o + off ∧ (x ≠ 0 → o + k * x ≤ p.n)) := by
  cases h; exact ⟨_, _, _, rfl, by assumption, by assumption, by assumption⟩

variable (hR : RH B0 w0 gl b0 okC μ H w) (hT : TR μ H ρ a.tmps)
include hR hT

theorem sim_eqs {o : Oper} {neg : Bool} {n : Nat} {x' y' : Opnd} {v : Value} (hok : okVal P o.op (.eqs neg n x' y') = true) (hv : AOp.val gl ρ H (.eqs neg n x' y') = some v) : SimV P μ H w a.eval o v := by
  obtain ⟨d, op', t, p, af, g⟩ := o
  cases op' <;> simp [okVal] at hok
  rename_i op' xt x y yt
  obtain ⟨⟨⟨⟨⟨rfl, h1⟩, h2⟩, h3⟩, h4⟩, h5⟩ := hok
  split at h5 <;> try contradiction
  rename_i fs hu
  simp at h5
  obtain ⟨hsz, hfs⟩ := h5
  simp only [AOp.val] at hv
  split at hv <;> try contradiction
  rename_i xa ya e1 e2
  split at hv <;> try contradiction
  rename_i hn
  split at hv <;> try contradiction
  rename_i r hr
  cases hv
  obtain ⟨cx, hcx, l1⟩ := (ev_sim h1 hR hT e1).of_agg
  obtain ⟨cy, hcy, l2⟩ := (ev_sim h2 hR hT e2).of_agg
  have hfo : P.fieldsOf xt = fs := by simp [Program.fieldsOf, hu]
  have he : (Op.equal xt (.agg cx) (.agg cy)).run P w = .ok r w := run_equal_of2 fun d => by
    rw [run_equalIn_struct w (d + 1) xt cx cy (by rw [hfo]; exact hu) h4, hfo]
    refine eqFields_run (μ := μ) (H := H) d fs.toList 0 xa.toList ya.toList cx cy r hfs (by simp [hn.1, hsz]) (by simp [hn.2, hsz]) (fun j v hj => ?_) (fun j v hj => ?_) hr
    · obtain ⟨c, hc, hv⟩ := l1.get? hj
      exact ⟨c, by simpa using hc, hv⟩
    · obtain ⟨c, hc, hv⟩ := l2.get? hj
      exact ⟨c, by simpa using hc, hv⟩
  refine ⟨.bool (if neg then !r else r), w, ?_, .bool _, .refl w⟩
  cases neg <;> simp [execOp, hcx, hcy, run_eqGuard_agg w _ xt x y cx cy h3, binOp, he]

theorem sim_un {o : Oper} {op : UnOp} {x' : Opnd} {v : Value} (hok : okVal P o.op (.un op x') = true) (hv : AOp.val gl ρ H (.un op x') = some v) : SimV P μ H w a.eval o v := by
  obtain ⟨d, op', t, p, af, g⟩ := o
  cases op' <;> simp [okVal] at hok
  obtain ⟨rfl, h1⟩ := hok
  simp only [AOp.val] at hv
  split at hv <;> try contradiction
  rename_i u e1
  have v1 := ev_sim h1 hR hT e1
  unfold unv at hv
  split at hv <;> try contradiction
  · cases hv
    exact ⟨_, w, by simp [execOp, v1.int_inv, Op.unary, Op.intArith], .int _ _, .refl w⟩
  · cases hv
    obtain ⟨y, e, hy⟩ := v1.float_inv
    exact ⟨.float .f64 (Op.negFloat .f64 y), w, by simp [execOp, e, Op.unary], .float (canon_neg hy), .refl w⟩
  · cases hv
    exact ⟨_, w, by simp [execOp, v1.bool_inv, Op.unary], .bool _, .refl w⟩

theorem sim_ext {o : Oper} {x' : Opnd} {i : Nat} {v : Value} (hok : okVal P o.op (.ext x' i) = true) (hv : AOp.val gl ρ H (.ext x' i) = some v) : SimV P μ H w a.eval o v := by
  obtain ⟨d, op', t, p, af, g⟩ := o
  cases op' <;> simp [okVal] at hok
  obtain ⟨h1, rfl⟩ := hok
  simp only [AOp.val] at hv
  split at hv <;> try contradiction
  rename_i vs e1
  have hne : vs ≠ #[] := by rintro rfl; simp at hv
  obtain ⟨ys, e, hl⟩ := (ev_sim h1 hR hT e1).of_tuple hne
  obtain ⟨c, hc, hvr⟩ := hl.get? (by simpa using hv)
  have hc' := (by simpa using hc : ys[_]? = some c)
  exact ⟨c, w, by simp [execOp, e, Instr.extract, hc'], hvr, .refl w⟩

theorem sim_fld {o : Oper} {off : Nat} {n : Option Nat} {x' : Opnd} {v : Value} (hok : okVal P o.op (.fld off n x') = true) (hv : AOp.val gl ρ H (.fld off n x') = some v) : SimV P μ H w a.eval o v := by
  obtain ⟨d, op', t, p, af, g⟩ := o
  cases op' <;> simp [okVal] at hok
  obtain ⟨h1, h2⟩ := hok
  split at h2 <;> try contradiction
  rename_i fs hu
  split at h2 <;> try contradiction
  rename_i fl hf
  simp at h2
  obtain ⟨rfl, h2⟩ := h2
  simp only [AOp.val] at hv
  split at hv <;> try contradiction
  rename_i cs e1
  obtain ⟨ys, e, hl⟩ := (ev_sim h1 hR hT e1).of_agg
  obtain ⟨c, hc, hvr⟩ := part_run h2 hl hv w
  exact ⟨c, w, by simp [execOp, e, Instr.field, run_underlying hu, hf, asAgg, hc], hvr, .refl w⟩

theorem sim_ixs {o : Oper} {x' i' : Opnd} {v : Value} (hok : okVal P o.op (.ixs x' i') = true) (hv : AOp.val gl ρ H (.ixs x' i') = some v) : SimV P μ H w a.eval o v := by
  obtain ⟨d, op', t, p, af, g⟩ := o
  cases op' <;> simp [okVal] at hok
  obtain ⟨⟨h1, h2⟩, h3⟩ := hok
  have hu := okStr_inv h3
  simp only [AOp.val] at hv
  split at hv <;> try contradiction
  rename_i s i e1 e2
  split at hv <;> try contradiction
  rename_i h0
  split at hv <;> try contradiction
  rename_i b hb
  cases hv
  obtain ⟨k, ei⟩ := asI_inv h2 hR hT e2
  have hb' : s[i.toNat]? = some b := by
    have : s[i.toNat]? = s.data.toList[i.toNat]? := by
      rw [getElem?_def, Array.getElem?_toList, getElem?_def]
      rfl
    rw [this]; exact hb
  exact ⟨_, w, by simp [execOp, (ev_sim h1 hR hT e1).string_inv, ei, Instr.index, asIntOf, run_underlying hu, h0, hb'], .int _ _, .refl w⟩

theorem sim_ixa {o : Oper} {m esz : Nat} {n : Option Nat} {x' i' : Opnd} {v : Value} (hok : okVal P o.op (.ixa m esz n x' i') = true) (hv : AOp.val gl ρ H (.ixa m esz n x' i') = some v) : SimV P μ H w a.eval o v := by
  obtain ⟨d, op', t, p, af, g⟩ := o
  cases op' <;> simp [okVal] at hok
  obtain ⟨⟨⟨h1, h2⟩, h3⟩, h4⟩ := hok
  obtain ⟨e, hu, he, de, hde⟩ := okA_inv h3
  rw [hu] at h4
  simp only at h4
  simp only [AOp.val] at hv
  split at hv <;> try contradiction
  rename_i cs i e1 e2
  split at hv <;> try contradiction
  rename_i h0
  obtain ⟨k, ei⟩ := asI_inv h2 hR hT e2
  obtain ⟨ys, ex, hl⟩ := (ev_sim h1 hR hT e1).of_agg
  obtain ⟨c, hc, hvr⟩ := part_run h4 hl hv w
  exact ⟨c, w, by simp [execOp, ex, ei, Instr.index, asIntOf, run_underlying hu, h0, run_sizeOf hde, he, hc], hvr, .refl w⟩

end
end Go.AM
/- The operations on values, one by one: the simulation, 4. No condition. -/
namespace Go.AM
open Go.RowKit (Below)

section
variable {P : Program} {B0 : Nat} {w0 : World} {gl b0 : Nat} {okC : Nat → Code → ACode → Bool} {μ : Mu} {H : Heap} {w : World} {ρ : Env} {a : Act}

theorem VR.ptr_add {id o g b o' : Nat} (k : Nat) (h : VR μ H (AM.ptr id o g) (.pointer (some ⟨b, o', none⟩))) : VR μ H (AM.ptr id (o + k) g) (.pointer (some ⟨b, o' + k, none⟩)) := by
  obtain ⟨b1, o1, e, h1, h2⟩ := VR.ptr_inv h
  cases e
  refine .ptr h1 fun e vs ha => ?_
  obtain ⟨p, hp, hb, ho⟩ := h2 e vs ha
  exact ⟨p, hp, hb, by omega⟩

theorem okOs1 {xs : List Operand} {y : Opnd} (h : okOs xs [y] = true) : ∃ x, xs = [x] ∧ okO x y = true := by
  cases xs with
  | nil => simp [okOs] at h
  | cons x xs => cases xs <;> simp [okOs] at h; exact ⟨x, rfl, h⟩
theorem okOs2 {xs : List Operand} {y z : Opnd} (h : okOs xs [y, z] = true) : ∃ x x', xs = [x, x'] ∧ okO x y = true ∧ okO x' z = true := by
  cases xs with
  | nil => simp [okOs] at h
  | cons x xs => cases xs with
    | nil => simp [okOs] at h
    | cons x' xs => cases xs <;> simp [okOs] at h; exact ⟨x, x', rfl, h⟩
theorem arr_of_list {α : Type} {xs : Array α} {l : List α} (h : xs.toList = l) : xs = l.toArray := by subst h; simp

/-! ### Cells -/
theorem VR.oneCell {v c : Value} (h : VR μ H v c) (ho : AM.oneCell v = true) : c.oneCell' = true ∧ c.cells = #[c] ∧ Value.list v = [v] := by
  cases h <;> first | (simp [AM.oneCell] at ho; done) | exact ⟨rfl, rfl, rfl⟩
theorem VR.list {v c : Value} (h : VR μ H v c) (ho : (Value.list v).all AM.oneCell = true) : LR μ H (Value.list v) c.cells.toList := by
  by_cases hv : AM.oneCell v = true
  · obtain ⟨_, h2, h3⟩ := h.oneCell hv
    rw [h2, h3]; exact .cons h .nil
  · cases v <;> simp [AM.oneCell] at hv
    · obtain ⟨ys, rfl, hl⟩ := h.of_agg
      exact hl
    · simp [Value.list, Value.cells, AM.oneCell] at ho
theorem LR.all_one {xs ys : List Value} (h : LR μ H xs ys) (ho : xs.all AM.oneCell = true) : ∀ y ∈ ys, y.oneCell' = true := by
  induction h with
  | nil => simp
  | cons h _ ih =>
    simp at ho
    intro y hy
    cases hy with
    | head => exact (h.oneCell ho.1).1
    | tail _ hy => exact ih (by simpa using ho.2) y hy

theorem setIf_toList (off : Nat) : ∀ (l : List Value) (k : Nat) (cs : Array Value), ((l.zipIdx k).foldl (fun cs (x : Value × Nat) => cs.setIfInBounds (off + x.2) x.1) cs).toList = setAll cs.toList (off + k) l
  | [], _, _ => rfl
  | x :: l, k, cs => by
    simp only [List.zipIdx_cons, List.foldl_cons, setAll]
    rw [setIf_toList off l (k + 1)]
    simp [Nat.add_assoc]

/-- The parts of a build: place, size, abstract value; place, value. -/
inductive PR (μ : Mu) (H : Heap) (place : Nat → Option (Nat × Nat)) : List (Nat × Nat × Value) → List (Nat × Value) → Prop
  | nil : PR μ H place [] []
  | cons {off n i : Nat} {v c : Value} {ps : List (Nat × Nat × Value)} {cs : List (Nat × Value)} (hp : place i = some (off, n)) (h : VR μ H v c) (t : PR μ H place ps cs) : PR μ H place ((off, n, v) :: ps) ((i, c) :: cs)

theorem setAll_length : ∀ (x vs : List Value) (o : Nat), (setAll vs o x).length = vs.length
  | [], _, _ => rfl
  | x :: l, vs, o => by rw [setAll, setAll_length l]; simp

theorem fill_sim {place : Nat → Option (Nat × Nat)} {ps : List (Nat × Nat × Value)} {qs : List (Nat × Value)} (hp : PR μ H place ps qs) : ∀ {vs : List Value} {cs : Array Value} {vs' : List Value}, LR μ H vs cs.toList → fillAt vs ps = some vs' →
    ∃ cs', Instr.fill place cs qs = some cs' ∧ LR μ H vs' cs'.toList := by
  induction hp with
  | nil => intro vs cs vs' hl h; cases h; exact ⟨cs, rfl, hl⟩
  | @cons off n i v c ps' qs' hp hv _ ih =>
    intro vs cs vs' hl h
    simp only [fillAt] at h
    split at h <;> try contradiction
    rename_i hc
    obtain ⟨h1, h2, h3⟩ := hc
    have hvl := hv.list (by simpa using h2)
    have e1 := hvl.length
    have e2 := hl.length
    simp only [Instr.fill, hp]
    rw [if_neg (by simp at e1 e2 ⊢; omega)]
    refine ih ?_ h
    rw [← Array.foldl_toList, Array.toList_zipIdx]
    have := setIf_toList off c.cells.toList 0 cs
    rw [this]
    exact LR.setAll hvl hl off

theorem okZ_inv {t : TypeId} {zero : List Value} (h : okZ P t zero = true) : ∃ i z, P.info? t = some i ∧ i.zero = some z ∧ z.cells.toList = zero ∧ ∀ μ H, LR μ H zero z.cells.toList := by
  unfold okZ at h
  split at h <;> try contradiction
  rename_i z hz
  cases hi : P.info? t with
  | none => simp [hi] at hz
  | some i =>
    simp [hi] at hz
    simp only [Bool.and_eq_true] at h
    have e := lbeq_eq h.1
    refine ⟨i, z, rfl, hz, e, fun μ H => ?_⟩
    rw [e]
    have h2 := h.2
    clear h e
    induction zero with
    | nil => exact .nil
    | cons x xs ih => simp at h2; exact .cons (okV_VR 2 x h2.1) (ih (by simpa using h2.2))

theorem run_zero {t : TypeId} {i : TypeInfo} {z : Value} (hi : P.info? t = some i) (hz : i.zero = some z) (w : World) : (zeroValue t).run P w = .ok z w := by
  simp [zeroValue, typeInfo, hi, hz]

theorem okPs_PR {fs : Array Field} (hR : RH B0 w0 gl b0 okC μ H w) (hT : TR μ H ρ a.tmps) : ∀ (ps : List (Nat × Operand)) (qs : List (Nat × Nat × Opnd)) {vs : List (Nat × Nat × Value)}, okPs P fs ps qs = true → evps ρ qs = some vs →
    PR μ H (fun i => (fs[i]?).map fun f => (f.offset, P.cellsOf f.type)) vs (ps.map fun (i, x) => (i, a.eval x))
  | [], [], vs, _, h => by simp [evps] at h; subst h; exact .nil
  | [], _ :: _, _, h, _ => by simp [okPs] at h
  | _ :: _, [], _, h, _ => by simp [okPs] at h
  | (i, x) :: ps, (off, n, y) :: qs, vs, hok, h => by
    simp only [okPs, Bool.and_eq_true] at hok
    obtain ⟨⟨h1, h2⟩, h3⟩ := hok
    split at h2 <;> try contradiction
    rename_i f hf
    simp at h2
    obtain ⟨rfl, rfl⟩ := h2
    simp only [evps] at h
    split at h <;> try contradiction
    rename_i v l e1 e2
    cases h
    exact .cons (by simp [hf]) (ev_sim h1 hR hT e1) (okPs_PR hR hT ps qs h3 e2)

theorem okQs_PR {esz : Nat} (hR : RH B0 w0 gl b0 okC μ H w) (hT : TR μ H ρ a.tmps) : ∀ (ps : List (Nat × Operand)) (qs : List (Nat × Nat × Opnd)) {vs : List (Nat × Nat × Value)}, okQs esz ps qs = true → evps ρ qs = some vs →
    PR μ H (fun i => some (i * esz, esz)) vs (ps.map fun (i, x) => (i, a.eval x))
  | [], [], vs, _, h => by simp [evps] at h; subst h; exact .nil
  | [], _ :: _, _, h, _ => by simp [okQs] at h
  | _ :: _, [], _, h, _ => by simp [okQs] at h
  | (i, x) :: ps, (off, n, y) :: qs, vs, hok, h => by
    simp only [okQs, Bool.and_eq_true, beq_iff_eq] at hok
    obtain ⟨⟨⟨h1, rfl⟩, rfl⟩, h3⟩ := hok
    simp only [evps] at h
    split at h <;> try contradiction
    rename_i v l e1 e2
    cases h
    exact .cons rfl (ev_sim h1 hR hT e1) (okQs_PR hR hT ps qs h3 e2)

theorem mapM_places : ∀ (fs : List Field) (w : World), (∀ f ∈ fs, (P.info? f.type).isSome = true) → (fs.mapM fun f => (do pure (f.offset, ← sizeOf f.type) : Sem (Nat × Nat))).run P w = .ok (fs.map fun f => (f.offset, P.cellsOf f.type)) w
  | [], w, _ => by simp
  | f :: fs, w, h => by
    obtain ⟨i, hi⟩ := Option.isSome_iff_exists.1 (h f (by simp))
    have ih := mapM_places fs w fun g hg => h g (by simp [hg])
    simp only [List.mapM_cons, Sem.run_bind, run_sizeOf' hi, Result.andThen_ok, Sem.run_pure, ih, List.map_cons]

/-! ### Memory that is read -/
theorem LR.ofCells {vs : List Value} {cs : Array Value} {o : Nat} (hle : o + vs.length ≤ cs.size) (h : ∀ j v, vs[j]? = some v → ∃ c, cs[o + j]? = some c ∧ VR μ H v c) : LR μ H vs ((cs.toList.drop o).take vs.length) := by
  refine LR.of (by simp; omega) fun i => ?_
  by_cases hi : i < vs.length
  · obtain ⟨c, hc, hv⟩ := h i vs[i] (by simp [hi])
    have e1 : vs.getD i AM.undf = vs[i] := by simp [List.getD, hi]
    have e2 : ((cs.toList.drop o).take vs.length).getD i AM.undf = c := by
      simp [List.getD, List.getElem?_take, hi, List.getElem?_drop, hc]
    rw [e1, e2]; exact hv
  · have : vs.getD i AM.undf = AM.undf := by simp [List.getD, hi]
    rw [this]; exact .undf _

theorem LR.ofSub {vs : List Value} {cs : Array Value} {o off n : Nat} (hle : o + vs.length ≤ cs.size) (hn : off + n ≤ vs.length) (h : ∀ j v, vs[j]? = some v → ∃ c, cs[o + j]? = some c ∧ VR μ H v c) :
    LR μ H ((vs.drop off).take n) ((cs.toList.drop (o + off)).take n) := by
  have := ((LR.ofCells hle h).drop off).take n
  have e : (List.take n (List.drop off (List.take vs.length (List.drop o cs.toList)))) = ((cs.toList.drop (o + off)).take n) := by
    rw [List.drop_take, List.take_take, List.drop_drop]
    congr 1
    omega
  rwa [e] at this

theorem run_loadCells_block {b o n : Nat} {cs : Array Value} {el : TypeId} {fr : Nat × Nat} (hb : w.heap[b]? = some (.cells cs el fr)) (hn : o + n ≤ cs.size) : (loadCells ⟨b, o, none⟩ n).run P w = .ok ((cs.toList.drop o).take n).toArray w := by
  have hl : ((cs.toList.drop o).take n).length = n := by simp; omega
  have := run_loadCells_list (P := P) w ⟨b, o, none⟩ ((cs.toList.drop o).take n) fun j v hj => by
    rw [Addr.add_lit]
    rw [List.getElem?_take] at hj
    split at hj <;> try contradiction
    simp only [List.getElem?_drop, Array.getElem?_toList] at hj
    simp [World.cell?, hb, hj]
  rwa [hl] at this

theorem run_loadVar {t : TypeId} {n : Option Nat} (hok : okN P t n = true) {b o off : Nat} {cs : Array Value} {el : TypeId} {fr : Nat × Nat} (hb : w.heap[b]? = some (.cells cs el fr)) {vs : List Value} (hle : o + vs.length ≤ cs.size)
    (h : ∀ j v, vs[j]? = some v → ∃ c, cs[o + j]? = some c ∧ VR μ H v c) {v : Value} (hv : AM.part vs off n = some v) : ∃ c, (loadVar t ⟨b, o + off, none⟩).run P w = .ok c w ∧ VR μ H v c := by
  cases n with
  | none =>
    simp only [okN, beq_iff_eq] at hok
    simp only [AM.part] at hv
    obtain ⟨c, hc, hv⟩ := h off v hv
    exact ⟨c, by simp [loadVar, isAggT_run hok, World.cell?, hb, hc], hv⟩
  | some k =>
    simp only [okN, Bool.and_eq_true, beq_iff_eq] at hok
    simp only [AM.part] at hv
    split at hv <;> try contradiction
    rename_i hk
    cases hv
    obtain ⟨d, hd⟩ := isAggT_und hok.1
    exact ⟨_, by simp only [loadVar, Sem.run_bind, isAggT_run hok.1, Result.andThen_ok, if_true, run_sizeOf hd, hok.2, run_loadCells_block hb (show o + off + k ≤ cs.size by omega), Sem.run_pure], VR.mk_agg (LR.ofSub hle hk h)⟩

theorem findNow_none {k : Int} : ∀ (l : List MapEntry) (i : Nat), (∀ e ∈ l, ∃ k, e.key = .int .i64 k) → (∀ e ∈ l, e.key ≠ .int .i64 k) → Instr.findNow (.int .i64) (.int .i64 k) l i = some none
  | [], _, _, _ => rfl
  | e :: l, i, h, hn => by
    obtain ⟨k', hk'⟩ := h e (by simp)
    have : (k == k') = false := beq_false_of_ne fun q => hn e (by simp) (by rw [hk', q])
    simp [Instr.findNow, hk', Instr.sameNow, this]
    exact findNow_none l (i + 1) (fun e he => h e (by simp [he])) fun e he => hn e (by simp [he])
theorem findNow_some {k : Int} : ∀ (l : List MapEntry) (i n : Nat) (e : MapEntry), (∀ e ∈ l, ∃ k, e.key = .int .i64 k) → l[n]? = some e → e.key = .int .i64 k → (∀ (j : Nat) (e' : MapEntry), j < n → l[j]? = some e' → e'.key ≠ .int .i64 k) →
    Instr.findNow (.int .i64) (.int .i64 k) l i = some (some (i + n, e.val))
  | [], _, _, _, _, h, _, _ => by simp at h
  | e :: l, i, n, x, h, hx, hk, hn => by
    cases n with
    | zero =>
      simp at hx; subst hx
      simp [Instr.findNow, hk, Instr.sameNow]
    | succ n =>
      obtain ⟨k', hk'⟩ := h e (by simp)
      have : (k == k') = false := beq_false_of_ne fun q => hn 0 e (by omega) rfl (by rw [hk', q])
      simp [Instr.findNow, hk', Instr.sameNow, this]
      rw [findNow_some l (i + 1) n x (fun e he => h e (by simp [he])) (by simpa using hx) hk fun j e' hj he' => hn (j + 1) e' (by omega) (by simpa using he')]
      simp; omega

theorem cut_run {b : Bool} {m c : Nat} (hmc : m ≤ c) {lo hi : Option Operand} {lo' hi' : Option Opnd} (hlo : okOo lo lo' = true) (hhi : okOo hi hi' = true) (hR : RH B0 w0 gl b0 okC μ H w) (hT : TR μ H ρ a.tmps) {l h : Nat}
    (hc : cut m (lo'.map (ev ρ)) (hi'.map (ev ρ)) = some (l, h)) : (Instr.sliceBounds b m c (lo.map a.eval) (hi.map a.eval) none).run P w = .ok (l, h, c) w ∧ l ≤ h ∧ h ≤ m := by
  unfold cut at hc
  split at hc <;> try contradiction
  rename_i h1 hh
  split at hc <;> try contradiction
  rename_i l1 hl
  cases hc
  have kh : h ≤ m ∧ ((hi = none ∧ h = m) ∨ ∃ x k, hi = some x ∧ a.eval x = .int k (h : Int)) := by
    cases hi with
    | none =>
      cases hi' with
      | none => simp at hh; subst hh; exact ⟨Nat.le_refl _, .inl ⟨rfl, rfl⟩⟩
      | some => simp [okOo] at hhi
    | some x =>
      cases hi' with
      | none => simp [okOo] at hhi
      | some y =>
        simp only [Option.map] at hh
        split at hh <;> try contradiction
        rename_i i hi
        split at hh <;> try contradiction
        rename_i hi2
        cases hh
        obtain ⟨k, e⟩ := asI_inv (by simpa [okOo] using hhi) hR hT hi
        exact ⟨by omega, .inr ⟨x, k, rfl, by rw [e]; congr 1; omega⟩⟩
  have kl : l ≤ h ∧ ((lo = none ∧ l = 0) ∨ ∃ x k, lo = some x ∧ a.eval x = .int k (l : Int)) := by
    cases lo with
    | none =>
      cases lo' with
      | none => simp at hl; subst hl; exact ⟨Nat.zero_le _, .inl ⟨rfl, rfl⟩⟩
      | some => simp [okOo] at hlo
    | some x =>
      cases lo' with
      | none => simp [okOo] at hlo
      | some y =>
        simp only [Option.map] at hl
        split at hl <;> try contradiction
        rename_i i hi
        split at hl <;> try contradiction
        rename_i hi2
        cases hl
        obtain ⟨k, e⟩ := asI_inv (by simpa [okOo] using hlo) hR hT hi
        exact ⟨by omega, .inr ⟨x, k, rfl, by rw [e]; congr 1; omega⟩⟩
  refine ⟨?_, kl.1, kh.1⟩
  obtain ⟨a1, kh⟩ := kh
  obtain ⟨a2, kl⟩ := kl
  rcases kh with ⟨rfl, rfl⟩ | ⟨x, k, rfl, ex⟩ <;> rcases kl with ⟨rfl, rfl⟩ | ⟨y, k', rfl, ey⟩ <;>
    simp [Instr.sliceBounds, *, run_sliceBound, Nat.le_trans a1 hmc] <;> (try (cases b <;> simp [run_sliceBound, Nat.le_trans a1 hmc, *]))
end
end Go.AM
/- The operations on values, one by one: the simulation, 5. No condition. -/
namespace Go.AM
open Go.RowKit (Below)

section
variable {P : Program} {B0 : Nat} {w0 : World} {gl b0 : Nat} {okC : Nat → Code → ACode → Bool} {μ : Mu} {H : Heap} {w : World} {ρ : Env} {a : Act}
theorem run_real (ts : Array TypeId) (t : TypeId) (k : FloatKind) (x y : Nat) : (Builtin.real_ ts t #[.complex k x y]).run P w = .ok (.float k x) w := rfl
theorem run_imag (ts : Array TypeId) (t : TypeId) (k : FloatKind) (x y : Nat) : (Builtin.imag_ ts t #[.complex k x y]).run P w = .ok (.float k y) w := rfl
theorem run_complex (ts : Array TypeId) (t : TypeId) (x y : Nat) : (Builtin.complex_ ts t #[.float .f64 x, .float .f64 y]).run P w = .ok (.complex .f64 x y) w := rfl

theorem call_args1 {args : Array Operand} {x' : Opnd} (h : okOs args.toList [x'] = true) : ∃ x, args = #[x] ∧ okO x x' = true := by
  obtain ⟨x, hx, h1⟩ := okOs1 h
  exact ⟨x, arr_of_list hx, h1⟩
theorem call_args2 {args : Array Operand} {x' y' : Opnd} (h : okOs args.toList [x', y'] = true) : ∃ x y, args = #[x, y] ∧ okO x x' = true ∧ okO y y' = true := by
  obtain ⟨x, y, hx, h1⟩ := okOs2 h
  exact ⟨x, y, arr_of_list hx, h1⟩

theorem bytes_LR : ∀ (vs : List Value) (cs : List Value) (l : List UInt8), LR μ H vs cs → bytesOf vs = some l → ∃ ns : List Int, cs = ns.map (Value.int .u8) ∧ l = ns.map fun n => UInt8.ofNat n.toNat := by
  intro vs cs l h
  induction h generalizing l with
  | nil => intro h; simp [bytesOf] at h; subst h; exact ⟨[], rfl, rfl⟩
  | @cons x y xs ys hv t ih =>
    intro h
    cases x with
    | int k n =>
      cases k <;> simp [bytesOf] at h
      split at h <;> try contradiction
      rename_i l' hl'
      cases h
      obtain ⟨ns, rfl, rfl⟩ := ih l' hl'
      exact ⟨n :: ns, by rw [hv.int_inv]; rfl, rfl⟩
    | _ => simp [bytesOf] at h

theorem foldl_push : ∀ (ns : List Int) (s : ByteArray), ns.foldl (fun r n => r.push (UInt8.ofNat n.toNat)) s = ⟨s.data ++ (ns.map fun n => UInt8.ofNat n.toNat).toArray⟩
  | [], s => by simp
  | n :: ns, s => by
    rw [List.foldl_cons, foldl_push ns]
    congr 1
    apply Array.toList_inj.1
    simp [ByteArray.push]

variable (hR : RH B0 w0 gl b0 okC μ H w) (hT : TR μ H ρ a.tmps)
include hR hT

theorem sim_fa {o : Oper} {off : Nat} {x' : Opnd} {v : Value} (hok : okVal P o.op (.fa off x') = true) (hv : AOp.val gl ρ H (.fa off x') = some v) : SimV P μ H w a.eval o v := by
  obtain ⟨d, op', t, p, af, g⟩ := o
  cases op' <;> simp [okVal] at hok
  obtain ⟨h1, h2⟩ := hok
  split at h2 <;> try contradiction
  rename_i fs hu
  split at h2 <;> try contradiction
  rename_i fl hf
  simp at h2
  obtain ⟨⟨rfl, hne⟩, hi⟩ := h2
  obtain ⟨i, hi⟩ := Option.isSome_iff_exists.1 hi
  simp only [AOp.val] at hv
  split at hv <;> try contradiction
  rename_i id o g e1
  cases hv
  have v1 := ev_sim h1 hR hT e1
  obtain ⟨b, o', e, _, _⟩ := v1.ptr_inv
  rw [e] at v1
  exact ⟨_, w, by simp [execOp, e, Instr.fieldAt, run_underlying hu, hf, Instr.sureAddr, fieldPlace, run_sizeOf' hi, hne, Addr.add_lit], VR.ptr_add _ v1, .refl w⟩

theorem sim_iaa {o : Oper} {m esz : Nat} {x' i' : Opnd} {v : Value} (hok : okVal P o.op (.iaa m esz x' i') = true) (hv : AOp.val gl ρ H (.iaa m esz x' i') = some v) : SimV P μ H w a.eval o v := by
  obtain ⟨d, op', t, p, af, g⟩ := o
  cases op' <;> simp [okVal] at hok
  obtain ⟨⟨h1, h2⟩, h3⟩ := hok
  obtain ⟨e, hu, he, de, hde⟩ := okA_inv h3
  simp only [AOp.val] at hv
  split at hv <;> try contradiction
  rename_i id o g i e1 e2
  split at hv <;> try contradiction
  rename_i h0
  cases hv
  obtain ⟨k, ei⟩ := asI_inv h2 hR hT e2
  have v1 := ev_sim h1 hR hT e1
  obtain ⟨b, o', ex, _, _⟩ := v1.ptr_inv
  rw [ex] at v1
  refine ⟨_, w, ?_, VR.ptr_add (i.toNat * esz) v1, .refl w⟩
  simp [execOp, ex, ei, Instr.indexAt, asIntOf, run_underlying hu, Instr.sureAddr, h0, run_sizeOf hde, he, Addr.add_lit]

theorem sim_ias {o : Oper} {esz : Nat} {x' i' : Opnd} {v : Value} (hok : okVal P o.op (.ias esz x' i') = true) (hv : AOp.val gl ρ H (.ias esz x' i') = some v) : SimV P μ H w a.eval o v := by
  obtain ⟨d, op', t, p, af, g⟩ := o
  cases op' <;> simp [okVal] at hok
  obtain ⟨⟨h1, h2⟩, h3⟩ := hok
  obtain ⟨e, hu, he, de, hde⟩ := okS_inv h3
  simp only [AOp.val] at hv
  split at hv <;> try contradiction
  rename_i id o g m c i e1 e2
  split at hv <;> try contradiction
  rename_i h0
  cases hv
  obtain ⟨k, ei⟩ := asI_inv h2 hR hT e2
  have v1 := ev_sim h1 hR hT e1
  obtain ⟨b, o', k', ex, q1, q2, q3⟩ := v1.slc_inv
  refine ⟨_, w, by simp [execOp, ex, ei, Instr.indexAt, asIntOf, run_underlying hu, h0, run_sizeOf hde, he, Addr.add_lit]; rfl, ?_, .refl w⟩
  refine .ptr q1 fun e vs ha => ?_
  obtain ⟨p, hp, hb, ho, _⟩ := q3 (by omega) e vs ha
  exact ⟨p, hp, hb, by omega⟩

theorem sim_mk {o : Oper} {zero : List Value} {ps : List (Nat × Nat × Opnd)} {v : Value} (hok : okVal P o.op (.mk zero ps) = true) (hv : AOp.val gl ρ H (.mk zero ps) = some v) : SimV P μ H w a.eval o v := by
  obtain ⟨d, op', t, p, af, g⟩ := o
  cases op' <;> simp [okVal] at hok
  rename_i t qs
  obtain ⟨h1, h2⟩ := hok
  obtain ⟨i, z, hi, hz, rfl, hl⟩ := okZ_inv h1
  simp only [AOp.val] at hv
  split at hv <;> try contradiction
  rename_i vps e1
  split at hv <;> try contradiction
  rename_i cs hf
  cases hv
  split at h2 <;> try contradiction
  · rename_i fs hu
    simp only [Bool.and_eq_true] at h2
    have PRel := okPs_PR hR hT _ _ h2.1 e1
    obtain ⟨cs', hc, hl'⟩ := fill_sim PRel (hl μ H) hf
    have hm : ((fs.mapM fun f => do pure (f.offset, ← sizeOf f.type) : Sem (Array (Nat × Nat))).run P w) = .ok (fs.map fun (f : Field) => (f.offset, P.cellsOf f.type)) w := by
      rw [Array.mapM_eq_mapM_toList, Sem.run_map, mapM_places fs.toList w fun f hf => by have := Array.all_eq_true'.1 h2.2 f (by simpa using hf); simpa using this]
      simp only [Result.andThen_ok]
      congr 1
      apply Array.toList_inj.1
      simp
    have hpl : ((fs.map fun (f : Field) => (f.offset, P.cellsOf f.type))[·]?) = (fun (i : Nat) => (fs[i]?).map fun (f : Field) => (f.offset, P.cellsOf f.type)) := by
      funext i; simp
    refine ⟨.agg cs', w, ?_, ?_, .refl w⟩
    · simp only [execOp, Instr.build, Sem.run_bind, run_zero hi hz, Result.andThen_ok, run_underlying hu, hm, hpl, Array.toList_map, hc, Sem.run_pure]
    · have := VR.mk_agg hl'
      simpa using this
  · rename_i m e hu
    simp only [Bool.and_eq_true] at h2
    obtain ⟨j, hj⟩ := Option.isSome_iff_exists.1 h2.2
    have PRel := okQs_PR hR hT _ _ h2.1 e1
    obtain ⟨cs', hc, hl'⟩ := fill_sim PRel (hl μ H) hf
    refine ⟨.agg cs', w, ?_, ?_, .refl w⟩
    · simp only [execOp, Instr.build, Sem.run_bind, run_zero hi hz, Result.andThen_ok, run_underlying hu, run_sizeOf' hj, Array.toList_map, hc, Sem.run_pure]
    · have := VR.mk_agg hl'
      simpa using this

theorem sim_mkf {o : Oper} {f' : Nat} {cs : List Opnd} {v : Value} (hok : okVal P o.op (.mkf f' cs) = true) (hv : AOp.val gl ρ H (.mkf f' cs) = some v) : SimV P μ H w a.eval o v := by
  obtain ⟨d, op', t, p, af, g⟩ := o
  cases op' <;> simp only [okVal, Bool.false_eq_true] at hok
  rename_i fn first caps
  cases fn <;> simp [okVal] at hok
  rename_i f
  obtain ⟨⟨hfe, hf⟩, h2⟩ := hok
  subst hfe
  simp only [AOp.val] at hv
  split at hv <;> try contradiction
  rename_i vs e1
  cases hv
  have l1 := evs_sim h2 hR hT e1
  refine ⟨.func (.func f) (first.map a.eval) (caps.map a.eval), w, rfl, ?_, .refl w⟩
  have := VR.mk_func (μ := μ) (H := H) f .nil l1
  have e : (List.map a.eval caps.toList).toArray = caps.map a.eval := by apply Array.toList_inj.1; simp
  rw [e] at this
  simpa [hf] using this

theorem sim_mki {o : Oper} {t' : Nat} {x' : Opnd} {v : Value} (hok : okVal P o.op (.mki t' x') = true) (hv : AOp.val gl ρ H (.mki t' x') = some v) : SimV P μ H w a.eval o v := by
  obtain ⟨d, op', t, p, af, g⟩ := o
  cases op' <;> simp [okVal] at hok
  obtain ⟨⟨rfl, h1⟩, h2⟩ := hok
  simp only [AOp.val] at hv
  split at hv <;> try contradiction
  rename_i u e1
  cases hv
  refine ⟨_, w, ?_, .iface _ (ev_sim h1 hR hT e1), .refl w⟩
  split at h2 <;> try contradiction
  rename_i d' h3 h4
  simp only [execOp, Instr.makeInterface, Sem.run_bind, run_underlying h4, Result.andThen_ok]
  cases d' <;> first | rfl | exact absurd rfl (h3 _)

theorem sim_ci {o : Oper} {k : IntKind} {x' : Opnd} {v : Value} (hok : okVal P o.op (.ci k x') = true) (hv : AOp.val gl ρ H (.ci k x') = some v) : SimV P μ H w a.eval o v := by
  obtain ⟨d, op', t, p, af, g⟩ := o
  cases op' <;> simp [okVal] at hok
  obtain ⟨⟨h1, h2⟩, h3⟩ := hok
  obtain ⟨k2, hs⟩ := okI_inv h2
  split at h3 <;> try contradiction
  rename_i k' hd
  simp at h3; subst h3
  simp only [AOp.val] at hv
  split at hv <;> try contradiction
  rename_i k3 n e1
  cases hv
  exact ⟨_, w, by simp [execOp, (ev_sim h1 hR hT e1).int_inv, convert, run_underlying hs, run_underlying hd, Conv.intToInt], .int _ _, .refl w⟩

theorem sim_cf {o : Oper} {x' : Opnd} {v : Value} (hok : okVal P o.op (.cf x') = true) (hv : AOp.val gl ρ H (.cf x') = some v) : SimV P μ H w a.eval o v := by
  obtain ⟨d, op', t, p, af, g⟩ := o
  cases op' <;> simp [okVal] at hok
  obtain ⟨⟨h1, h2⟩, h3⟩ := hok
  obtain ⟨k2, hs⟩ := okI_inv h2
  split at h3 <;> try contradiction
  rename_i hd
  simp only [AOp.val] at hv
  split at hv <;> try contradiction
  rename_i k3 n e1
  cases hv
  exact ⟨_, w, by simp [execOp, (ev_sim h1 hR hT e1).int_inv, convert, run_underlying hs, run_underlying hd, Conv.intToFloat], .float rfl, .refl w⟩

theorem sim_s2a {o : Oper} {n : Nat} {x' : Opnd} {v : Value} (hok : okVal P o.op (.s2a n x') = true) (hv : AOp.val gl ρ H (.s2a n x') = some v) : SimV P μ H w a.eval o v := by
  obtain ⟨d, op', t, p, af, g⟩ := o
  cases op' <;> simp [okVal] at hok
  obtain ⟨h1, h2⟩ := hok
  split at h2 <;> try contradiction
  rename_i m e hu
  simp at h2; obtain ⟨rfl, hne⟩ := h2
  simp only [AOp.val] at hv
  split at hv <;> try contradiction
  rename_i ad len c e1
  split at hv <;> try contradiction
  rename_i hn
  cases hv
  have v1 := ev_sim h1 hR hT e1
  generalize hx : a.eval _ = y at v1
  cases v1 with
  | slc q1 q2 q3 =>
    refine ⟨_, w, by simp [execOp, hx, Instr.arrayAt, run_underlying hu, show ¬ (len < m) by omega]; rfl, ?_, .refl w⟩
    refine .ptr q1 fun e vs ha => ?_
    obtain ⟨p, hp, hb, ho, _⟩ := q3 (by omega) e vs ha
    exact ⟨p, hp, hb, by omega⟩

theorem sim_sls {o : Oper} {esz : Nat} {x' : Opnd} {lo' hi' : Option Opnd} {v : Value} (hok : okVal P o.op (.sls esz x' lo' hi') = true) (hv : AOp.val gl ρ H (.sls esz x' lo' hi') = some v) : SimV P μ H w a.eval o v := by
  obtain ⟨d, op', t, p, af, g⟩ := o
  cases op' <;> simp only [okVal, Bool.false_eq_true] at hok
  rename_i t x lo hi mx
  cases mx <;> simp [okVal] at hok
  obtain ⟨⟨⟨h1, h2⟩, h3⟩, h4⟩ := hok
  obtain ⟨e, hu, he, de, hde⟩ := okS_inv h4
  have hel : P.elem t = e := by simp [Program.elem, hu]
  simp only [AOp.val] at hv
  split at hv <;> try contradiction
  rename_i ad m c e1
  split at hv <;> try contradiction
  rename_i l h hc
  have v1 := ev_sim h1 hR hT e1
  split at hv <;> try contradiction
  · rename_i id o g
    split at hv <;> try contradiction
    rename_i hx
    cases hv
    obtain ⟨b, o', k, ex, q1, q2, q3⟩ := v1.slc_inv
    obtain ⟨r1, r2, r3⟩ := cut_run (P := P) (b := true) q2 h2 h3 hR hT hc
    refine ⟨.slice (some (if k = l then ⟨b, o', none⟩ else ⟨b, o' + l * esz, none⟩)) (h - l) (k - l), w, ?_, ?_, .refl w⟩
    · simp only [execOp, ex, Sem.run_bind]
      rw [run_sliceAt_slice w t _ _ _ _ (by rw [hel]; exact hu)]
      simp only [Instr.slice, Sem.run_bind, run_underlying hu, Result.andThen_ok, Option.map_none, r1, run_sizeOf hde, he, Sem.run_pure]
      split <;> simp [Addr.add_lit]
    · by_cases hk : k = l
      · simp only [hk, if_true]
        refine .slc q1 (by omega) fun hne => absurd (Nat.sub_self l) hne
      · simp only [hk, if_false]
        refine .slc q1 (by omega) fun hne e vs ha => ?_
        obtain ⟨p, hp, hb, ho, hle⟩ := q3 (by omega) e vs ha
        refine ⟨p, hp, hb, by omega, fun hx0 => ?_⟩
        rcases hx with rfl | rfl
        · have := hle hx0
          have e : k = l + (k - l) := by omega
          rw [e, Nat.add_mul] at this
          omega
        · exact absurd rfl hx0
  · cases hv
    generalize hx : a.eval _ = y at v1
    cases v1 with
    | nilSlc =>
      obtain ⟨r1, r2, r3⟩ := cut_run (P := P) (b := true) (Nat.le_refl 0) h2 h3 hR hT hc
      obtain rfl : h = 0 := by omega
      obtain rfl : l = 0 := by omega
      refine ⟨_, w, ?_, .nilSlc, .refl w⟩
      simp only [execOp, hx, Sem.run_bind]
      rw [run_sliceAt_slice w t _ _ _ _ (by rw [hel]; exact hu)]
      simp [Instr.slice, run_underlying hu, r1, run_sizeOf hde]

theorem sim_sla {o : Oper} {m esz : Nat} {x' : Opnd} {lo' hi' : Option Opnd} {v : Value} (hok : okVal P o.op (.sla m esz x' lo' hi') = true) (hv : AOp.val gl ρ H (.sla m esz x' lo' hi') = some v) : SimV P μ H w a.eval o v := by
  obtain ⟨d, op', t, p, af, g⟩ := o
  cases op' <;> simp only [okVal, Bool.false_eq_true] at hok
  rename_i t x lo hi mx
  cases mx <;> simp [okVal] at hok
  obtain ⟨⟨⟨h1, h2⟩, h3⟩, h4⟩ := hok
  obtain ⟨e, hu, he, de, hde⟩ := okA_inv h4
  simp only [AOp.val] at hv
  split at hv <;> try contradiction
  rename_i id o g e1
  split at hv <;> try contradiction
  rename_i l h hc
  cases hv
  have v1 := ev_sim h1 hR hT e1
  obtain ⟨b, o', ex, q1, q2⟩ := v1.ptr_inv
  obtain ⟨r1, r2, r3⟩ := cut_run (P := P) (b := false) (Nat.le_refl m) h2 h3 hR hT hc
  refine ⟨.slice (some (if m = l then ⟨b, o', none⟩ else ⟨b, o' + l * esz, none⟩)) (h - l) (m - l), w, ?_, ?_, .refl w⟩
  · simp only [execOp, ex, Instr.sliceAt, Instr.sureAddr, Sem.run_bind, run_underlying hu, Result.andThen_ok, Option.map_none, r1, run_sizeOf hde, he, Sem.run_pure]
    split <;> simp [Addr.add_lit]
  · by_cases hk : m = l
    · simp only [hk, if_true]
      refine .slc q1 (by omega) fun hne => absurd (Nat.sub_self l) hne
    · simp only [hk, if_false]
      refine .slc q1 (by omega) fun hne e vs ha => ?_
      obtain ⟨p, hp, hb, ho⟩ := q2 e vs ha
      exact ⟨p, hp, hb, by omega, fun hx0 => absurd rfl hx0⟩

theorem sim_slt {o : Oper} {x' : Opnd} {lo' hi' : Option Opnd} {v : Value} (hok : okVal P o.op (.slt x' lo' hi') = true) (hv : AOp.val gl ρ H (.slt x' lo' hi') = some v) : SimV P μ H w a.eval o v := by
  obtain ⟨d, op', t, p, af, g⟩ := o
  cases op' <;> simp only [okVal, Bool.false_eq_true] at hok
  rename_i t x lo hi mx
  cases mx <;> simp [okVal] at hok
  obtain ⟨⟨⟨h1, h2⟩, h3⟩, h4⟩ := hok
  have hu := okStr_inv h4
  simp only [AOp.val] at hv
  split at hv <;> try contradiction
  rename_i s e1
  split at hv <;> try contradiction
  rename_i l h hc
  cases hv
  have v1 := (ev_sim h1 hR hT e1).string_inv
  obtain ⟨r1, r2, r3⟩ := cut_run (P := P) (b := false) (Nat.le_refl s.size) h2 h3 hR hT hc
  refine ⟨_, w, ?_, .string _, .refl w⟩
  simp only [execOp, v1, Sem.run_bind]
  rw [run_sliceAt_string w t _ _ _ _ hu]
  simp [Instr.slice, run_underlying hu, r1]

theorem sim_len {o : Oper} {x' : Opnd} {v : Value} (hok : okVal P o.op (.len x') = true) (hv : AOp.val gl ρ H (.len x') = some v) : SimV P μ H w a.eval o v := by
  obtain ⟨d, op', t, p, af, g⟩ := o
  cases op' <;> simp only [okVal, Bool.false_eq_true] at hok
  rename_i c
  obtain ⟨callee, args, ats⟩ := c
  cases callee <;> try (simp [okVal] at hok; done)
  rename_i bt
  cases bt <;> try (simp [okVal] at hok; done)
  simp only [okVal, Bool.and_eq_true] at hok
  obtain ⟨h1, h2⟩ := hok
  obtain ⟨x, rfl, k1⟩ := call_args1 h1
  split at h2 <;> try contradiction
  rename_i t' ht
  split at h2 <;> try contradiction
  rename_i e hu
  simp only [AOp.val] at hv
  split at hv <;> try contradiction
  rename_i ad n cc e1
  cases hv
  have v1 := ev_sim k1 hR hT e1
  have : ∃ b k, a.eval x = .slice b n k := by
    generalize a.eval x = y at v1
    cases v1 <;> exact ⟨_, _, rfl⟩
  obtain ⟨b, k, ex⟩ := this
  exact ⟨_, w, by simp [execOp, resolve, invoke, builtin, Builtin.len_, ht, ex, run_underlying hu, goInt], .int _ _, .refl w⟩

theorem sim_lens {o : Oper} {x' : Opnd} {v : Value} (hok : okVal P o.op (.lens x') = true) (hv : AOp.val gl ρ H (.lens x') = some v) : SimV P μ H w a.eval o v := by
  obtain ⟨d, op', t, p, af, g⟩ := o
  cases op' <;> simp only [okVal, Bool.false_eq_true] at hok
  rename_i c
  obtain ⟨callee, args, ats⟩ := c
  cases callee <;> try (simp [okVal] at hok; done)
  rename_i bt
  cases bt <;> try (simp [okVal] at hok; done)
  simp only [okVal, Bool.and_eq_true] at hok
  obtain ⟨h1, h2⟩ := hok
  obtain ⟨x, rfl, k1⟩ := call_args1 h1
  split at h2 <;> try contradiction
  rename_i t' ht
  have hu := okStr_inv h2
  simp only [AOp.val] at hv
  split at hv <;> try contradiction
  rename_i s e1
  cases hv
  have ex := (ev_sim k1 hR hT e1).string_inv
  exact ⟨_, w, by simp [execOp, resolve, invoke, builtin, Builtin.len_, ht, ex, run_underlying hu, goInt], .int _ _, .refl w⟩

theorem sim_re {o : Oper} {x' : Opnd} {v : Value} (hok : okVal P o.op (.re x') = true) (hv : AOp.val gl ρ H (.re x') = some v) : SimV P μ H w a.eval o v := by
  obtain ⟨d, op', t, p, af, g⟩ := o
  cases op' <;> simp only [okVal, Bool.false_eq_true] at hok
  rename_i c
  obtain ⟨callee, args, ats⟩ := c
  cases callee <;> try (simp [okVal] at hok; done)
  rename_i bt
  cases bt <;> try (simp [okVal] at hok; done)
  simp only [okVal, Bool.and_eq_true] at hok
  obtain ⟨x, rfl, h1⟩ := call_args1 hok
  simp only [AOp.val] at hv
  split at hv <;> try contradiction
  rename_i k u u' e1
  cases hv
  obtain ⟨rfl, y, y', ex, hy, hy'⟩ := (ev_sim h1 hR hT e1).complex_inv
  exact ⟨_, w, by simp [execOp, resolve, invoke, builtin, run_real, ex], .float hy, .refl w⟩

theorem sim_im {o : Oper} {x' : Opnd} {v : Value} (hok : okVal P o.op (.im x') = true) (hv : AOp.val gl ρ H (.im x') = some v) : SimV P μ H w a.eval o v := by
  obtain ⟨d, op', t, p, af, g⟩ := o
  cases op' <;> simp only [okVal, Bool.false_eq_true] at hok
  rename_i c
  obtain ⟨callee, args, ats⟩ := c
  cases callee <;> try (simp [okVal] at hok; done)
  rename_i bt
  cases bt <;> try (simp [okVal] at hok; done)
  simp only [okVal, Bool.and_eq_true] at hok
  obtain ⟨x, rfl, h1⟩ := call_args1 hok
  simp only [AOp.val] at hv
  split at hv <;> try contradiction
  rename_i k u u' e1
  cases hv
  obtain ⟨rfl, y, y', ex, hy, hy'⟩ := (ev_sim h1 hR hT e1).complex_inv
  exact ⟨_, w, by simp [execOp, resolve, invoke, builtin, run_imag, ex], .float hy', .refl w⟩

theorem sim_cx {o : Oper} {x' y' : Opnd} {v : Value} (hok : okVal P o.op (.cx x' y') = true) (hv : AOp.val gl ρ H (.cx x' y') = some v) : SimV P μ H w a.eval o v := by
  obtain ⟨d, op', t, p, af, g⟩ := o
  cases op' <;> simp only [okVal, Bool.false_eq_true] at hok
  rename_i c
  obtain ⟨callee, args, ats⟩ := c
  cases callee <;> try (simp [okVal] at hok; done)
  rename_i bt
  cases bt <;> try (simp [okVal] at hok; done)
  simp only [okVal, Bool.and_eq_true] at hok
  obtain ⟨x, y, rfl, h1, h2⟩ := call_args2 hok
  simp only [AOp.val] at hv
  split at hv <;> try contradiction
  rename_i u u' e1 e2
  cases hv
  obtain ⟨c1, ex, hy⟩ := (ev_sim h1 hR hT e1).float_inv
  obtain ⟨c2, ey, hy'⟩ := (ev_sim h2 hR hT e2).float_inv
  exact ⟨_, w, by simp [execOp, resolve, invoke, builtin, run_complex, ex, ey], .complex hy hy', .refl w⟩

theorem sim_mn {o : Oper} {x' y' : Opnd} {v : Value} (hok : okVal P o.op (.mn x' y') = true) (hv : AOp.val gl ρ H (.mn x' y') = some v) : SimV P μ H w a.eval o v := by
  obtain ⟨d, op', t, p, af, g⟩ := o
  cases op' <;> simp only [okVal, Bool.false_eq_true] at hok
  rename_i c
  obtain ⟨callee, args, ats⟩ := c
  cases callee <;> try (simp [okVal] at hok; done)
  rename_i bt
  cases bt <;> try (simp [okVal] at hok; done)
  simp only [okVal, Bool.and_eq_true] at hok
  obtain ⟨x, y, rfl, h1, h2⟩ := call_args2 hok
  simp only [AOp.val] at hv
  split at hv <;> try contradiction
  rename_i k m k' n e1 e2
  cases hv
  have ex := (ev_sim h1 hR hT e1).int_inv
  have ey := (ev_sim h2 hR hT e2).int_inv
  exact ⟨_, w, by simp [execOp, resolve, invoke, builtin, Builtin.min_, Builtin.min2, ex, ey], .int _ _, .refl w⟩

theorem sim_mx {o : Oper} {x' y' : Opnd} {v : Value} (hok : okVal P o.op (.mx x' y') = true) (hv : AOp.val gl ρ H (.mx x' y') = some v) : SimV P μ H w a.eval o v := by
  obtain ⟨d, op', t, p, af, g⟩ := o
  cases op' <;> simp only [okVal, Bool.false_eq_true] at hok
  rename_i c
  obtain ⟨callee, args, ats⟩ := c
  cases callee <;> try (simp [okVal] at hok; done)
  rename_i bt
  cases bt <;> try (simp [okVal] at hok; done)
  simp only [okVal, Bool.and_eq_true] at hok
  obtain ⟨x, y, rfl, h1, h2⟩ := call_args2 hok
  simp only [AOp.val] at hv
  split at hv <;> try contradiction
  rename_i k m k' n e1 e2
  cases hv
  have ex := (ev_sim h1 hR hT e1).int_inv
  have ey := (ev_sim h2 hR hT e2).int_inv
  exact ⟨_, w, by simp [execOp, resolve, invoke, builtin, Builtin.max_, Builtin.max2, ex, ey], .int _ _, .refl w⟩

theorem sim_ld {o : Oper} {n : Option Nat} {x' : Opnd} {v : Value} (hok : okVal P o.op (.ld n x') = true) (hv : AOp.val gl ρ H (.ld n x') = some v) : SimV P μ H w a.eval o v := by
  obtain ⟨d, op', t, p, af, g⟩ := o
  cases op' <;> simp [okVal] at hok
  obtain ⟨h1, h2⟩ := hok
  simp only [AOp.val] at hv
  split at hv <;> try contradiction
  rename_i id o g e1
  split at hv <;> try contradiction
  rename_i e vs ha
  obtain ⟨p, cs, el, fr, hp, ex, hb, hs, hle, hc, _⟩ := ptr_live hR (ev_sim h1 hR hT e1) ha
  obtain ⟨c, hc, hvr⟩ := run_loadVar (w := w) h2 hb (by omega) hc hv
  exact ⟨c, w, by simp [execOp, Instr.loadAt, ex, Instr.sureAddr, hc], hvr, .refl w⟩

theorem sim_look {o : Oper} {zero : Value} {m' k' : Opnd} {v : Value} (hok : okVal P o.op (.look zero m' k') = true) (hv : AOp.val gl ρ H (.look zero m' k') = some v) : SimV P μ H w a.eval o v := by
  obtain ⟨d, op', t, p, af, g⟩ := o
  cases op' <;> simp only [okVal, Bool.false_eq_true] at hok
  rename_i t m k ok
  cases ok <;> simp [okVal] at hok
  obtain ⟨⟨⟨h1, h2⟩, h3⟩, h4⟩ := hok
  split at h4 <;> try contradiction
  rename_i kt et hu
  simp only [Bool.and_eq_true] at h4
  obtain ⟨h4, h5⟩ := h4
  split at h4 <;> try contradiction
  rename_i hk
  split at h5 <;> try contradiction
  rename_i z hz
  obtain rfl := vbeq_eq h5
  obtain ⟨i, hi, hz⟩ : ∃ i, P.info? et = some i ∧ i.zero = some z := by
    cases hi : P.info? et with
    | none => simp [hi] at hz
    | some i => exact ⟨i, rfl, by simpa [hi] using hz⟩
  simp only [AOp.val] at hv
  split at hv <;> try contradiction
  rename_i id n e1 e2
  split at hv <;> try contradiction
  rename_i es hes
  have v1 := ev_sim h1 hR hT e1
  have ek := (ev_sim h2 hR hT e2).int_inv
  obtain ⟨b, ces, clk, hμ, _, hb, hM1, hM2⟩ := hR.maps id es hes
  have ex : a.eval m = .map (some b) := by
    generalize a.eval m = y at v1
    cases v1 with
    | map _ h' => have := h' es hes; rw [hμ] at this; cases this; rfl
  have hck : (Instr.checkKey ces.isEmpty 10000 kt (.int .i64 n)).run P w = .ok () w := MapKept.run_checkKey hk (by simp [MapKept.IsKey]) _ 9999
  have hM := hM2 n
  split at hv
  · rename_i u hl
    cases hv
    rw [hl] at hM
    obtain ⟨j, e, hj, hk1, hvr, hfirst⟩ := hM
    have hf := findNow_some ces.toList 0 j e hM1 (by simpa using hj) hk1 (fun j' e' hj' he' => hfirst j' e' hj' (by simpa using he'))
    refine ⟨.tuple #[e.val, .bool true], w, ?_, ?_, .refl w⟩
    · simp [execOp, Instr.lookup, run_underlying hu, ex, ek, MapKept.run_getObj_map hb, hck, MapKept.run_findKey hk hf]
    · have := VR.mk_tuple (.cons hvr (.cons (.bool (μ := μ) (H := H) true) .nil))
      simpa using this
  · rename_i hl
    cases hv
    rw [hl] at hM
    have hf := findNow_none ces.toList 0 hM1 (k := n) hM
    refine ⟨.tuple #[z, .bool false], w, ?_, ?_, .refl w⟩
    · simp [execOp, Instr.lookup, run_underlying hu, ex, ek, MapKept.run_getObj_map hb, hck, MapKept.run_findKey hk hf, run_zero hi hz]
    · have := VR.mk_tuple (.cons (okV_VR (μ := μ) (H := H) 3 z h3) (.cons (.bool (μ := μ) (H := H) false) .nil))
      simpa using this

theorem sim_b2s {o : Oper} {x' : Opnd} {v : Value} (hok : okVal P o.op (.b2s x') = true) (hv : AOp.val gl ρ H (.b2s x') = some v) : SimV P μ H w a.eval o v := by
  obtain ⟨d, op', t, p, af, g⟩ := o
  cases op' <;> simp [okVal] at hok
  obtain ⟨⟨h1, h2⟩, h3⟩ := hok
  have hd := okStr_inv h2
  split at h3 <;> try contradiction
  rename_i e hs
  split at h3 <;> try contradiction
  rename_i he
  simp only [AOp.val] at hv
  have v1' : ∀ v, ev ρ x' = some v → VR μ H v (a.eval _) := fun v h => ev_sim h1 hR hT h
  split at hv <;> try contradiction
  · rename_i n c e1
    cases hv
    have v1 := v1' _ e1
    generalize hx : a.eval _ = y at v1
    cases v1
    exact ⟨_, w, by simp [execOp, hx, convert, run_underlying hs, run_underlying hd, run_underlying he, Conv.bytesToString], .string _, .refl w⟩
  · rename_i id o g m c e1
    split at hv <;> try contradiction
    rename_i el vs ha
    split at hv <;> try contradiction
    rename_i hle
    split at hv <;> try contradiction
    rename_i l hl
    cases hv
    obtain ⟨b, o', k, ex, q1, q2, q3⟩ := (v1' _ e1).slc_inv
    have main : ∃ ns : List Int, (loadCells ⟨b, o', none⟩ m).run P w = .ok (ns.map (Value.int .u8)).toArray w ∧ l = ns.map fun n => UInt8.ofNat n.toNat := by
      by_cases hm : m = 0
      · subst hm
        simp [bytesOf] at hl; subst hl
        exact ⟨[], by simp [loadCells, loadCellsFrom], rfl⟩
      · obtain ⟨p, hp, rfl, rfl, _⟩ := q3 (by omega) el vs ha
        obtain ⟨p', cs, ty, fr, hp', hb, hsz, hle', hcs, _⟩ := hR.cells id g el vs (at_ok ha)
        rw [hp] at hp'; cases hp'
        have L := LR.ofSub (μ := μ) (H := H) (by omega) hle hcs
        obtain ⟨ns, hns, hl'⟩ := bytes_LR _ _ _ L hl
        refine ⟨ns, ?_, hl'⟩
        rw [run_loadCells_block hb (by omega), hns]
    obtain ⟨ns, hr, rfl⟩ := main
    refine ⟨_, w, ?_, .string _, .refl w⟩
    have := run_bytesToString w ⟨b, o', none⟩ m k ns hr
    rw [foldl_push] at this
    have e : (⟨ByteArray.empty.data ++ (ns.map fun n => UInt8.ofNat n.toNat).toArray⟩ : ByteArray) = ⟨(ns.map fun n => UInt8.ofNat n.toNat).toArray⟩ := by
      congr 1; simp
    rw [e] at this
    simp only [execOp, ex, convert, Sem.run_bind, run_underlying hs, run_underlying hd, Result.andThen_ok, run_underlying he, this, Sem.run_pure]

theorem sim_val {o : Oper} {x : AOp} {v : Value} (hok : okVal P o.op x = true) (hv : AOp.val gl ρ H x = some v) : SimV P μ H w a.eval o v := by
  cases x with
  | mv x => exact sim_mv hR hT hok hv
  | pick c a b => exact sim_pick hR hT hok hv
  | nilck x => exact sim_nilck hR hT hok hv
  | bin op x y => exact sim_bin hR hT hok hv
  | eqb n x y => exact sim_eqb hR hT hok hv
  | eqp n x y => exact sim_eqp hR hT hok hv
  | eqi d n x y => exact sim_eqi hR hT hok hv
  | eqs g n x y => exact sim_eqs hR hT hok hv
  | un op x => exact sim_un hR hT hok hv
  | ext x i => exact sim_ext hR hT hok hv
  | fld f n x => exact sim_fld hR hT hok hv
  | ixs x i => exact sim_ixs hR hT hok hv
  | ixa m e n x i => exact sim_ixa hR hT hok hv
  | fa f x => exact sim_fa hR hT hok hv
  | iaa m e x i => exact sim_iaa hR hT hok hv
  | ias e x i => exact sim_ias hR hT hok hv
  | mk z ps => exact sim_mk hR hT hok hv
  | mkf f cs => exact sim_mkf hR hT hok hv
  | mki t x => exact sim_mki hR hT hok hv
  | ci k x => exact sim_ci hR hT hok hv
  | cf x => exact sim_cf hR hT hok hv
  | sls e x l h => exact sim_sls hR hT hok hv
  | slt x l h => exact sim_slt hR hT hok hv
  | sla m e x l h => exact sim_sla hR hT hok hv
  | s2a n x => exact sim_s2a hR hT hok hv
  | len x => exact sim_len hR hT hok hv
  | lens x => exact sim_lens hR hT hok hv
  | re x => exact sim_re hR hT hok hv
  | im x => exact sim_im hR hT hok hv
  | cx x y => exact sim_cx hR hT hok hv
  | mn x y => exact sim_mn hR hT hok hv
  | mx x y => exact sim_mx hR hT hok hv
  | ld n x => exact sim_ld hR hT hok hv
  | look z m k => exact sim_look hR hT hok hv
  | b2s x => exact sim_b2s hR hT hok hv
  | _ => simp [AOp.val] at hv

end
end Go.AM
