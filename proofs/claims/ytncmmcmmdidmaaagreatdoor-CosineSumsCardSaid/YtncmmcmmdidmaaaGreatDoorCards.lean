/-
  DERIVED. GIVEN WITH THE SEED: THE CARDS: each row of YtncmmcmmdidmaaaGreatDoorRows.lean that lists a variable, with what it lists TIED to the program's text (the seventh form; the later family's looks); each row that meets fmt, with fmt's text TOLD by the authors' own Lean function (tested against real Go, not proved from fmt's source: count such statements apart). THE CARD IS WHAT COUNTS. Prove the row's statement (the work); the ties are given (YtncmmcmmdidmaaaGreatDoorTie.lean); close each card by the builder's one call (the guide's Derived/Test/ToyasCard.lean, 'card_holds'). Laid BY PROGRAM, IN A SANDBOX (cutbox-door.mjs). By AI agents, Wed Nov 11 2026. No macro, syntax, notation, axiom, sorry.
-/
import Derived.Test.YtncmmcmmdidmaaaGreatDoorRows
import GoSem.ClaimSeven
namespace Go.Proofs.YtncmmcmmdidmaaaGreatDoor
namespace Rows

/-- THE TIED CARD OF 'timbrelaw20.PlanMakes'. -/
def planMakesCard : Claim7 := { stood := { row := planMakesRow, standIns := [], harness := (true, "60b1225d88ad659854f86f402fa0c260389914b811d94e91d9e125a7060e1695"), looks := true }, kinds := [], alts := [], laidByText := true, laidKinds := [.data, .data, .data, .sentinel, .sentinel, .sentinel, .sentinel, .sentinel, .sentinel, .sentinel, .sentinel, .sentinel, .sentinel, .sentinel, .sentinel, .sentinel, .sentinel, .sentinel, .sentinel, .sentinel, .sentinel, .sentinel, .data], laidTests := true, laidLooks := .later }
def PlanMakesCardSaid : Prop := Claim7.holds Tryz.pinned (.plain (OpenSpec.ofChange planMakesSpec)) planMakesCard

/-- THE TIED CARD OF 'timbrelaw20.PlanChooses'. -/
def planChoosesCard : Claim7 := { stood := { row := planChoosesRow, standIns := [], harness := (true, "60b1225d88ad659854f86f402fa0c260389914b811d94e91d9e125a7060e1695"), looks := true }, kinds := [], alts := [], laidByText := true, laidKinds := [.data, .data, .data, .sentinel, .sentinel, .sentinel, .sentinel, .sentinel, .sentinel, .sentinel, .sentinel, .sentinel, .sentinel, .sentinel, .sentinel, .sentinel, .sentinel, .sentinel, .sentinel, .sentinel, .sentinel, .sentinel, .data], laidTests := true, laidLooks := .later }
def PlanChoosesCardSaid : Prop := Claim7.holds Tryz.pinned (.plain (OpenSpec.ofChange planChoosesSpec)) planChoosesCard

/-- THE TIED CARD OF 'timbrelaw22.HalfForward'. -/
def halfForwardCard : Claim7 := { stood := { row := halfForwardRow, standIns := [], harness := (true, "60b1225d88ad659854f86f402fa0c260389914b811d94e91d9e125a7060e1695"), looks := true }, kinds := [], alts := [], laidByText := true, laidKinds := [.data, .data, .data, .sentinel, .sentinel, .sentinel, .sentinel, .sentinel, .sentinel, .sentinel, .sentinel, .sentinel, .sentinel, .sentinel, .sentinel, .sentinel, .sentinel, .sentinel, .sentinel, .sentinel, .sentinel, .sentinel, .data], laidTests := true, laidLooks := .later }
def HalfForwardCardSaid : Prop := Claim7.holds Tryz.pinned (.plain (OpenSpec.ofChange halfForwardSpec)) halfForwardCard

/-- THE TIED CARD OF 'timbrelaw23.CosineTurned'. -/
def cosineTurnedCard : Claim7 := { stood := { row := cosineTurnedRow, standIns := [], harness := (true, "60b1225d88ad659854f86f402fa0c260389914b811d94e91d9e125a7060e1695"), looks := true }, kinds := [], alts := [], laidByText := true, laidKinds := [.data, .data, .data, .sentinel, .sentinel, .sentinel, .sentinel, .sentinel, .sentinel, .sentinel, .data], laidTests := true, laidLooks := .later }
def CosineTurnedCardSaid : Prop := Claim7.holds Tryz.pinned (.plain (OpenSpec.ofChange cosineTurnedSpec)) cosineTurnedCard

/-- THE TIED CARD OF 'timbrelaw23.CosineSums'. -/
def cosineSumsCard : Claim7 := { stood := { row := cosineSumsRow, standIns := [], harness := (true, "60b1225d88ad659854f86f402fa0c260389914b811d94e91d9e125a7060e1695"), looks := true }, kinds := [], alts := [], laidByText := true, laidKinds := [.data, .data, .data, .sentinel, .sentinel, .sentinel, .sentinel, .sentinel, .sentinel, .sentinel, .sentinel, .sentinel, .sentinel, .sentinel, .sentinel, .sentinel, .sentinel, .sentinel, .sentinel, .sentinel, .sentinel, .sentinel, .data], laidTests := true, laidLooks := .later }
def CosineSumsCardSaid : Prop := Claim7.holds Tryz.pinned (.plain (OpenSpec.ofChange cosineSumsSpec)) cosineSumsCard

/-- THE TIED CARD OF 'timbrelaw23.CosineForward'. -/
def cosineForwardCard : Claim7 := { stood := { row := cosineForwardRow, standIns := [], harness := (true, "60b1225d88ad659854f86f402fa0c260389914b811d94e91d9e125a7060e1695"), looks := true }, kinds := [], alts := [], laidByText := true, laidKinds := [.data, .data, .data, .sentinel, .sentinel, .sentinel, .sentinel, .sentinel, .sentinel, .sentinel, .sentinel, .sentinel, .sentinel, .sentinel, .sentinel, .sentinel, .sentinel, .sentinel, .sentinel, .sentinel, .sentinel, .sentinel, .data], laidTests := true, laidLooks := .later }
def CosineForwardCardSaid : Prop := Claim7.holds Tryz.pinned (.plain (OpenSpec.ofChange cosineForwardSpec)) cosineForwardCard

/-- THE TIED CARD OF 'timbrelaw23.CosineInverse'. -/
def cosineInverseCard : Claim7 := { stood := { row := cosineInverseRow, standIns := [], harness := (true, "60b1225d88ad659854f86f402fa0c260389914b811d94e91d9e125a7060e1695"), looks := true }, kinds := [], alts := [], laidByText := true, laidKinds := [.data, .data, .data, .sentinel, .sentinel, .sentinel, .sentinel, .sentinel, .sentinel, .sentinel, .sentinel, .sentinel, .sentinel, .sentinel, .sentinel, .sentinel, .sentinel, .sentinel, .sentinel, .sentinel, .sentinel, .sentinel, .data], laidTests := true, laidLooks := .later }
def CosineInverseCardSaid : Prop := Claim7.holds Tryz.pinned (.plain (OpenSpec.ofChange cosineInverseSpec)) cosineInverseCard

/-- THE TIED CARD OF 'timbrelaw23.CosineByPlan'. -/
def cosineByPlanCard : Claim7 := { stood := { row := cosineByPlanRow, standIns := [], harness := (true, "60b1225d88ad659854f86f402fa0c260389914b811d94e91d9e125a7060e1695"), looks := true }, kinds := [], alts := [], laidByText := true, laidKinds := [.data, .data, .data, .sentinel, .sentinel, .sentinel, .sentinel, .sentinel, .sentinel, .sentinel, .data], laidTests := true, laidLooks := .later }
def CosineByPlanCardSaid : Prop := Claim7.holds Tryz.pinned (.plain (OpenSpec.ofChange cosineByPlanSpec)) cosineByPlanCard

/-- THE TIED CARD OF 'timbrelaw22.HalfTwo'. -/
def halfTwoCard : Claim7 := { stood := { row := halfTwoRow, standIns := [], harness := (true, "60b1225d88ad659854f86f402fa0c260389914b811d94e91d9e125a7060e1695"), looks := true }, kinds := [], alts := [], laidByText := true, laidKinds := [.data, .data, .data, .sentinel, .sentinel, .sentinel, .sentinel, .sentinel, .sentinel, .sentinel, .sentinel, .sentinel, .sentinel, .sentinel, .sentinel, .sentinel, .sentinel, .sentinel, .sentinel, .sentinel, .sentinel, .sentinel, .data], laidTests := true, laidLooks := .later }
def HalfTwoCardSaid : Prop := Claim7.holds Tryz.pinned (.plain (OpenSpec.ofChange halfTwoSpec)) halfTwoCard

/-- THE TIED CARD OF 'timbrelaw22.HalfWhole'. -/
def halfWholeCard : Claim7 := { stood := { row := halfWholeRow, standIns := [], harness := (true, "60b1225d88ad659854f86f402fa0c260389914b811d94e91d9e125a7060e1695"), looks := true }, kinds := [], alts := [], laidByText := true, laidKinds := [.data, .data, .data, .sentinel, .sentinel, .sentinel, .sentinel, .sentinel, .sentinel, .sentinel, .data], laidTests := true, laidLooks := .later }
def HalfWholeCardSaid : Prop := Claim7.holds Tryz.pinned (.plain (OpenSpec.ofChange halfWholeSpec)) halfWholeCard

/-- THE SECOND FORM's CARD OF 'timbrelaw20.PlanMakes'. -/
def planMakesUptoCard : Claim7 := { stood := { row := planMakesUptoRow, standIns := [], harness := (true, "60b1225d88ad659854f86f402fa0c260389914b811d94e91d9e125a7060e1695"), looks := true }, kinds := [], alts := [], laidByText := true, laidKinds := [.data, .data, .data, .sentinel, .sentinel, .sentinel, .sentinel, .sentinel, .sentinel, .sentinel, .sentinel, .sentinel, .sentinel, .sentinel, .sentinel, .sentinel, .sentinel, .sentinel, .sentinel, .sentinel, .sentinel, .sentinel, .data], laidTests := true, laidLooks := .later }
def PlanMakesUptoCardSaid : Prop := Claim7.holds Tryz.pinned (.plain (OpenSpec.upto planMakesSpec)) planMakesUptoCard

/-- THE SECOND FORM's CARD OF 'timbrelaw20.PlanChooses'. -/
def planChoosesUptoCard : Claim7 := { stood := { row := planChoosesUptoRow, standIns := [], harness := (true, "60b1225d88ad659854f86f402fa0c260389914b811d94e91d9e125a7060e1695"), looks := true }, kinds := [], alts := [], laidByText := true, laidKinds := [.data, .data, .data, .sentinel, .sentinel, .sentinel, .sentinel, .sentinel, .sentinel, .sentinel, .sentinel, .sentinel, .sentinel, .sentinel, .sentinel, .sentinel, .sentinel, .sentinel, .sentinel, .sentinel, .sentinel, .sentinel, .data], laidTests := true, laidLooks := .later }
def PlanChoosesUptoCardSaid : Prop := Claim7.holds Tryz.pinned (.plain (OpenSpec.upto planChoosesSpec)) planChoosesUptoCard

/-- THE SECOND FORM's CARD OF 'timbrelaw22.HalfForward'. -/
def halfForwardUptoCard : Claim7 := { stood := { row := halfForwardUptoRow, standIns := [], harness := (true, "60b1225d88ad659854f86f402fa0c260389914b811d94e91d9e125a7060e1695"), looks := true }, kinds := [], alts := [], laidByText := true, laidKinds := [.data, .data, .data, .sentinel, .sentinel, .sentinel, .sentinel, .sentinel, .sentinel, .sentinel, .sentinel, .sentinel, .sentinel, .sentinel, .sentinel, .sentinel, .sentinel, .sentinel, .sentinel, .sentinel, .sentinel, .sentinel, .data], laidTests := true, laidLooks := .later }
def HalfForwardUptoCardSaid : Prop := Claim7.holds Tryz.pinned (.plain (OpenSpec.upto halfForwardSpec)) halfForwardUptoCard

/-- THE SECOND FORM's CARD OF 'timbrelaw23.CosineTurned'. -/
def cosineTurnedUptoCard : Claim7 := { stood := { row := cosineTurnedUptoRow, standIns := [], harness := (true, "60b1225d88ad659854f86f402fa0c260389914b811d94e91d9e125a7060e1695"), looks := true }, kinds := [], alts := [], laidByText := true, laidKinds := [.data, .data, .data, .sentinel, .sentinel, .sentinel, .sentinel, .sentinel, .sentinel, .sentinel, .data], laidTests := true, laidLooks := .later }
def CosineTurnedUptoCardSaid : Prop := Claim7.holds Tryz.pinned (.plain (OpenSpec.upto cosineTurnedSpec)) cosineTurnedUptoCard

/-- THE SECOND FORM's CARD OF 'timbrelaw23.CosineSums'. -/
def cosineSumsUptoCard : Claim7 := { stood := { row := cosineSumsUptoRow, standIns := [], harness := (true, "60b1225d88ad659854f86f402fa0c260389914b811d94e91d9e125a7060e1695"), looks := true }, kinds := [], alts := [], laidByText := true, laidKinds := [.data, .data, .data, .sentinel, .sentinel, .sentinel, .sentinel, .sentinel, .sentinel, .sentinel, .sentinel, .sentinel, .sentinel, .sentinel, .sentinel, .sentinel, .sentinel, .sentinel, .sentinel, .sentinel, .sentinel, .sentinel, .data], laidTests := true, laidLooks := .later }
def CosineSumsUptoCardSaid : Prop := Claim7.holds Tryz.pinned (.plain (OpenSpec.upto cosineSumsSpec)) cosineSumsUptoCard

/-- THE SECOND FORM's CARD OF 'timbrelaw23.CosineForward'. -/
def cosineForwardUptoCard : Claim7 := { stood := { row := cosineForwardUptoRow, standIns := [], harness := (true, "60b1225d88ad659854f86f402fa0c260389914b811d94e91d9e125a7060e1695"), looks := true }, kinds := [], alts := [], laidByText := true, laidKinds := [.data, .data, .data, .sentinel, .sentinel, .sentinel, .sentinel, .sentinel, .sentinel, .sentinel, .sentinel, .sentinel, .sentinel, .sentinel, .sentinel, .sentinel, .sentinel, .sentinel, .sentinel, .sentinel, .sentinel, .sentinel, .data], laidTests := true, laidLooks := .later }
def CosineForwardUptoCardSaid : Prop := Claim7.holds Tryz.pinned (.plain (OpenSpec.upto cosineForwardSpec)) cosineForwardUptoCard

/-- THE SECOND FORM's CARD OF 'timbrelaw23.CosineInverse'. -/
def cosineInverseUptoCard : Claim7 := { stood := { row := cosineInverseUptoRow, standIns := [], harness := (true, "60b1225d88ad659854f86f402fa0c260389914b811d94e91d9e125a7060e1695"), looks := true }, kinds := [], alts := [], laidByText := true, laidKinds := [.data, .data, .data, .sentinel, .sentinel, .sentinel, .sentinel, .sentinel, .sentinel, .sentinel, .sentinel, .sentinel, .sentinel, .sentinel, .sentinel, .sentinel, .sentinel, .sentinel, .sentinel, .sentinel, .sentinel, .sentinel, .data], laidTests := true, laidLooks := .later }
def CosineInverseUptoCardSaid : Prop := Claim7.holds Tryz.pinned (.plain (OpenSpec.upto cosineInverseSpec)) cosineInverseUptoCard

/-- THE SECOND FORM's CARD OF 'timbrelaw23.CosineByPlan'. -/
def cosineByPlanUptoCard : Claim7 := { stood := { row := cosineByPlanUptoRow, standIns := [], harness := (true, "60b1225d88ad659854f86f402fa0c260389914b811d94e91d9e125a7060e1695"), looks := true }, kinds := [], alts := [], laidByText := true, laidKinds := [.data, .data, .data, .sentinel, .sentinel, .sentinel, .sentinel, .sentinel, .sentinel, .sentinel, .data], laidTests := true, laidLooks := .later }
def CosineByPlanUptoCardSaid : Prop := Claim7.holds Tryz.pinned (.plain (OpenSpec.upto cosineByPlanSpec)) cosineByPlanUptoCard

/-- THE SECOND FORM's CARD OF 'timbrelaw22.HalfTwo'. -/
def halfTwoUptoCard : Claim7 := { stood := { row := halfTwoUptoRow, standIns := [], harness := (true, "60b1225d88ad659854f86f402fa0c260389914b811d94e91d9e125a7060e1695"), looks := true }, kinds := [], alts := [], laidByText := true, laidKinds := [.data, .data, .data, .sentinel, .sentinel, .sentinel, .sentinel, .sentinel, .sentinel, .sentinel, .sentinel, .sentinel, .sentinel, .sentinel, .sentinel, .sentinel, .sentinel, .sentinel, .sentinel, .sentinel, .sentinel, .sentinel, .data], laidTests := true, laidLooks := .later }
def HalfTwoUptoCardSaid : Prop := Claim7.holds Tryz.pinned (.plain (OpenSpec.upto halfTwoSpec)) halfTwoUptoCard

/-- THE SECOND FORM's CARD OF 'timbrelaw22.HalfWhole'. -/
def halfWholeUptoCard : Claim7 := { stood := { row := halfWholeUptoRow, standIns := [], harness := (true, "60b1225d88ad659854f86f402fa0c260389914b811d94e91d9e125a7060e1695"), looks := true }, kinds := [], alts := [], laidByText := true, laidKinds := [.data, .data, .data, .sentinel, .sentinel, .sentinel, .sentinel, .sentinel, .sentinel, .sentinel, .data], laidTests := true, laidLooks := .later }
def HalfWholeUptoCardSaid : Prop := Claim7.holds Tryz.pinned (.plain (OpenSpec.upto halfWholeSpec)) halfWholeUptoCard
end Rows
end Go.Proofs.YtncmmcmmdidmaaaGreatDoor
