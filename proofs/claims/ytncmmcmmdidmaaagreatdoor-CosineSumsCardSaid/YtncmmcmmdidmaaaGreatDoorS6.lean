/- The code of the functions that this claim reaches, as the abstract machine reads it. -/
import Derived.Test.YtncmmcmmdidmaaaGreatDoorProg
import Derived.TacticsIn
import Derived.TacticsInMore
import Derived.Test.YtncmmcmmdidmaaaGreatDoorS5
set_option linter.all false
set_option maxRecDepth 100000
namespace Go.AM.Cd
/- 274 internal.strconv.small (keep) -/
def B274 : ACode := .seq (.region [⟨some 2, .mv (.c (.string ⟨#[]⟩)), none⟩]) (.seq (.seq (.region [⟨some 3, .mv (.t 0), none⟩, ⟨some 4, .bin .lss (.t 3) (.c (.int .i64 10)), none⟩]) (.cond (.t 4) (.seq (.region [⟨some 5, .mv (.t 0), none⟩, ⟨some 6, .mv (.t 0), none⟩, ⟨some 7, .bin .add (.t 6) (.c (.int .i64 1)), none⟩, ⟨some 8, .slt (.c (.string ⟨#[48, 49, 50, 51, 52, 53, 54, 55, 56, 57, 97, 98, 99, 100, 101, 102, 103, 104, 105, 106, 107, 108, 109, 110, 111, 112, 113, 114, 115, 116, 117, 118, 119, 120, 121, 122]⟩)) (some (.t 5)) (some (.t 7)), none⟩, ⟨some 2, .mv (.t 8), none⟩]) (.ret)) (.skip))) (.seq (.region [⟨some 9, .mv (.t 0), none⟩, ⟨some 10, .bin .mul (.t 9) (.c (.int .i64 2)), none⟩, ⟨some 11, .mv (.t 0), none⟩, ⟨some 12, .bin .mul (.t 11) (.c (.int .i64 2)), none⟩, ⟨some 13, .bin .add (.t 12) (.c (.int .i64 2)), none⟩, ⟨some 14, .slt (.c (.string ⟨#[48, 48, 48, 49, 48, 50, 48, 51, 48, 52, 48, 53, 48, 54, 48, 55, 48, 56, 48, 57, 49, 48, 49, 49, 49, 50, 49, 51, 49, 52, 49, 53, 49, 54, 49, 55, 49, 56, 49, 57, 50, 48, 50, 49, 50, 50, 50, 51, 50, 52, 50, 53, 50, 54, 50, 55, 50, 56, 50, 57, 51, 48, 51, 49, 51, 50, 51, 51, 51, 52, 51, 53, 51, 54, 51, 55, 51, 56, 51, 57, 52, 48, 52, 49, 52, 50, 52, 51, 52, 52, 52, 53, 52, 54, 52, 55, 52, 56, 52, 57, 53, 48, 53, 49, 53, 50, 53, 51, 53, 52, 53, 53, 53, 54, 53, 55, 53, 56, 53, 57, 54, 48, 54, 49, 54, 50, 54, 51, 54, 52, 54, 53, 54, 54, 54, 55, 54, 56, 54, 57, 55, 48, 55, 49, 55, 50, 55, 51, 55, 52, 55, 53, 55, 54, 55, 55, 55, 56, 55, 57, 56, 48, 56, 49, 56, 50, 56, 51, 56, 52, 56, 53, 56, 54, 56, 55, 56, 56, 56, 57, 57, 48, 57, 49, 57, 50, 57, 51, 57, 52, 57, 53, 57, 54, 57, 55, 57, 56, 57, 57]⟩)) (some (.t 10)) (some (.t 13)), none⟩, ⟨some 2, .mv (.t 14), none⟩]) (.ret)))
def R274 : List Res := [.t 2]
/- 275 internal.strconv.numDigits (keep) -/
def B275 : ACode := .seq (.region [⟨some 2, .mv (.c (.int .i64 0)), none⟩]) (.seq (.region [⟨some 4, .mv (.t 0), none⟩, ⟨some 5, .call 289 [(.t 4)], none⟩, ⟨some 6, .call 288 [(.t 5)], none⟩, ⟨some 3, .mv (.t 6), none⟩]) (.seq (.region [⟨some 7, .mv (.t 3), none⟩, ⟨some 8, .mv (.t 0), none⟩, ⟨some 9, .mv (.t 3), none⟩, ⟨some 10, .iaa 20 1 (.c (ptr 21 0 0)) (.t 9), none⟩, ⟨some 11, .ld none (.t 10), none⟩, ⟨some 12, .bin .geq (.t 8) (.t 11), none⟩, ⟨some 13, .call 290 [(.t 12)], none⟩, ⟨some 14, .bin .add (.t 7) (.t 13), none⟩, ⟨some 2, .mv (.t 14), none⟩]) (.ret)))
def R275 : List Res := [.t 2]
/- 276 internal.strconv.formatBase10 (keep) -/
def L276_0 : ACode := .loop [0, 1, 4] (.seq (.seq (.region [⟨some 19, .mv (.t 4), none⟩, ⟨some 20, .bin .geq (.t 19) (.c (.int .i64 8)), none⟩]) (.cond (.t 20) (.skip) (.exit 0))) (.block 1 (.seq (.region [⟨some 21, .mv (.t 1), none⟩, ⟨some 22, .bin .rem (.t 21) (.c (.int .u64 100000000)), none⟩, ⟨some 23, .ci .u32 (.t 22), none⟩, ⟨some 5, .mv (.t 23), none⟩]) (.seq (.region [⟨some 24, .mv (.t 1), none⟩, ⟨some 25, .bin .quo (.t 24) (.c (.int .u64 100000000)), none⟩, ⟨some 1, .mv (.t 25), none⟩]) (.seq (.region [⟨some 26, .mv (.t 5), none⟩, ⟨some 27, .bin .quo (.t 26) (.c (.int .u32 10000)), none⟩, ⟨some 28, .mv (.t 5), none⟩, ⟨some 29, .bin .rem (.t 28) (.c (.int .u32 10000)), none⟩, ⟨some 6, .mv (.t 27), none⟩, ⟨some 7, .mv (.t 29), none⟩]) (.seq (.region [⟨some 30, .mv (.t 7), none⟩, ⟨some 31, .bin .quo (.t 30) (.c (.int .u32 100)), none⟩, ⟨some 32, .bin .mul (.t 31) (.c (.int .u32 2)), none⟩, ⟨some 33, .mv (.t 7), none⟩, ⟨some 34, .bin .rem (.t 33) (.c (.int .u32 100)), none⟩, ⟨some 35, .bin .mul (.t 34) (.c (.int .u32 2)), none⟩, ⟨some 8, .mv (.t 32), none⟩, ⟨some 9, .mv (.t 35), none⟩]) (.seq (.region [⟨some 36, .mv (.t 6), none⟩, ⟨some 37, .bin .quo (.t 36) (.c (.int .u32 100)), none⟩, ⟨some 38, .bin .mul (.t 37) (.c (.int .u32 2)), none⟩, ⟨some 39, .mv (.t 6), none⟩, ⟨some 40, .bin .rem (.t 39) (.c (.int .u32 100)), none⟩, ⟨some 41, .bin .mul (.t 40) (.c (.int .u32 2)), none⟩, ⟨some 10, .mv (.t 38), none⟩, ⟨some 11, .mv (.t 41), none⟩]) (.seq (.draw 0 [.run 0 0 ⟨some 42, .mv (.t 0), none⟩, .run 1 0 ⟨some 43, .mv (.t 4), none⟩, .run 2 0 ⟨some 44, .bin .sub (.t 43) (.c (.int .i64 1)), none⟩, .run 3 0 ⟨some 45, .mv (.t 0), none⟩, .run 4 0 ⟨some 46, .mv (.t 4), none⟩, .run 5 0 ⟨some 47, .bin .sub (.t 46) (.c (.int .i64 2)), none⟩, .run 6 0 ⟨some 48, .mv (.t 9), none⟩, .run 7 0 ⟨some 49, .bin .add (.t 48) (.c (.int .u32 1)), none⟩, .run 8 0 ⟨some 50, .ixs (.c (.string ⟨#[48, 48, 48, 49, 48, 50, 48, 51, 48, 52, 48, 53, 48, 54, 48, 55, 48, 56, 48, 57, 49, 48, 49, 49, 49, 50, 49, 51, 49, 52, 49, 53, 49, 54, 49, 55, 49, 56, 49, 57, 50, 48, 50, 49, 50, 50, 50, 51, 50, 52, 50, 53, 50, 54, 50, 55, 50, 56, 50, 57, 51, 48, 51, 49, 51, 50, 51, 51, 51, 52, 51, 53, 51, 54, 51, 55, 51, 56, 51, 57, 52, 48, 52, 49, 52, 50, 52, 51, 52, 52, 52, 53, 52, 54, 52, 55, 52, 56, 52, 57, 53, 48, 53, 49, 53, 50, 53, 51, 53, 52, 53, 53, 53, 54, 53, 55, 53, 56, 53, 57, 54, 48, 54, 49, 54, 50, 54, 51, 54, 52, 54, 53, 54, 54, 54, 55, 54, 56, 54, 57, 55, 48, 55, 49, 55, 50, 55, 51, 55, 52, 55, 53, 55, 54, 55, 55, 55, 56, 55, 57, 56, 48, 56, 49, 56, 50, 56, 51, 56, 52, 56, 53, 56, 54, 56, 55, 56, 56, 56, 57, 57, 48, 57, 49, 57, 50, 57, 51, 57, 52, 57, 53, 57, 54, 57, 55, 57, 56, 57, 57]⟩)) (.t 49), none⟩, .run 9 0 ⟨some 51, .mv (.t 9), none⟩, .run 10 0 ⟨some 52, .ixs (.c (.string ⟨#[48, 48, 48, 49, 48, 50, 48, 51, 48, 52, 48, 53, 48, 54, 48, 55, 48, 56, 48, 57, 49, 48, 49, 49, 49, 50, 49, 51, 49, 52, 49, 53, 49, 54, 49, 55, 49, 56, 49, 57, 50, 48, 50, 49, 50, 50, 50, 51, 50, 52, 50, 53, 50, 54, 50, 55, 50, 56, 50, 57, 51, 48, 51, 49, 51, 50, 51, 51, 51, 52, 51, 53, 51, 54, 51, 55, 51, 56, 51, 57, 52, 48, 52, 49, 52, 50, 52, 51, 52, 52, 52, 53, 52, 54, 52, 55, 52, 56, 52, 57, 53, 48, 53, 49, 53, 50, 53, 51, 53, 52, 53, 53, 53, 54, 53, 55, 53, 56, 53, 57, 54, 48, 54, 49, 54, 50, 54, 51, 54, 52, 54, 53, 54, 54, 54, 55, 54, 56, 54, 57, 55, 48, 55, 49, 55, 50, 55, 51, 55, 52, 55, 53, 55, 54, 55, 55, 55, 56, 55, 57, 56, 48, 56, 49, 56, 50, 56, 51, 56, 52, 56, 53, 56, 54, 56, 55, 56, 56, 56, 57, 57, 48, 57, 49, 57, 50, 57, 51, 57, 52, 57, 53, 57, 54, 57, 55, 57, 56, 57, 57]⟩)) (.t 51), none⟩, .run 11 0 ⟨some 53, .ias 1 (.t 42) (.t 44), none⟩, .run 12 0 ⟨none, .st 1 (.t 53) (.t 50), none⟩, .run 13 0 ⟨some 54, .ias 1 (.t 45) (.t 47), none⟩, .run 14 0 ⟨none, .st 1 (.t 54) (.t 52), none⟩]) (.seq (.draw 0 [.run 0 0 ⟨some 55, .mv (.t 0), none⟩, .run 1 0 ⟨some 56, .mv (.t 4), none⟩, .run 2 0 ⟨some 57, .bin .sub (.t 56) (.c (.int .i64 3)), none⟩, .run 3 0 ⟨some 58, .mv (.t 0), none⟩, .run 4 0 ⟨some 59, .mv (.t 4), none⟩, .run 5 0 ⟨some 60, .bin .sub (.t 59) (.c (.int .i64 4)), none⟩, .run 6 0 ⟨some 61, .mv (.t 8), none⟩, .run 7 0 ⟨some 62, .bin .add (.t 61) (.c (.int .u32 1)), none⟩, .run 8 0 ⟨some 63, .ixs (.c (.string ⟨#[48, 48, 48, 49, 48, 50, 48, 51, 48, 52, 48, 53, 48, 54, 48, 55, 48, 56, 48, 57, 49, 48, 49, 49, 49, 50, 49, 51, 49, 52, 49, 53, 49, 54, 49, 55, 49, 56, 49, 57, 50, 48, 50, 49, 50, 50, 50, 51, 50, 52, 50, 53, 50, 54, 50, 55, 50, 56, 50, 57, 51, 48, 51, 49, 51, 50, 51, 51, 51, 52, 51, 53, 51, 54, 51, 55, 51, 56, 51, 57, 52, 48, 52, 49, 52, 50, 52, 51, 52, 52, 52, 53, 52, 54, 52, 55, 52, 56, 52, 57, 53, 48, 53, 49, 53, 50, 53, 51, 53, 52, 53, 53, 53, 54, 53, 55, 53, 56, 53, 57, 54, 48, 54, 49, 54, 50, 54, 51, 54, 52, 54, 53, 54, 54, 54, 55, 54, 56, 54, 57, 55, 48, 55, 49, 55, 50, 55, 51, 55, 52, 55, 53, 55, 54, 55, 55, 55, 56, 55, 57, 56, 48, 56, 49, 56, 50, 56, 51, 56, 52, 56, 53, 56, 54, 56, 55, 56, 56, 56, 57, 57, 48, 57, 49, 57, 50, 57, 51, 57, 52, 57, 53, 57, 54, 57, 55, 57, 56, 57, 57]⟩)) (.t 62), none⟩, .run 9 0 ⟨some 64, .mv (.t 8), none⟩, .run 10 0 ⟨some 65, .ixs (.c (.string ⟨#[48, 48, 48, 49, 48, 50, 48, 51, 48, 52, 48, 53, 48, 54, 48, 55, 48, 56, 48, 57, 49, 48, 49, 49, 49, 50, 49, 51, 49, 52, 49, 53, 49, 54, 49, 55, 49, 56, 49, 57, 50, 48, 50, 49, 50, 50, 50, 51, 50, 52, 50, 53, 50, 54, 50, 55, 50, 56, 50, 57, 51, 48, 51, 49, 51, 50, 51, 51, 51, 52, 51, 53, 51, 54, 51, 55, 51, 56, 51, 57, 52, 48, 52, 49, 52, 50, 52, 51, 52, 52, 52, 53, 52, 54, 52, 55, 52, 56, 52, 57, 53, 48, 53, 49, 53, 50, 53, 51, 53, 52, 53, 53, 53, 54, 53, 55, 53, 56, 53, 57, 54, 48, 54, 49, 54, 50, 54, 51, 54, 52, 54, 53, 54, 54, 54, 55, 54, 56, 54, 57, 55, 48, 55, 49, 55, 50, 55, 51, 55, 52, 55, 53, 55, 54, 55, 55, 55, 56, 55, 57, 56, 48, 56, 49, 56, 50, 56, 51, 56, 52, 56, 53, 56, 54, 56, 55, 56, 56, 56, 57, 57, 48, 57, 49, 57, 50, 57, 51, 57, 52, 57, 53, 57, 54, 57, 55, 57, 56, 57, 57]⟩)) (.t 64), none⟩, .run 11 0 ⟨some 66, .ias 1 (.t 55) (.t 57), none⟩, .run 12 0 ⟨none, .st 1 (.t 66) (.t 63), none⟩, .run 13 0 ⟨some 67, .ias 1 (.t 58) (.t 60), none⟩, .run 14 0 ⟨none, .st 1 (.t 67) (.t 65), none⟩]) (.seq (.draw 0 [.run 0 0 ⟨some 68, .mv (.t 0), none⟩, .run 1 0 ⟨some 69, .mv (.t 4), none⟩, .run 2 0 ⟨some 70, .bin .sub (.t 69) (.c (.int .i64 5)), none⟩, .run 3 0 ⟨some 71, .mv (.t 0), none⟩, .run 4 0 ⟨some 72, .mv (.t 4), none⟩, .run 5 0 ⟨some 73, .bin .sub (.t 72) (.c (.int .i64 6)), none⟩, .run 6 0 ⟨some 74, .mv (.t 11), none⟩, .run 7 0 ⟨some 75, .bin .add (.t 74) (.c (.int .u32 1)), none⟩, .run 8 0 ⟨some 76, .ixs (.c (.string ⟨#[48, 48, 48, 49, 48, 50, 48, 51, 48, 52, 48, 53, 48, 54, 48, 55, 48, 56, 48, 57, 49, 48, 49, 49, 49, 50, 49, 51, 49, 52, 49, 53, 49, 54, 49, 55, 49, 56, 49, 57, 50, 48, 50, 49, 50, 50, 50, 51, 50, 52, 50, 53, 50, 54, 50, 55, 50, 56, 50, 57, 51, 48, 51, 49, 51, 50, 51, 51, 51, 52, 51, 53, 51, 54, 51, 55, 51, 56, 51, 57, 52, 48, 52, 49, 52, 50, 52, 51, 52, 52, 52, 53, 52, 54, 52, 55, 52, 56, 52, 57, 53, 48, 53, 49, 53, 50, 53, 51, 53, 52, 53, 53, 53, 54, 53, 55, 53, 56, 53, 57, 54, 48, 54, 49, 54, 50, 54, 51, 54, 52, 54, 53, 54, 54, 54, 55, 54, 56, 54, 57, 55, 48, 55, 49, 55, 50, 55, 51, 55, 52, 55, 53, 55, 54, 55, 55, 55, 56, 55, 57, 56, 48, 56, 49, 56, 50, 56, 51, 56, 52, 56, 53, 56, 54, 56, 55, 56, 56, 56, 57, 57, 48, 57, 49, 57, 50, 57, 51, 57, 52, 57, 53, 57, 54, 57, 55, 57, 56, 57, 57]⟩)) (.t 75), none⟩, .run 9 0 ⟨some 77, .mv (.t 11), none⟩, .run 10 0 ⟨some 78, .ixs (.c (.string ⟨#[48, 48, 48, 49, 48, 50, 48, 51, 48, 52, 48, 53, 48, 54, 48, 55, 48, 56, 48, 57, 49, 48, 49, 49, 49, 50, 49, 51, 49, 52, 49, 53, 49, 54, 49, 55, 49, 56, 49, 57, 50, 48, 50, 49, 50, 50, 50, 51, 50, 52, 50, 53, 50, 54, 50, 55, 50, 56, 50, 57, 51, 48, 51, 49, 51, 50, 51, 51, 51, 52, 51, 53, 51, 54, 51, 55, 51, 56, 51, 57, 52, 48, 52, 49, 52, 50, 52, 51, 52, 52, 52, 53, 52, 54, 52, 55, 52, 56, 52, 57, 53, 48, 53, 49, 53, 50, 53, 51, 53, 52, 53, 53, 53, 54, 53, 55, 53, 56, 53, 57, 54, 48, 54, 49, 54, 50, 54, 51, 54, 52, 54, 53, 54, 54, 54, 55, 54, 56, 54, 57, 55, 48, 55, 49, 55, 50, 55, 51, 55, 52, 55, 53, 55, 54, 55, 55, 55, 56, 55, 57, 56, 48, 56, 49, 56, 50, 56, 51, 56, 52, 56, 53, 56, 54, 56, 55, 56, 56, 56, 57, 57, 48, 57, 49, 57, 50, 57, 51, 57, 52, 57, 53, 57, 54, 57, 55, 57, 56, 57, 57]⟩)) (.t 77), none⟩, .run 11 0 ⟨some 79, .ias 1 (.t 68) (.t 70), none⟩, .run 12 0 ⟨none, .st 1 (.t 79) (.t 76), none⟩, .run 13 0 ⟨some 80, .ias 1 (.t 71) (.t 73), none⟩, .run 14 0 ⟨none, .st 1 (.t 80) (.t 78), none⟩]) (.seq (.draw 0 [.run 0 0 ⟨some 81, .mv (.t 0), none⟩, .run 1 0 ⟨some 82, .mv (.t 4), none⟩, .run 2 0 ⟨some 83, .bin .sub (.t 82) (.c (.int .i64 7)), none⟩, .run 3 0 ⟨some 84, .mv (.t 0), none⟩, .run 4 0 ⟨some 85, .mv (.t 4), none⟩, .run 5 0 ⟨some 86, .bin .sub (.t 85) (.c (.int .i64 8)), none⟩, .run 6 0 ⟨some 87, .mv (.t 10), none⟩, .run 7 0 ⟨some 88, .bin .add (.t 87) (.c (.int .u32 1)), none⟩, .run 8 0 ⟨some 89, .ixs (.c (.string ⟨#[48, 48, 48, 49, 48, 50, 48, 51, 48, 52, 48, 53, 48, 54, 48, 55, 48, 56, 48, 57, 49, 48, 49, 49, 49, 50, 49, 51, 49, 52, 49, 53, 49, 54, 49, 55, 49, 56, 49, 57, 50, 48, 50, 49, 50, 50, 50, 51, 50, 52, 50, 53, 50, 54, 50, 55, 50, 56, 50, 57, 51, 48, 51, 49, 51, 50, 51, 51, 51, 52, 51, 53, 51, 54, 51, 55, 51, 56, 51, 57, 52, 48, 52, 49, 52, 50, 52, 51, 52, 52, 52, 53, 52, 54, 52, 55, 52, 56, 52, 57, 53, 48, 53, 49, 53, 50, 53, 51, 53, 52, 53, 53, 53, 54, 53, 55, 53, 56, 53, 57, 54, 48, 54, 49, 54, 50, 54, 51, 54, 52, 54, 53, 54, 54, 54, 55, 54, 56, 54, 57, 55, 48, 55, 49, 55, 50, 55, 51, 55, 52, 55, 53, 55, 54, 55, 55, 55, 56, 55, 57, 56, 48, 56, 49, 56, 50, 56, 51, 56, 52, 56, 53, 56, 54, 56, 55, 56, 56, 56, 57, 57, 48, 57, 49, 57, 50, 57, 51, 57, 52, 57, 53, 57, 54, 57, 55, 57, 56, 57, 57]⟩)) (.t 88), none⟩, .run 9 0 ⟨some 90, .mv (.t 10), none⟩, .run 10 0 ⟨some 91, .ixs (.c (.string ⟨#[48, 48, 48, 49, 48, 50, 48, 51, 48, 52, 48, 53, 48, 54, 48, 55, 48, 56, 48, 57, 49, 48, 49, 49, 49, 50, 49, 51, 49, 52, 49, 53, 49, 54, 49, 55, 49, 56, 49, 57, 50, 48, 50, 49, 50, 50, 50, 51, 50, 52, 50, 53, 50, 54, 50, 55, 50, 56, 50, 57, 51, 48, 51, 49, 51, 50, 51, 51, 51, 52, 51, 53, 51, 54, 51, 55, 51, 56, 51, 57, 52, 48, 52, 49, 52, 50, 52, 51, 52, 52, 52, 53, 52, 54, 52, 55, 52, 56, 52, 57, 53, 48, 53, 49, 53, 50, 53, 51, 53, 52, 53, 53, 53, 54, 53, 55, 53, 56, 53, 57, 54, 48, 54, 49, 54, 50, 54, 51, 54, 52, 54, 53, 54, 54, 54, 55, 54, 56, 54, 57, 55, 48, 55, 49, 55, 50, 55, 51, 55, 52, 55, 53, 55, 54, 55, 55, 55, 56, 55, 57, 56, 48, 56, 49, 56, 50, 56, 51, 56, 52, 56, 53, 56, 54, 56, 55, 56, 56, 56, 57, 57, 48, 57, 49, 57, 50, 57, 51, 57, 52, 57, 53, 57, 54, 57, 55, 57, 56, 57, 57]⟩)) (.t 90), none⟩, .run 11 0 ⟨some 92, .ias 1 (.t 81) (.t 83), none⟩, .run 12 0 ⟨none, .st 1 (.t 92) (.t 89), none⟩, .run 13 0 ⟨some 93, .ias 1 (.t 84) (.t 86), none⟩, .run 14 0 ⟨none, .st 1 (.t 93) (.t 91), none⟩]) (.region [⟨some 94, .mv (.t 4), none⟩, ⟨some 95, .bin .sub (.t 94) (.c (.int .i64 8)), none⟩, ⟨some 4, .mv (.t 95), none⟩]))))))))))))
def B276 : ACode := .seq (.region [⟨some 17, .mv (.t 0), none⟩, ⟨some 18, .len (.t 17), none⟩, ⟨some 4, .mv (.t 18), none⟩]) (.seq (.block 0 (L276_0)) (.seq (.region [⟨some 96, .mv (.t 1), none⟩, ⟨some 97, .ci .u32 (.t 96), none⟩, ⟨some 12, .mv (.t 97), none⟩]) (.seq (.seq (.region [⟨some 98, .mv (.t 4), none⟩, ⟨some 99, .bin .geq (.t 98) (.c (.int .i64 4)), none⟩]) (.cond (.t 99) (.seq (.region [⟨some 100, .mv (.t 12), none⟩, ⟨some 101, .bin .rem (.t 100) (.c (.int .u32 10000)), none⟩, ⟨some 13, .mv (.t 101), none⟩]) (.seq (.region [⟨some 102, .mv (.t 12), none⟩, ⟨some 103, .bin .quo (.t 102) (.c (.int .u32 10000)), none⟩, ⟨some 12, .mv (.t 103), none⟩]) (.seq (.region [⟨some 104, .mv (.t 13), none⟩, ⟨some 105, .bin .quo (.t 104) (.c (.int .u32 100)), none⟩, ⟨some 106, .bin .mul (.t 105) (.c (.int .u32 2)), none⟩, ⟨some 107, .mv (.t 13), none⟩, ⟨some 108, .bin .rem (.t 107) (.c (.int .u32 100)), none⟩, ⟨some 109, .bin .mul (.t 108) (.c (.int .u32 2)), none⟩, ⟨some 14, .mv (.t 106), none⟩, ⟨some 15, .mv (.t 109), none⟩]) (.seq (.draw 0 [.run 0 0 ⟨some 110, .mv (.t 0), none⟩, .run 1 0 ⟨some 111, .mv (.t 4), none⟩, .run 2 0 ⟨some 112, .bin .sub (.t 111) (.c (.int .i64 1)), none⟩, .run 3 0 ⟨some 113, .mv (.t 0), none⟩, .run 4 0 ⟨some 114, .mv (.t 4), none⟩, .run 5 0 ⟨some 115, .bin .sub (.t 114) (.c (.int .i64 2)), none⟩, .run 6 0 ⟨some 116, .mv (.t 15), none⟩, .run 7 0 ⟨some 117, .bin .add (.t 116) (.c (.int .u32 1)), none⟩, .run 8 0 ⟨some 118, .ixs (.c (.string ⟨#[48, 48, 48, 49, 48, 50, 48, 51, 48, 52, 48, 53, 48, 54, 48, 55, 48, 56, 48, 57, 49, 48, 49, 49, 49, 50, 49, 51, 49, 52, 49, 53, 49, 54, 49, 55, 49, 56, 49, 57, 50, 48, 50, 49, 50, 50, 50, 51, 50, 52, 50, 53, 50, 54, 50, 55, 50, 56, 50, 57, 51, 48, 51, 49, 51, 50, 51, 51, 51, 52, 51, 53, 51, 54, 51, 55, 51, 56, 51, 57, 52, 48, 52, 49, 52, 50, 52, 51, 52, 52, 52, 53, 52, 54, 52, 55, 52, 56, 52, 57, 53, 48, 53, 49, 53, 50, 53, 51, 53, 52, 53, 53, 53, 54, 53, 55, 53, 56, 53, 57, 54, 48, 54, 49, 54, 50, 54, 51, 54, 52, 54, 53, 54, 54, 54, 55, 54, 56, 54, 57, 55, 48, 55, 49, 55, 50, 55, 51, 55, 52, 55, 53, 55, 54, 55, 55, 55, 56, 55, 57, 56, 48, 56, 49, 56, 50, 56, 51, 56, 52, 56, 53, 56, 54, 56, 55, 56, 56, 56, 57, 57, 48, 57, 49, 57, 50, 57, 51, 57, 52, 57, 53, 57, 54, 57, 55, 57, 56, 57, 57]⟩)) (.t 117), none⟩, .run 9 0 ⟨some 119, .mv (.t 15), none⟩, .run 10 0 ⟨some 120, .ixs (.c (.string ⟨#[48, 48, 48, 49, 48, 50, 48, 51, 48, 52, 48, 53, 48, 54, 48, 55, 48, 56, 48, 57, 49, 48, 49, 49, 49, 50, 49, 51, 49, 52, 49, 53, 49, 54, 49, 55, 49, 56, 49, 57, 50, 48, 50, 49, 50, 50, 50, 51, 50, 52, 50, 53, 50, 54, 50, 55, 50, 56, 50, 57, 51, 48, 51, 49, 51, 50, 51, 51, 51, 52, 51, 53, 51, 54, 51, 55, 51, 56, 51, 57, 52, 48, 52, 49, 52, 50, 52, 51, 52, 52, 52, 53, 52, 54, 52, 55, 52, 56, 52, 57, 53, 48, 53, 49, 53, 50, 53, 51, 53, 52, 53, 53, 53, 54, 53, 55, 53, 56, 53, 57, 54, 48, 54, 49, 54, 50, 54, 51, 54, 52, 54, 53, 54, 54, 54, 55, 54, 56, 54, 57, 55, 48, 55, 49, 55, 50, 55, 51, 55, 52, 55, 53, 55, 54, 55, 55, 55, 56, 55, 57, 56, 48, 56, 49, 56, 50, 56, 51, 56, 52, 56, 53, 56, 54, 56, 55, 56, 56, 56, 57, 57, 48, 57, 49, 57, 50, 57, 51, 57, 52, 57, 53, 57, 54, 57, 55, 57, 56, 57, 57]⟩)) (.t 119), none⟩, .run 11 0 ⟨some 121, .ias 1 (.t 110) (.t 112), none⟩, .run 12 0 ⟨none, .st 1 (.t 121) (.t 118), none⟩, .run 13 0 ⟨some 122, .ias 1 (.t 113) (.t 115), none⟩, .run 14 0 ⟨none, .st 1 (.t 122) (.t 120), none⟩]) (.seq (.draw 0 [.run 0 0 ⟨some 123, .mv (.t 0), none⟩, .run 1 0 ⟨some 124, .mv (.t 4), none⟩, .run 2 0 ⟨some 125, .bin .sub (.t 124) (.c (.int .i64 3)), none⟩, .run 3 0 ⟨some 126, .mv (.t 0), none⟩, .run 4 0 ⟨some 127, .mv (.t 4), none⟩, .run 5 0 ⟨some 128, .bin .sub (.t 127) (.c (.int .i64 4)), none⟩, .run 6 0 ⟨some 129, .mv (.t 14), none⟩, .run 7 0 ⟨some 130, .bin .add (.t 129) (.c (.int .u32 1)), none⟩, .run 8 0 ⟨some 131, .ixs (.c (.string ⟨#[48, 48, 48, 49, 48, 50, 48, 51, 48, 52, 48, 53, 48, 54, 48, 55, 48, 56, 48, 57, 49, 48, 49, 49, 49, 50, 49, 51, 49, 52, 49, 53, 49, 54, 49, 55, 49, 56, 49, 57, 50, 48, 50, 49, 50, 50, 50, 51, 50, 52, 50, 53, 50, 54, 50, 55, 50, 56, 50, 57, 51, 48, 51, 49, 51, 50, 51, 51, 51, 52, 51, 53, 51, 54, 51, 55, 51, 56, 51, 57, 52, 48, 52, 49, 52, 50, 52, 51, 52, 52, 52, 53, 52, 54, 52, 55, 52, 56, 52, 57, 53, 48, 53, 49, 53, 50, 53, 51, 53, 52, 53, 53, 53, 54, 53, 55, 53, 56, 53, 57, 54, 48, 54, 49, 54, 50, 54, 51, 54, 52, 54, 53, 54, 54, 54, 55, 54, 56, 54, 57, 55, 48, 55, 49, 55, 50, 55, 51, 55, 52, 55, 53, 55, 54, 55, 55, 55, 56, 55, 57, 56, 48, 56, 49, 56, 50, 56, 51, 56, 52, 56, 53, 56, 54, 56, 55, 56, 56, 56, 57, 57, 48, 57, 49, 57, 50, 57, 51, 57, 52, 57, 53, 57, 54, 57, 55, 57, 56, 57, 57]⟩)) (.t 130), none⟩, .run 9 0 ⟨some 132, .mv (.t 14), none⟩, .run 10 0 ⟨some 133, .ixs (.c (.string ⟨#[48, 48, 48, 49, 48, 50, 48, 51, 48, 52, 48, 53, 48, 54, 48, 55, 48, 56, 48, 57, 49, 48, 49, 49, 49, 50, 49, 51, 49, 52, 49, 53, 49, 54, 49, 55, 49, 56, 49, 57, 50, 48, 50, 49, 50, 50, 50, 51, 50, 52, 50, 53, 50, 54, 50, 55, 50, 56, 50, 57, 51, 48, 51, 49, 51, 50, 51, 51, 51, 52, 51, 53, 51, 54, 51, 55, 51, 56, 51, 57, 52, 48, 52, 49, 52, 50, 52, 51, 52, 52, 52, 53, 52, 54, 52, 55, 52, 56, 52, 57, 53, 48, 53, 49, 53, 50, 53, 51, 53, 52, 53, 53, 53, 54, 53, 55, 53, 56, 53, 57, 54, 48, 54, 49, 54, 50, 54, 51, 54, 52, 54, 53, 54, 54, 54, 55, 54, 56, 54, 57, 55, 48, 55, 49, 55, 50, 55, 51, 55, 52, 55, 53, 55, 54, 55, 55, 55, 56, 55, 57, 56, 48, 56, 49, 56, 50, 56, 51, 56, 52, 56, 53, 56, 54, 56, 55, 56, 56, 56, 57, 57, 48, 57, 49, 57, 50, 57, 51, 57, 52, 57, 53, 57, 54, 57, 55, 57, 56, 57, 57]⟩)) (.t 132), none⟩, .run 11 0 ⟨some 134, .ias 1 (.t 123) (.t 125), none⟩, .run 12 0 ⟨none, .st 1 (.t 134) (.t 131), none⟩, .run 13 0 ⟨some 135, .ias 1 (.t 126) (.t 128), none⟩, .run 14 0 ⟨none, .st 1 (.t 135) (.t 133), none⟩]) (.region [⟨some 136, .mv (.t 4), none⟩, ⟨some 137, .bin .sub (.t 136) (.c (.int .i64 4)), none⟩, ⟨some 4, .mv (.t 137), none⟩])))))) (.skip))) (.seq (.seq (.region [⟨some 138, .mv (.t 4), none⟩, ⟨some 139, .bin .geq (.t 138) (.c (.int .i64 2)), none⟩]) (.cond (.t 139) (.seq (.region [⟨some 140, .mv (.t 12), none⟩, ⟨some 141, .bin .rem (.t 140) (.c (.int .u32 100)), none⟩, ⟨some 142, .bin .mul (.t 141) (.c (.int .u32 2)), none⟩, ⟨some 16, .mv (.t 142), none⟩]) (.seq (.region [⟨some 143, .mv (.t 12), none⟩, ⟨some 144, .bin .quo (.t 143) (.c (.int .u32 100)), none⟩, ⟨some 12, .mv (.t 144), none⟩]) (.seq (.draw 0 [.run 0 0 ⟨some 145, .mv (.t 0), none⟩, .run 1 0 ⟨some 146, .mv (.t 4), none⟩, .run 2 0 ⟨some 147, .bin .sub (.t 146) (.c (.int .i64 1)), none⟩, .run 3 0 ⟨some 148, .mv (.t 0), none⟩, .run 4 0 ⟨some 149, .mv (.t 4), none⟩, .run 5 0 ⟨some 150, .bin .sub (.t 149) (.c (.int .i64 2)), none⟩, .run 6 0 ⟨some 151, .mv (.t 16), none⟩, .run 7 0 ⟨some 152, .bin .add (.t 151) (.c (.int .u32 1)), none⟩, .run 8 0 ⟨some 153, .ixs (.c (.string ⟨#[48, 48, 48, 49, 48, 50, 48, 51, 48, 52, 48, 53, 48, 54, 48, 55, 48, 56, 48, 57, 49, 48, 49, 49, 49, 50, 49, 51, 49, 52, 49, 53, 49, 54, 49, 55, 49, 56, 49, 57, 50, 48, 50, 49, 50, 50, 50, 51, 50, 52, 50, 53, 50, 54, 50, 55, 50, 56, 50, 57, 51, 48, 51, 49, 51, 50, 51, 51, 51, 52, 51, 53, 51, 54, 51, 55, 51, 56, 51, 57, 52, 48, 52, 49, 52, 50, 52, 51, 52, 52, 52, 53, 52, 54, 52, 55, 52, 56, 52, 57, 53, 48, 53, 49, 53, 50, 53, 51, 53, 52, 53, 53, 53, 54, 53, 55, 53, 56, 53, 57, 54, 48, 54, 49, 54, 50, 54, 51, 54, 52, 54, 53, 54, 54, 54, 55, 54, 56, 54, 57, 55, 48, 55, 49, 55, 50, 55, 51, 55, 52, 55, 53, 55, 54, 55, 55, 55, 56, 55, 57, 56, 48, 56, 49, 56, 50, 56, 51, 56, 52, 56, 53, 56, 54, 56, 55, 56, 56, 56, 57, 57, 48, 57, 49, 57, 50, 57, 51, 57, 52, 57, 53, 57, 54, 57, 55, 57, 56, 57, 57]⟩)) (.t 152), none⟩, .run 9 0 ⟨some 154, .mv (.t 16), none⟩, .run 10 0 ⟨some 155, .ixs (.c (.string ⟨#[48, 48, 48, 49, 48, 50, 48, 51, 48, 52, 48, 53, 48, 54, 48, 55, 48, 56, 48, 57, 49, 48, 49, 49, 49, 50, 49, 51, 49, 52, 49, 53, 49, 54, 49, 55, 49, 56, 49, 57, 50, 48, 50, 49, 50, 50, 50, 51, 50, 52, 50, 53, 50, 54, 50, 55, 50, 56, 50, 57, 51, 48, 51, 49, 51, 50, 51, 51, 51, 52, 51, 53, 51, 54, 51, 55, 51, 56, 51, 57, 52, 48, 52, 49, 52, 50, 52, 51, 52, 52, 52, 53, 52, 54, 52, 55, 52, 56, 52, 57, 53, 48, 53, 49, 53, 50, 53, 51, 53, 52, 53, 53, 53, 54, 53, 55, 53, 56, 53, 57, 54, 48, 54, 49, 54, 50, 54, 51, 54, 52, 54, 53, 54, 54, 54, 55, 54, 56, 54, 57, 55, 48, 55, 49, 55, 50, 55, 51, 55, 52, 55, 53, 55, 54, 55, 55, 55, 56, 55, 57, 56, 48, 56, 49, 56, 50, 56, 51, 56, 52, 56, 53, 56, 54, 56, 55, 56, 56, 56, 57, 57, 48, 57, 49, 57, 50, 57, 51, 57, 52, 57, 53, 57, 54, 57, 55, 57, 56, 57, 57]⟩)) (.t 154), none⟩, .run 11 0 ⟨some 156, .ias 1 (.t 145) (.t 147), none⟩, .run 12 0 ⟨none, .st 1 (.t 156) (.t 153), none⟩, .run 13 0 ⟨some 157, .ias 1 (.t 148) (.t 150), none⟩, .run 14 0 ⟨none, .st 1 (.t 157) (.t 155), none⟩]) (.region [⟨some 158, .mv (.t 4), none⟩, ⟨some 159, .bin .sub (.t 158) (.c (.int .i64 2)), none⟩, ⟨some 4, .mv (.t 159), none⟩])))) (.skip))) (.seq (.region [⟨some 160, .mv (.t 4), none⟩, ⟨some 161, .bin .gtr (.t 160) (.c (.int .i64 0)), none⟩]) (.cond (.t 161) (.region [⟨some 162, .mv (.t 0), none⟩, ⟨some 163, .mv (.t 12), none⟩, ⟨some 164, .bin .add (.c (.int .u32 48)) (.t 163), none⟩, ⟨some 165, .ci .u8 (.t 164), none⟩, ⟨some 166, .ias 1 (.t 162) (.c (.int .i64 0)), none⟩, ⟨none, .st 1 (.t 166) (.t 165), none⟩]) (.skip)))))))
def R276 : List Res := []
/- 277 internal.strconv.formatBits (keep) -/
def L277_0 : ACode := .loop [0, 1, 3, 4, 10, 11, 12, 13, 14, 15, 16] (.seq (.seq (.region [⟨some 44, .mv (.t 1), none⟩, ⟨some 45, .mv (.t 15), none⟩, ⟨some 46, .bin .geq (.t 44) (.t 45), none⟩]) (.cond (.t 46) (.skip) (.exit 0))) (.block 1 (.seq (.region [⟨some 47, .mv (.t 13), none⟩, ⟨some 48, .bin .sub (.t 47) (.c (.int .i64 1)), none⟩, ⟨some 13, .mv (.t 48), none⟩]) (.seq (.region [⟨some 49, .mv (.t 13), none⟩, ⟨some 50, .mv (.t 1), none⟩, ⟨some 51, .mv (.t 16), none⟩, ⟨some 52, .bin .and (.t 50) (.t 51), none⟩, ⟨some 53, .ixs (.c (.string ⟨#[48, 49, 50, 51, 52, 53, 54, 55, 56, 57, 97, 98, 99, 100, 101, 102, 103, 104, 105, 106, 107, 108, 109, 110, 111, 112, 113, 114, 115, 116, 117, 118, 119, 120, 121, 122]⟩)) (.t 52), none⟩, ⟨some 54, .iaa 65 1 (.t 12) (.t 49), none⟩, ⟨none, .st 1 (.t 54) (.t 53), none⟩]) (.region [⟨some 55, .mv (.t 1), none⟩, ⟨some 56, .mv (.t 14), none⟩, ⟨some 57, .bin .shr (.t 55) (.t 56), none⟩, ⟨some 1, .mv (.t 57), none⟩])))))
def L277_1 : ACode := .loop [0, 1, 3, 4, 10, 11, 12, 13, 17] (.seq (.seq (.region [⟨some 66, .mv (.t 1), none⟩, ⟨some 67, .mv (.t 17), none⟩, ⟨some 68, .bin .geq (.t 66) (.t 67), none⟩]) (.cond (.t 68) (.skip) (.exit 2))) (.block 3 (.seq (.region [⟨some 69, .mv (.t 13), none⟩, ⟨some 70, .bin .sub (.t 69) (.c (.int .i64 1)), none⟩, ⟨some 13, .mv (.t 70), none⟩]) (.seq (.region [⟨some 71, .mv (.t 1), none⟩, ⟨some 72, .mv (.t 17), none⟩, ⟨some 73, .bin .quo (.t 71) (.t 72), none⟩, ⟨some 18, .mv (.t 73), none⟩]) (.seq (.region [⟨some 74, .mv (.t 13), none⟩, ⟨some 75, .mv (.t 1), none⟩, ⟨some 76, .mv (.t 18), none⟩, ⟨some 77, .mv (.t 17), none⟩, ⟨some 78, .bin .mul (.t 76) (.t 77), none⟩, ⟨some 79, .bin .sub (.t 75) (.t 78), none⟩, ⟨some 80, .ixs (.c (.string ⟨#[48, 49, 50, 51, 52, 53, 54, 55, 56, 57, 97, 98, 99, 100, 101, 102, 103, 104, 105, 106, 107, 108, 109, 110, 111, 112, 113, 114, 115, 116, 117, 118, 119, 120, 121, 122]⟩)) (.t 79), none⟩, ⟨some 81, .iaa 65 1 (.t 12) (.t 74), none⟩, ⟨none, .st 1 (.t 81) (.t 80), none⟩]) (.region [⟨some 82, .mv (.t 18), none⟩, ⟨some 1, .mv (.t 82), none⟩]))))))
def B277 : ACode := .seq (.region [⟨some 10, .mv (.c (.slice none 0 0)), none⟩, ⟨some 11, .mv (.c (.string ⟨#[]⟩)), none⟩]) (.seq (.seq (.region [⟨some 19, .mv (.t 2), none⟩, ⟨some 20, .bin .lss (.t 19) (.c (.int .i64 2)), none⟩, ⟨some 21, .mv (.t 20), none⟩, ⟨some 22, .mv (.t 2), some (21, false)⟩, ⟨some 23, .bin .eql (.t 22) (.c (.int .i64 10)), some (21, false)⟩, ⟨some 24, .pick (.t 21) (.c (.bool true)) (.t 23), none⟩, ⟨some 25, .mv (.t 24), none⟩, ⟨some 26, .mv (.t 2), some (25, false)⟩, ⟨some 27, .bin .gtr (.t 26) (.c (.int .i64 36)), some (25, false)⟩, ⟨some 28, .pick (.t 25) (.c (.bool true)) (.t 27), none⟩]) (.cond (.t 28) (.region [⟨some 29, .mki 9 (.c (.string ⟨#[115, 116, 114, 99, 111, 110, 118, 58, 32, 105, 108, 108, 101, 103, 97, 108, 32, 65, 112, 112, 101, 110, 100, 73, 110, 116, 47, 70, 111, 114, 109, 97, 116, 73, 110, 116, 32, 98, 97, 115, 101]⟩)), none⟩, ⟨none, .stop, none⟩]) (.skip))) (.seq (.region [⟨some 12, .al (List.replicate 65 (.int .u8 0)), none⟩]) (.seq (.region [⟨some 13, .mv (.c (.int .i64 65)), none⟩]) (.seq (.seq (.region [⟨some 30, .mv (.t 3), none⟩]) (.cond (.t 30) (.region [⟨some 31, .mv (.t 1), none⟩, ⟨some 32, .un .neg (.t 31), none⟩, ⟨some 1, .mv (.t 32), none⟩]) (.skip))) (.seq (.seq (.region [⟨some 33, .mv (.t 2), none⟩, ⟨some 34, .call 291 [(.t 33)], none⟩]) (.cond (.t 34) (.seq (.region [⟨some 35, .mv (.t 2), none⟩, ⟨some 36, .ci .u64 (.t 35), none⟩, ⟨some 37, .call 292 [(.t 36)], none⟩, ⟨some 38, .ci .u64 (.t 37), none⟩, ⟨some 14, .mv (.t 38), none⟩]) (.seq (.region [⟨some 39, .mv (.t 2), none⟩, ⟨some 40, .ci .u64 (.t 39), none⟩, ⟨some 15, .mv (.t 40), none⟩]) (.seq (.region [⟨some 41, .mv (.t 2), none⟩, ⟨some 42, .ci .u64 (.t 41), none⟩, ⟨some 43, .bin .sub (.t 42) (.c (.int .u64 1)), none⟩, ⟨some 16, .mv (.t 43), none⟩]) (.seq (.block 0 (L277_0)) (.seq (.region [⟨some 58, .mv (.t 13), none⟩, ⟨some 59, .bin .sub (.t 58) (.c (.int .i64 1)), none⟩, ⟨some 13, .mv (.t 59), none⟩]) (.region [⟨some 60, .mv (.t 13), none⟩, ⟨some 61, .mv (.t 1), none⟩, ⟨some 62, .ixs (.c (.string ⟨#[48, 49, 50, 51, 52, 53, 54, 55, 56, 57, 97, 98, 99, 100, 101, 102, 103, 104, 105, 106, 107, 108, 109, 110, 111, 112, 113, 114, 115, 116, 117, 118, 119, 120, 121, 122]⟩)) (.t 61), none⟩, ⟨some 63, .iaa 65 1 (.t 12) (.t 60), none⟩, ⟨none, .st 1 (.t 63) (.t 62), none⟩])))))) (.seq (.region [⟨some 64, .mv (.t 2), none⟩, ⟨some 65, .ci .u64 (.t 64), none⟩, ⟨some 17, .mv (.t 65), none⟩]) (.seq (.block 2 (L277_1)) (.seq (.region [⟨some 83, .mv (.t 13), none⟩, ⟨some 84, .bin .sub (.t 83) (.c (.int .i64 1)), none⟩, ⟨some 13, .mv (.t 84), none⟩]) (.region [⟨some 85, .mv (.t 13), none⟩, ⟨some 86, .mv (.t 1), none⟩, ⟨some 87, .ixs (.c (.string ⟨#[48, 49, 50, 51, 52, 53, 54, 55, 56, 57, 97, 98, 99, 100, 101, 102, 103, 104, 105, 106, 107, 108, 109, 110, 111, 112, 113, 114, 115, 116, 117, 118, 119, 120, 121, 122]⟩)) (.t 86), none⟩, ⟨some 88, .iaa 65 1 (.t 12) (.t 85), none⟩, ⟨none, .st 1 (.t 88) (.t 87), none⟩])))))) (.seq (.seq (.region [⟨some 89, .mv (.t 3), none⟩]) (.cond (.t 89) (.seq (.region [⟨some 90, .mv (.t 13), none⟩, ⟨some 91, .bin .sub (.t 90) (.c (.int .i64 1)), none⟩, ⟨some 13, .mv (.t 91), none⟩]) (.region [⟨some 92, .mv (.t 13), none⟩, ⟨some 93, .iaa 65 1 (.t 12) (.t 92), none⟩, ⟨none, .st 1 (.t 93) (.c (.int .u8 45)), none⟩])) (.skip))) (.seq (.seq (.region [⟨some 94, .mv (.t 4), none⟩]) (.cond (.t 94) (.seq (.region [⟨some 95, .mv (.t 0), none⟩, ⟨some 96, .mv (.t 13), none⟩, ⟨some 97, .sla 65 1 (.t 12) (some (.t 96)) none, none⟩, ⟨some 98, .app 1 1 (.t 95) (.t 97), none⟩, ⟨some 10, .mv (.t 98), none⟩]) (.ret)) (.skip))) (.seq (.region [⟨some 99, .mv (.t 13), none⟩, ⟨some 100, .sla 65 1 (.t 12) (some (.t 99)) none, none⟩, ⟨some 101, .b2s (.t 100), none⟩, ⟨some 11, .mv (.t 101), none⟩]) (.ret)))))))))
def R277 : List Res := [.t 10, .t 11]
/- 278 slices.Index[[]int,int] (drop) -/
def L278_0 : ACode := .loop [0, 1, 7, 8] (.seq (.region [⟨some 9, .bin .lss (.t 8) (.t 7), none⟩]) (.seq (.cond (.t 9) (.skip) (.exit 0)) (.seq (.block 1 (.seq (.region [⟨some 10, .mv (.t 8), none⟩, ⟨some 5, .mv (.t 10), none⟩]) (.seq (.region [⟨some 11, .mv (.t 1), none⟩, ⟨some 12, .mv (.t 0), none⟩, ⟨some 13, .mv (.t 5), none⟩, ⟨some 14, .ias 1 (.t 12) (.t 13), none⟩, ⟨some 15, .ld none (.t 14), none⟩, ⟨some 16, .bin .eql (.t 11) (.t 15), none⟩]) (.cond (.t 16) (.seq (.region [⟨some 17, .mv (.t 5), none⟩, ⟨some 4, .mv (.t 17), none⟩]) (.ret)) (.skip))))) (.region [⟨some 18, .bin .add (.t 8) (.c (.int .i64 1)), none⟩, ⟨some 8, .mv (.t 18), none⟩]))))
def B278 : ACode := .seq (.region [⟨some 4, .mv (.c (.int .i64 0)), none⟩]) (.seq (.seq (.region [⟨some 6, .mv (.t 0), none⟩, ⟨some 7, .len (.t 6), none⟩, ⟨some 8, .mv (.c (.int .i64 0)), none⟩]) (.block 0 (L278_0))) (.seq (.region [⟨some 4, .mv (.c (.int .i64 (-1))), none⟩]) (.ret)))
def R278 : List Res := [.t 4]
/- 283 timbre.check.Fault (drop) -/
def L283_0 : ACode := .loop [1, 3, 7, 8, 9] (.seq (.region [⟨some 10, .bin .lss (.t 9) (.t 8), none⟩]) (.seq (.cond (.t 10) (.skip) (.exit 0)) (.seq (.block 1 (.seq (.region [⟨some 11, .mv (.t 9), none⟩, ⟨some 12, .ias 7 (.t 7) (.t 9), none⟩, ⟨some 13, .ld (some 7) (.t 12), none⟩, ⟨some 5, .al (List.replicate 7 (.int .i64 0)), none⟩, ⟨some 4, .mv (.t 11), none⟩, ⟨none, .st 7 (.t 5) (.t 13), none⟩]) (.seq (.seq (.region [⟨some 14, .mv (.t 4), none⟩, ⟨some 15, .bin .eql (.t 14) (.c (.int .i64 65536)), none⟩, ⟨some 16, .mv (.t 15), none⟩, ⟨some 17, .ld (some 7) (.t 5), some (16, false)⟩, ⟨some 18, .fa 1 (.t 1), some (16, false)⟩, ⟨some 19, .ld none (.t 18), some (16, false)⟩, ⟨some 20, .call 294 [(.t 17), (.t 19)], some (16, false)⟩, ⟨some 21, .un .not (.t 20), some (16, false)⟩, ⟨some 22, .pick (.t 16) (.c (.bool true)) (.t 21), none⟩]) (.cond (.t 22) (.seq (.region [⟨some 23, .mv (.t 4), none⟩, ⟨some 2, .mv (.t 23), none⟩]) (.ret)) (.skip))) (.seq (.region [⟨some 24, .mv (.t 3), none⟩, ⟨some 25, .fa 4 (.t 5), none⟩, ⟨some 26, .ld none (.t 25), none⟩, ⟨some 27, .bin .add (.t 24) (.t 26), none⟩, ⟨some 3, .mv (.t 27), none⟩]) (.seq (.region [⟨some 28, .mv (.t 3), none⟩, ⟨some 29, .bin .gtr (.t 28) (.c (.int .i64 67108864)), none⟩]) (.cond (.t 29) (.seq (.region [⟨some 30, .mv (.t 4), none⟩, ⟨some 2, .mv (.t 30), none⟩]) (.ret)) (.skip))))))) (.region [⟨some 31, .bin .add (.t 9) (.c (.int .i64 1)), none⟩, ⟨some 9, .mv (.t 31), none⟩]))))
def B283 : ACode := .seq (.region [⟨some 1, .bx 5 (.t 0), none⟩, ⟨some 2, .mv (.c (.int .i64 0)), none⟩]) (.seq (.region [⟨some 3, .mv (.c (.int .i64 0)), none⟩]) (.seq (.seq (.region [⟨some 6, .fa 4 (.t 1), none⟩, ⟨some 7, .ld none (.t 6), none⟩, ⟨some 8, .len (.t 7), none⟩, ⟨some 9, .mv (.c (.int .i64 0)), none⟩]) (.block 0 (L283_0))) (.seq (.region [⟨some 2, .mv (.c (.int .i64 (-1))), none⟩]) (.ret))))
def R283 : List Res := [.t 2]
/- 284 timbre.fly.Fly (one) -/
def B284 : ACode := .seq (.region [⟨some 2, .mv (.c (.slice none 0 0)), none⟩, ⟨some 3, .mv (.c (.nilIface)), none⟩]) (.seq (.seq (.region [⟨some 8, .mv (.t 0), none⟩, ⟨some 9, .len (.t 8), none⟩]) (.block 0 (.seq (.region [⟨some 11, .bin .eql (.t 9) (.c (.int .i64 2)), none⟩, ⟨some 10, .mv (.t 11), none⟩]) (.cond (.t 10) (.seq (.region [⟨some 12, .mv (.t 0), none⟩, ⟨some 13, .s2a 2 (.t 12), none⟩, ⟨some 14, .ld (some 2) (.t 13), none⟩, ⟨some 15, .call 295 [(.t 14)], none⟩, ⟨some 4, .al [.complex .f64 0 0, .complex .f64 0 0], none⟩, ⟨none, .st 2 (.t 4) (.t 15), none⟩]) (.seq (.region [⟨some 16, .sla 2 1 (.t 4) none none, none⟩, ⟨some 2, .mv (.t 16), none⟩, ⟨some 3, .mv (.c (.nilIface)), none⟩]) (.ret))) (.seq (.region [⟨some 18, .bin .eql (.t 9) (.c (.int .i64 3)), none⟩, ⟨some 17, .mv (.t 18), none⟩]) (.cond (.t 17) (.seq (.region [⟨some 19, .mv (.t 0), none⟩, ⟨some 20, .s2a 3 (.t 19), none⟩, ⟨some 21, .ld (some 3) (.t 20), none⟩, ⟨some 22, .call 296 [(.t 21)], none⟩, ⟨some 5, .al [.complex .f64 0 0, .complex .f64 0 0, .complex .f64 0 0], none⟩, ⟨none, .st 3 (.t 5) (.t 22), none⟩]) (.seq (.region [⟨some 23, .sla 3 1 (.t 5) none none, none⟩, ⟨some 2, .mv (.t 23), none⟩, ⟨some 3, .mv (.c (.nilIface)), none⟩]) (.ret))) (.seq (.region [⟨some 25, .bin .eql (.t 9) (.c (.int .i64 4)), none⟩, ⟨some 24, .mv (.t 25), none⟩]) (.cond (.t 24) (.seq (.region [⟨some 26, .mv (.t 0), none⟩, ⟨some 27, .s2a 4 (.t 26), none⟩, ⟨some 28, .ld (some 4) (.t 27), none⟩, ⟨some 29, .call 297 [(.t 28)], none⟩, ⟨some 6, .al [.complex .f64 0 0, .complex .f64 0 0, .complex .f64 0 0, .complex .f64 0 0], none⟩, ⟨none, .st 4 (.t 6) (.t 29), none⟩]) (.seq (.region [⟨some 30, .sla 4 1 (.t 6) none none, none⟩, ⟨some 2, .mv (.t 30), none⟩, ⟨some 3, .mv (.c (.nilIface)), none⟩]) (.ret))) (.seq (.region [⟨some 32, .bin .eql (.t 9) (.c (.int .i64 5)), none⟩, ⟨some 31, .mv (.t 32), none⟩]) (.cond (.t 31) (.seq (.region [⟨some 33, .mv (.t 0), none⟩, ⟨some 34, .s2a 5 (.t 33), none⟩, ⟨some 35, .ld (some 5) (.t 34), none⟩, ⟨some 36, .call 298 [(.t 35)], none⟩, ⟨some 7, .al [.complex .f64 0 0, .complex .f64 0 0, .complex .f64 0 0, .complex .f64 0 0, .complex .f64 0 0], none⟩, ⟨none, .st 5 (.t 7) (.t 36), none⟩]) (.seq (.region [⟨some 37, .sla 5 1 (.t 7) none none, none⟩, ⟨some 2, .mv (.t 37), none⟩, ⟨some 3, .mv (.c (.nilIface)), none⟩]) (.ret))) (.skip))))))))))) (.seq (.draw 0 [.run 0 0 ⟨some 38, .ld none (.c (ptr 1 0 0)), none⟩, .run 1 0 ⟨some 2, .mv (.c (.slice none 0 0)), none⟩, .run 2 0 ⟨some 3, .mv (.t 38), none⟩]) (.ret)))
def R284 : List Res := [.t 2, .t 3]
/- 285 timbre.direct.At (drop) -/
def B285 : ACode := .seq (.region [⟨some 5, .bx 1 (.t 0), none⟩, ⟨some 6, .bx 1 (.t 1), none⟩, ⟨some 7, .bx 1 (.t 2), none⟩, ⟨some 10, .mv (.c (.complex .f64 0 0)), none⟩, ⟨some 11, .mv (.c (.nilIface)), none⟩]) (.seq (.region [⟨some 15, .mv (.t 3), none⟩, ⟨some 16, .call 299 [(.t 15)], none⟩, ⟨some 14, .mv (.t 16), none⟩, ⟨some 17, .ext (.t 14) 0, none⟩, ⟨some 18, .ext (.t 14) 1, none⟩, ⟨some 12, .mv (.t 17), none⟩, ⟨some 13, .mv (.t 18), none⟩]) (.seq (.seq (.region [⟨some 19, .mv (.t 13), none⟩, ⟨some 20, .eqi 329 true (.t 19) (.c (.nilIface)), none⟩]) (.cond (.t 20) (.seq (.region [⟨some 21, .mv (.t 13), none⟩, ⟨some 10, .mv (.c (.complex .f64 0 0)), none⟩, ⟨some 11, .mv (.t 21), none⟩]) (.ret)) (.skip))) (.seq (.seq (.draw 0 [.run 0 0 ⟨some 22, .ld none (.t 6), none⟩, .run 1 0 ⟨some 23, .bin .lss (.t 22) (.c (.int .i64 0)), none⟩, .run 2 0 ⟨some 24, .mv (.t 23), none⟩, .run 3 0 ⟨some 25, .ld none (.t 6), some (24, false)⟩, .run 4 0 ⟨some 26, .ld none (.t 5), some (24, false)⟩, .run 5 0 ⟨some 27, .len (.t 26), some (24, false)⟩, .run 6 0 ⟨some 28, .bin .geq (.t 25) (.t 27), some (24, false)⟩, .run 7 0 ⟨some 29, .pick (.t 24) (.c (.bool true)) (.t 28), none⟩, .run 8 0 ⟨some 30, .mv (.t 29), none⟩, .run 9 0 ⟨some 31, .ld none (.t 7), some (30, false)⟩, .run 10 0 ⟨some 32, .bin .lss (.t 31) (.c (.int .i64 1)), some (30, false)⟩, .run 11 0 ⟨some 33, .pick (.t 30) (.c (.bool true)) (.t 32), none⟩, .run 12 0 ⟨some 34, .mv (.t 33), none⟩, .run 13 0 ⟨some 35, .mv (.t 3), some (34, false)⟩, .run 14 0 ⟨some 36, .bin .gtr (.t 35) (.c (.int .i64 1)), some (34, false)⟩, .run 15 0 ⟨some 37, .mv (.t 36), some (34, false)⟩, .run 16 0 ⟨some 38, .ld none (.t 7), some (37, true)⟩, .run 17 0 ⟨some 39, .ld none (.t 5), some (37, true)⟩, .run 18 0 ⟨some 40, .len (.t 39), some (37, true)⟩, .run 19 0 ⟨some 41, .bin .sub (.t 40) (.c (.int .i64 1)), some (37, true)⟩, .run 20 0 ⟨some 42, .ld none (.t 6), some (37, true)⟩, .run 21 0 ⟨some 43, .bin .sub (.t 41) (.t 42), some (37, true)⟩, .run 22 0 ⟨some 44, .mv (.t 3), some (37, true)⟩, .run 23 0 ⟨some 45, .bin .sub (.t 44) (.c (.int .i64 1)), some (37, true)⟩, .run 24 0 ⟨some 46, .bin .quo (.t 43) (.t 45), some (37, true)⟩, .run 25 0 ⟨some 47, .bin .gtr (.t 38) (.t 46), some (37, true)⟩, .run 26 0 ⟨some 48, .pick (.t 37) (.t 47) (.c (.bool false)), some (34, false)⟩, .run 27 0 ⟨some 49, .pick (.t 34) (.c (.bool true)) (.t 48), none⟩]) (.cond (.t 49) (.seq (.draw 0 [.run 0 0 ⟨some 50, .ld none (.c (ptr 6 0 0)), none⟩, .run 1 0 ⟨some 10, .mv (.c (.complex .f64 0 0)), none⟩, .run 2 0 ⟨some 11, .mv (.t 50), none⟩]) (.ret)) (.skip))) (.seq (.region [⟨some 51, .mv (.t 12), none⟩, ⟨some 52, .mv (.t 4), none⟩, ⟨some 53, .mkf 301 [(.t 5), (.t 6), (.t 7)], none⟩, ⟨some 54, .call 300 [(.t 51), (.t 52), (.t 53)], none⟩, ⟨some 10, .mv (.t 54), none⟩, ⟨some 11, .mv (.c (.nilIface)), none⟩]) (.ret)))))
def R285 : List Res := [.t 10, .t 11]
/- 286 timbre.chirp.At (drop) -/
def B286 : ACode := .seq (.region [⟨some 4, .mv (.c (.complex .f64 0 0)), none⟩, ⟨some 5, .mv (.c (.nilIface)), none⟩]) (.seq (.seq (.region [⟨some 7, .mv (.t 0), none⟩, ⟨some 8, .bin .lss (.t 7) (.c (.int .i64 1)), none⟩, ⟨some 9, .mv (.t 8), none⟩, ⟨some 10, .mv (.t 0), some (9, false)⟩, ⟨some 11, .bin .gtr (.t 10) (.c (.int .i64 16384)), some (9, false)⟩, ⟨some 12, .pick (.t 9) (.c (.bool true)) (.t 11), none⟩]) (.cond (.t 12) (.seq (.draw 0 [.run 0 0 ⟨some 13, .ld none (.c (ptr 1 0 0)), none⟩, .run 1 0 ⟨some 4, .mv (.c (.complex .f64 0 0)), none⟩, .run 2 0 ⟨some 5, .mv (.t 13), none⟩]) (.ret)) (.skip))) (.seq (.region [⟨some 14, .mv (.t 1), none⟩, ⟨some 15, .mv (.t 0), none⟩, ⟨some 16, .bin .mul (.c (.int .i64 2)) (.t 15), none⟩, ⟨some 17, .call 302 [(.t 14), (.t 16)], none⟩, ⟨some 6, .mv (.t 17), none⟩]) (.seq (.region [⟨some 18, .mv (.t 0), none⟩, ⟨some 19, .bin .mul (.c (.int .i64 2)) (.t 18), none⟩, ⟨some 20, .mv (.t 6), none⟩, ⟨some 21, .mv (.t 6), none⟩, ⟨some 22, .bin .mul (.t 20) (.t 21), none⟩, ⟨some 23, .call 99 [(.t 19), (.t 22)], none⟩, ⟨some 24, .ext (.t 23) 0, none⟩, ⟨some 25, .ext (.t 23) 1, none⟩, ⟨some 4, .mv (.t 24), none⟩, ⟨some 5, .mv (.t 25), none⟩]) (.ret))))
def R286 : List Res := [.t 4, .t 5]
/- 287 (*timbre.machine.Machine).fill (keep) -/
def B287 : ACode := .seq (.region [⟨some 3, .bx 7 (.t 1), none⟩, ⟨some 4, .mv (.c (.slice none 0 0)), none⟩]) (.seq (.seq (.draw 0 [.run 0 0 ⟨some 5, .mv (.t 0), none⟩, .run 1 0 ⟨some 6, .nilck (.t 5), none⟩, .run 2 0 ⟨some 7, .fa 12 (.t 6), none⟩, .run 3 0 ⟨some 8, .ld (some 7) (.t 7), none⟩, .run 4 0 ⟨some 9, .ld (some 7) (.t 3), none⟩, .run 5 0 ⟨some 10, .eqs true 7 (.t 8) (.t 9), none⟩]) (.cond (.t 10) (.seq (.region [⟨some 12, .mv (.t 0), none⟩, ⟨some 13, .fa 5 (.t 3), none⟩, ⟨some 14, .ld none (.t 13), none⟩, ⟨some 15, .fa 4 (.t 3), none⟩, ⟨some 16, .ld none (.t 15), none⟩, ⟨some 17, .call 303 [(.t 14), (.t 16)], none⟩, ⟨some 11, .mv (.t 17), none⟩, ⟨some 18, .ext (.t 11) 0, none⟩, ⟨some 19, .ext (.t 11) 1, none⟩, ⟨some 20, .nilck (.t 12), none⟩, ⟨some 21, .fa 11 (.t 20), none⟩, ⟨none, .st 1 (.t 21) (.t 18), none⟩]) (.region [⟨some 22, .mv (.t 0), none⟩, ⟨some 23, .ld (some 7) (.t 3), none⟩, ⟨some 24, .nilck (.t 22), none⟩, ⟨some 25, .fa 12 (.t 24), none⟩, ⟨none, .st 7 (.t 25) (.t 23), none⟩])) (.skip))) (.seq (.region [⟨some 26, .mv (.t 0), none⟩, ⟨some 27, .nilck (.t 26), none⟩, ⟨some 28, .fa 11 (.t 27), none⟩, ⟨some 29, .ld none (.t 28), none⟩, ⟨some 4, .mv (.t 29), none⟩]) (.ret)))
def R287 : List Res := [.t 4]
/- 288 internal.strconv.log10Pow2 (keep) -/
def B288 : ACode := .seq (.region [⟨some 2, .mv (.c (.int .i64 0)), none⟩]) (.seq (.region [⟨some 3, .mv (.t 0), none⟩, ⟨some 4, .bin .mul (.t 3) (.c (.int .i64 78913)), none⟩, ⟨some 5, .bin .shr (.t 4) (.c (.int .u64 18)), none⟩, ⟨some 2, .mv (.t 5), none⟩]) (.ret))
def R288 : List Res := [.t 2]
/- 289 math.bits.Len64 (drop) -/
def B289 : ACode := .seq (.region [⟨some 2, .mv (.c (.int .i64 0)), none⟩]) (.seq (.seq (.region [⟨some 3, .mv (.t 0), none⟩, ⟨some 4, .bin .geq (.t 3) (.c (.int .u64 4294967296)), none⟩]) (.cond (.t 4) (.seq (.region [⟨some 5, .mv (.t 0), none⟩, ⟨some 6, .bin .shr (.t 5) (.c (.int .u64 32)), none⟩, ⟨some 0, .mv (.t 6), none⟩]) (.region [⟨some 2, .mv (.c (.int .i64 32)), none⟩])) (.skip))) (.seq (.seq (.region [⟨some 7, .mv (.t 0), none⟩, ⟨some 8, .bin .geq (.t 7) (.c (.int .u64 65536)), none⟩]) (.cond (.t 8) (.seq (.region [⟨some 9, .mv (.t 0), none⟩, ⟨some 10, .bin .shr (.t 9) (.c (.int .u64 16)), none⟩, ⟨some 0, .mv (.t 10), none⟩]) (.region [⟨some 11, .mv (.t 2), none⟩, ⟨some 12, .bin .add (.t 11) (.c (.int .i64 16)), none⟩, ⟨some 2, .mv (.t 12), none⟩])) (.skip))) (.seq (.seq (.region [⟨some 13, .mv (.t 0), none⟩, ⟨some 14, .bin .geq (.t 13) (.c (.int .u64 256)), none⟩]) (.cond (.t 14) (.seq (.region [⟨some 15, .mv (.t 0), none⟩, ⟨some 16, .bin .shr (.t 15) (.c (.int .u64 8)), none⟩, ⟨some 0, .mv (.t 16), none⟩]) (.region [⟨some 17, .mv (.t 2), none⟩, ⟨some 18, .bin .add (.t 17) (.c (.int .i64 8)), none⟩, ⟨some 2, .mv (.t 18), none⟩])) (.skip))) (.seq (.region [⟨some 19, .mv (.t 2), none⟩, ⟨some 20, .mv (.t 0), none⟩, ⟨some 21, .ci .u8 (.t 20), none⟩, ⟨some 22, .ixs (.c (.string ⟨#[0, 1, 2, 2, 3, 3, 3, 3, 4, 4, 4, 4, 4, 4, 4, 4, 5, 5, 5, 5, 5, 5, 5, 5, 5, 5, 5, 5, 5, 5, 5, 5, 6, 6, 6, 6, 6, 6, 6, 6, 6, 6, 6, 6, 6, 6, 6, 6, 6, 6, 6, 6, 6, 6, 6, 6, 6, 6, 6, 6, 6, 6, 6, 6, 7, 7, 7, 7, 7, 7, 7, 7, 7, 7, 7, 7, 7, 7, 7, 7, 7, 7, 7, 7, 7, 7, 7, 7, 7, 7, 7, 7, 7, 7, 7, 7, 7, 7, 7, 7, 7, 7, 7, 7, 7, 7, 7, 7, 7, 7, 7, 7, 7, 7, 7, 7, 7, 7, 7, 7, 7, 7, 7, 7, 7, 7, 7, 7, 8, 8, 8, 8, 8, 8, 8, 8, 8, 8, 8, 8, 8, 8, 8, 8, 8, 8, 8, 8, 8, 8, 8, 8, 8, 8, 8, 8, 8, 8, 8, 8, 8, 8, 8, 8, 8, 8, 8, 8, 8, 8, 8, 8, 8, 8, 8, 8, 8, 8, 8, 8, 8, 8, 8, 8, 8, 8, 8, 8, 8, 8, 8, 8, 8, 8, 8, 8, 8, 8, 8, 8, 8, 8, 8, 8, 8, 8, 8, 8, 8, 8, 8, 8, 8, 8, 8, 8, 8, 8, 8, 8, 8, 8, 8, 8, 8, 8, 8, 8, 8, 8, 8, 8, 8, 8, 8, 8, 8, 8, 8, 8, 8, 8, 8, 8, 8, 8, 8, 8, 8, 8, 8, 8, 8, 8, 8, 8]⟩)) (.t 21), none⟩, ⟨some 23, .ci .i64 (.t 22), none⟩, ⟨some 24, .bin .add (.t 19) (.t 23), none⟩, ⟨some 2, .mv (.t 24), none⟩]) (.ret)))))
def R289 : List Res := [.t 2]
/- 290 internal.strconv.bool2[int] (keep) -/
def B290 : ACode := .seq (.region [⟨some 2, .mv (.c (.int .i64 0)), none⟩]) (.seq (.seq (.region [⟨some 3, .mv (.t 0), none⟩]) (.cond (.t 3) (.seq (.region [⟨some 2, .mv (.c (.int .i64 1)), none⟩]) (.ret)) (.skip))) (.seq (.region [⟨some 2, .mv (.c (.int .i64 0)), none⟩]) (.ret)))
def R290 : List Res := [.t 2]
/- 291 internal.strconv.isPowerOfTwo (keep) -/
def B291 : ACode := .seq (.region [⟨some 2, .mv (.c (.bool false)), none⟩]) (.seq (.region [⟨some 3, .mv (.t 0), none⟩, ⟨some 4, .mv (.t 0), none⟩, ⟨some 5, .bin .sub (.t 4) (.c (.int .i64 1)), none⟩, ⟨some 6, .bin .and (.t 3) (.t 5), none⟩, ⟨some 7, .bin .eql (.t 6) (.c (.int .i64 0)), none⟩, ⟨some 2, .mv (.t 7), none⟩]) (.ret))
def R291 : List Res := [.t 2]
/- 292 math.bits.TrailingZeros (drop) -/
def B292 : ACode := .seq (.region [⟨some 2, .mv (.c (.int .i64 0)), none⟩]) (.seq (.cond (.c (.bool false)) (.seq (.region [⟨some 3, .mv (.t 0), none⟩, ⟨some 4, .ci .u32 (.t 3), none⟩, ⟨some 5, .call 304 [(.t 4)], none⟩, ⟨some 2, .mv (.t 5), none⟩]) (.ret)) (.skip)) (.seq (.region [⟨some 6, .mv (.t 0), none⟩, ⟨some 7, .call 305 [(.t 6)], none⟩, ⟨some 2, .mv (.t 7), none⟩]) (.ret)))
def R292 : List Res := [.t 2]
/- 294 timbre.check.good (drop) -/
def L294_1 : ACode := .loop [1, 2, 6, 9, 38, 39, 40, 51, 52] (.seq (.region [⟨some 53, .bin .lss (.t 52) (.t 51), none⟩]) (.seq (.cond (.t 53) (.skip) (.exit 2)) (.seq (.block 3 (.seq (.region [⟨some 54, .mv (.t 52), none⟩, ⟨some 10, .mv (.t 54), none⟩]) (.seq (.region [⟨some 55, .ld (some 3) (.t 6), none⟩, ⟨some 56, .fa 0 (.t 9), none⟩, ⟨some 57, .fa 0 (.t 56), none⟩, ⟨some 58, .ld none (.t 57), none⟩, ⟨some 59, .mv (.t 10), none⟩, ⟨some 60, .fa 0 (.t 9), none⟩, ⟨some 61, .fa 1 (.t 60), none⟩, ⟨some 62, .ld none (.t 61), none⟩, ⟨some 63, .bin .mul (.t 59) (.t 62), none⟩, ⟨some 64, .bin .add (.t 58) (.t 63), none⟩, ⟨some 65, .call 310 [(.t 55), (.t 64)], none⟩, ⟨some 11, .mv (.t 65), none⟩]) (.seq (.seq (.region [⟨some 66, .mv (.t 11), none⟩, ⟨some 67, .bin .lss (.t 66) (.c (.int .i64 0)), none⟩]) (.cond (.t 67) (.exit 3) (.skip))) (.seq (.region [⟨some 68, .mv (.t 11), none⟩, ⟨some 69, .mv (.t 10), none⟩, ⟨some 70, .bin .neq (.t 68) (.t 69), none⟩, ⟨some 71, .mv (.t 70), none⟩, ⟨some 72, .fa 3 (.t 9), some (71, true)⟩, ⟨some 73, .ld none (.t 72), some (71, true)⟩, ⟨some 74, .un .not (.t 73), some (71, true)⟩, ⟨some 75, .pick (.t 71) (.t 74) (.c (.bool false)), none⟩, ⟨some 76, .mv (.t 75), none⟩, ⟨some 77, .fa 3 (.t 9), some (76, false)⟩, ⟨some 78, .ld none (.t 77), some (76, false)⟩, ⟨some 79, .mv (.t 78), some (76, false)⟩, ⟨some 80, .fa 4 (.t 2), some (79, true)⟩, ⟨some 81, .ld none (.t 80), some (79, true)⟩, ⟨some 82, .bin .gtr (.t 81) (.c (.int .i64 1)), some (79, true)⟩, ⟨some 83, .pick (.t 79) (.t 82) (.c (.bool false)), some (76, false)⟩, ⟨some 84, .pick (.t 76) (.c (.bool true)) (.t 83), none⟩]) (.cond (.t 84) (.seq (.region [⟨some 4, .mv (.c (.bool false)), none⟩]) (.ret)) (.skip))))))) (.region [⟨some 85, .bin .add (.t 52) (.c (.int .i64 1)), none⟩, ⟨some 52, .mv (.t 85), none⟩]))))
def L294_0 : ACode := .loop [1, 2, 6, 38, 39, 40] (.seq (.region [⟨some 41, .bin .lss (.t 40) (.t 39), none⟩]) (.seq (.cond (.t 41) (.skip) (.exit 0)) (.seq (.block 1 (.seq (.region [⟨some 42, .ias 4 (.t 38) (.t 40), none⟩, ⟨some 43, .ld (some 4) (.t 42), none⟩, ⟨some 9, .al [.int .i64 0, .int .i64 0, .int .i64 0, .bool false], none⟩, ⟨none, .st 4 (.t 9) (.t 43), none⟩]) (.seq (.seq (.region [⟨some 44, .fa 0 (.t 9), none⟩, ⟨some 45, .ld (some 3) (.t 44), none⟩, ⟨some 46, .call 308 [(.t 45)], none⟩, ⟨some 47, .mv (.t 1), none⟩, ⟨some 48, .bin .geq (.t 46) (.t 47), none⟩]) (.cond (.t 48) (.seq (.region [⟨some 4, .mv (.c (.bool false)), none⟩]) (.ret)) (.skip))) (.seq (.region [⟨some 49, .fa 0 (.t 9), none⟩, ⟨some 50, .fa 2 (.t 49), none⟩, ⟨some 51, .ld none (.t 50), none⟩, ⟨some 52, .mv (.c (.int .i64 0)), none⟩]) (.block 2 (L294_1)))))) (.region [⟨some 86, .bin .add (.t 40) (.c (.int .i64 1)), none⟩, ⟨some 40, .mv (.t 86), none⟩]))))
def B294 : ACode := .seq (.region [⟨some 2, .bx 7 (.t 0), none⟩, ⟨some 4, .mv (.c (.bool false)), none⟩]) (.seq (.seq (.region [⟨some 12, .ld (some 7) (.t 2), none⟩, ⟨some 13, .call 306 [(.t 12)], none⟩, ⟨some 14, .eqi 329 true (.t 13) (.c (.nilIface)), none⟩]) (.cond (.t 14) (.seq (.region [⟨some 4, .mv (.c (.bool false)), none⟩]) (.ret)) (.skip))) (.seq (.seq (.region [⟨some 15, .fa 0 (.t 2), none⟩, ⟨some 16, .ld none (.t 15), none⟩, ⟨some 17, .bin .eql (.t 16) (.c (.int .i64 5)), none⟩]) (.cond (.t 17) (.seq (.draw 0 [.run 0 0 ⟨some 18, .ld (some 7) (.t 2), none⟩, .run 2 0 ⟨some 20, .fa 5 (.t 2), none⟩, .run 3 0 ⟨some 21, .ld none (.t 20), none⟩, .run 4 0 ⟨some 22, .bin .sub (.t 21) (.c (.int .i64 1)), none⟩, .run 8 0 ⟨some 26, .mv (.t 1), none⟩, .run 1 0 ⟨some 19, .call 307 [(.t 18)], none⟩, .again 3 ⟨some 21, .ld none (.t 20), none⟩, .run 5 0 ⟨some 23, .ias 3 (.t 19) (.t 22), none⟩, .run 6 0 ⟨some 24, .ld (some 3) (.t 23), none⟩, .run 7 0 ⟨some 25, .call 308 [(.t 24)], none⟩, .run 9 0 ⟨some 27, .bin .lss (.t 25) (.t 26), none⟩, .run 10 0 ⟨some 4, .mv (.t 27), none⟩]) (.ret)) (.skip))) (.seq (.region [⟨some 29, .ld (some 7) (.t 2), none⟩, ⟨some 30, .call 309 [(.t 29)], none⟩, ⟨some 28, .mv (.t 30), none⟩, ⟨some 31, .ext (.t 28) 0, none⟩, ⟨some 32, .ext (.t 28) 1, none⟩, ⟨some 33, .ext (.t 28) 2, none⟩, ⟨some 6, .al [.int .i64 0, .int .i64 0, .int .i64 0], none⟩, ⟨some 5, .mv (.t 31), none⟩, ⟨none, .st 3 (.t 6) (.t 32), none⟩, ⟨some 7, .mv (.t 33), none⟩]) (.seq (.seq (.region [⟨some 34, .ld (some 3) (.t 6), none⟩, ⟨some 35, .call 308 [(.t 34)], none⟩, ⟨some 36, .mv (.t 1), none⟩, ⟨some 37, .bin .geq (.t 35) (.t 36), none⟩]) (.cond (.t 37) (.seq (.region [⟨some 4, .mv (.c (.bool false)), none⟩]) (.ret)) (.skip))) (.seq (.seq (.region [⟨some 38, .mv (.t 5), none⟩, ⟨some 39, .len (.t 38), none⟩, ⟨some 40, .mv (.c (.int .i64 0)), none⟩]) (.block 0 (L294_0))) (.seq (.region [⟨some 4, .mv (.c (.bool true)), none⟩]) (.ret)))))))
def R294 : List Res := [.t 4]
/- 295 timbre.fly.Two (keep) -/
def B295 : ACode := .seq (.region [⟨some 1, .bx 2 (.t 0), none⟩, ⟨some 2, .al [.complex .f64 0 0, .complex .f64 0 0], none⟩]) (.seq (.draw 0 [.run 0 0 ⟨some 3, .iaa 2 1 (.t 1) (.c (.int .i64 0)), none⟩, .run 1 0 ⟨some 4, .ld none (.t 3), none⟩, .run 2 0 ⟨some 5, .iaa 2 1 (.t 1) (.c (.int .i64 1)), none⟩, .run 3 0 ⟨some 6, .ld none (.t 5), none⟩, .run 5 0 ⟨some 8, .iaa 2 1 (.t 1) (.c (.int .i64 0)), none⟩, .run 6 0 ⟨some 9, .ld none (.t 8), none⟩, .run 7 0 ⟨some 10, .iaa 2 1 (.t 1) (.c (.int .i64 1)), none⟩, .run 8 0 ⟨some 11, .ld none (.t 10), none⟩, .run 4 0 ⟨some 7, .call 311 [(.t 4), (.t 6)], none⟩, .again 6 ⟨some 9, .ld none (.t 8), none⟩, .again 8 ⟨some 11, .ld none (.t 10), none⟩, .run 9 0 ⟨some 12, .call 312 [(.t 9), (.t 11)], none⟩, .run 10 0 ⟨some 13, .mk [.complex .f64 0 0, .complex .f64 0 0] [(0, 1, (.t 7)), (1, 1, (.t 12))], none⟩, .run 11 0 ⟨none, .st 2 (.t 2) (.t 13), none⟩]) (.ret))
def R295 : List Res := [.cell 2 (some 2)]
/- 296 timbre.fly.Three (keep) -/
def B296 : ACode := .seq (.region [⟨some 1, .bx 3 (.t 0), none⟩, ⟨some 2, .al [.complex .f64 0 0, .complex .f64 0 0, .complex .f64 0 0], none⟩]) (.seq (.region [⟨some 6, .iaa 3 1 (.t 1) (.c (.int .i64 1)), none⟩, ⟨some 7, .ld none (.t 6), none⟩, ⟨some 8, .iaa 3 1 (.t 1) (.c (.int .i64 2)), none⟩, ⟨some 9, .ld none (.t 8), none⟩, ⟨some 10, .call 311 [(.t 7), (.t 9)], none⟩, ⟨some 3, .mv (.t 10), none⟩]) (.seq (.region [⟨some 11, .iaa 3 1 (.t 1) (.c (.int .i64 1)), none⟩, ⟨some 12, .ld none (.t 11), none⟩, ⟨some 13, .iaa 3 1 (.t 1) (.c (.int .i64 2)), none⟩, ⟨some 14, .ld none (.t 13), none⟩, ⟨some 15, .call 312 [(.t 12), (.t 14)], none⟩, ⟨some 16, .call 79 [(.t 15), (.c (.float .f64 4605975682916830378))], none⟩, ⟨some 4, .mv (.t 16), none⟩]) (.seq (.draw 0 [.run 0 0 ⟨some 17, .iaa 3 1 (.t 1) (.c (.int .i64 0)), none⟩, .run 1 0 ⟨some 18, .ld none (.t 17), none⟩, .run 2 0 ⟨some 19, .mv (.t 3), none⟩, .run 3 0 ⟨some 20, .call 79 [(.t 19), (.c (.float .f64 4602678819172646912))], none⟩, .again 1 ⟨some 18, .ld none (.t 17), none⟩, .run 4 0 ⟨some 21, .call 312 [(.t 18), (.t 20)], none⟩, .run 5 0 ⟨some 5, .mv (.t 21), none⟩]) (.seq (.region [⟨some 22, .iaa 3 1 (.t 1) (.c (.int .i64 0)), none⟩, ⟨some 23, .ld none (.t 22), none⟩, ⟨some 24, .mv (.t 3), none⟩, ⟨some 25, .call 311 [(.t 23), (.t 24)], none⟩, ⟨some 26, .mv (.t 5), none⟩, ⟨some 27, .mv (.t 4), none⟩, ⟨some 28, .call 80 [(.t 27)], none⟩, ⟨some 29, .call 311 [(.t 26), (.t 28)], none⟩, ⟨some 30, .mv (.t 5), none⟩, ⟨some 31, .mv (.t 4), none⟩, ⟨some 32, .call 105 [(.t 31)], none⟩, ⟨some 33, .call 311 [(.t 30), (.t 32)], none⟩, ⟨some 34, .mk [.complex .f64 0 0, .complex .f64 0 0, .complex .f64 0 0] [(0, 1, (.t 25)), (1, 1, (.t 29)), (2, 1, (.t 33))], none⟩, ⟨none, .st 3 (.t 2) (.t 34), none⟩]) (.ret)))))
def R296 : List Res := [.cell 2 (some 3)]
/- 297 timbre.fly.Four (keep) -/
def B297 : ACode := .seq (.region [⟨some 1, .bx 4 (.t 0), none⟩, ⟨some 2, .al [.complex .f64 0 0, .complex .f64 0 0, .complex .f64 0 0, .complex .f64 0 0], none⟩]) (.seq (.draw 0 [.run 0 0 ⟨some 7, .iaa 4 1 (.t 1) (.c (.int .i64 0)), none⟩, .run 1 0 ⟨some 8, .ld none (.t 7), none⟩, .run 2 0 ⟨some 9, .iaa 4 1 (.t 1) (.c (.int .i64 2)), none⟩, .run 3 0 ⟨some 10, .ld none (.t 9), none⟩, .run 5 0 ⟨some 12, .iaa 4 1 (.t 1) (.c (.int .i64 0)), none⟩, .run 6 0 ⟨some 13, .ld none (.t 12), none⟩, .run 7 0 ⟨some 14, .iaa 4 1 (.t 1) (.c (.int .i64 2)), none⟩, .run 8 0 ⟨some 15, .ld none (.t 14), none⟩, .run 4 0 ⟨some 11, .call 311 [(.t 8), (.t 10)], none⟩, .again 6 ⟨some 13, .ld none (.t 12), none⟩, .again 8 ⟨some 15, .ld none (.t 14), none⟩, .run 9 0 ⟨some 16, .call 312 [(.t 13), (.t 15)], none⟩, .run 10 0 ⟨some 3, .mv (.t 11), none⟩, .run 11 0 ⟨some 4, .mv (.t 16), none⟩]) (.seq (.draw 0 [.run 0 0 ⟨some 17, .iaa 4 1 (.t 1) (.c (.int .i64 1)), none⟩, .run 1 0 ⟨some 18, .ld none (.t 17), none⟩, .run 2 0 ⟨some 19, .iaa 4 1 (.t 1) (.c (.int .i64 3)), none⟩, .run 3 0 ⟨some 20, .ld none (.t 19), none⟩, .run 5 0 ⟨some 22, .iaa 4 1 (.t 1) (.c (.int .i64 1)), none⟩, .run 6 0 ⟨some 23, .ld none (.t 22), none⟩, .run 7 0 ⟨some 24, .iaa 4 1 (.t 1) (.c (.int .i64 3)), none⟩, .run 8 0 ⟨some 25, .ld none (.t 24), none⟩, .run 4 0 ⟨some 21, .call 311 [(.t 18), (.t 20)], none⟩, .again 6 ⟨some 23, .ld none (.t 22), none⟩, .again 8 ⟨some 25, .ld none (.t 24), none⟩, .run 9 0 ⟨some 26, .call 312 [(.t 23), (.t 25)], none⟩, .run 10 0 ⟨some 5, .mv (.t 21), none⟩, .run 11 0 ⟨some 6, .mv (.t 26), none⟩]) (.seq (.region [⟨some 27, .mv (.t 3), none⟩, ⟨some 28, .mv (.t 5), none⟩, ⟨some 29, .call 311 [(.t 27), (.t 28)], none⟩, ⟨some 30, .mv (.t 4), none⟩, ⟨some 31, .mv (.t 6), none⟩, ⟨some 32, .call 80 [(.t 31)], none⟩, ⟨some 33, .call 311 [(.t 30), (.t 32)], none⟩, ⟨some 34, .mv (.t 3), none⟩, ⟨some 35, .mv (.t 5), none⟩, ⟨some 36, .call 312 [(.t 34), (.t 35)], none⟩, ⟨some 37, .mv (.t 4), none⟩, ⟨some 38, .mv (.t 6), none⟩, ⟨some 39, .call 105 [(.t 38)], none⟩, ⟨some 40, .call 311 [(.t 37), (.t 39)], none⟩, ⟨some 41, .mk [.complex .f64 0 0, .complex .f64 0 0, .complex .f64 0 0, .complex .f64 0 0] [(0, 1, (.t 29)), (1, 1, (.t 33)), (2, 1, (.t 36)), (3, 1, (.t 40))], none⟩, ⟨none, .st 4 (.t 2) (.t 41), none⟩]) (.ret))))
def R297 : List Res := [.cell 2 (some 4)]
/- 298 timbre.fly.Five (keep) -/
def B298 : ACode := .seq (.region [⟨some 1, .bx 5 (.t 0), none⟩, ⟨some 2, .al [.complex .f64 0 0, .complex .f64 0 0, .complex .f64 0 0, .complex .f64 0 0, .complex .f64 0 0], none⟩]) (.seq (.draw 0 [.run 0 0 ⟨some 11, .iaa 5 1 (.t 1) (.c (.int .i64 1)), none⟩, .run 1 0 ⟨some 12, .ld none (.t 11), none⟩, .run 2 0 ⟨some 13, .iaa 5 1 (.t 1) (.c (.int .i64 4)), none⟩, .run 3 0 ⟨some 14, .ld none (.t 13), none⟩, .run 5 0 ⟨some 16, .iaa 5 1 (.t 1) (.c (.int .i64 1)), none⟩, .run 6 0 ⟨some 17, .ld none (.t 16), none⟩, .run 7 0 ⟨some 18, .iaa 5 1 (.t 1) (.c (.int .i64 4)), none⟩, .run 8 0 ⟨some 19, .ld none (.t 18), none⟩, .run 4 0 ⟨some 15, .call 311 [(.t 12), (.t 14)], none⟩, .again 6 ⟨some 17, .ld none (.t 16), none⟩, .again 8 ⟨some 19, .ld none (.t 18), none⟩, .run 9 0 ⟨some 20, .call 312 [(.t 17), (.t 19)], none⟩, .run 10 0 ⟨some 3, .mv (.t 15), none⟩, .run 11 0 ⟨some 4, .mv (.t 20), none⟩]) (.seq (.draw 0 [.run 0 0 ⟨some 21, .iaa 5 1 (.t 1) (.c (.int .i64 2)), none⟩, .run 1 0 ⟨some 22, .ld none (.t 21), none⟩, .run 2 0 ⟨some 23, .iaa 5 1 (.t 1) (.c (.int .i64 3)), none⟩, .run 3 0 ⟨some 24, .ld none (.t 23), none⟩, .run 5 0 ⟨some 26, .iaa 5 1 (.t 1) (.c (.int .i64 2)), none⟩, .run 6 0 ⟨some 27, .ld none (.t 26), none⟩, .run 7 0 ⟨some 28, .iaa 5 1 (.t 1) (.c (.int .i64 3)), none⟩, .run 8 0 ⟨some 29, .ld none (.t 28), none⟩, .run 4 0 ⟨some 25, .call 311 [(.t 22), (.t 24)], none⟩, .again 6 ⟨some 27, .ld none (.t 26), none⟩, .again 8 ⟨some 29, .ld none (.t 28), none⟩, .run 9 0 ⟨some 30, .call 312 [(.t 27), (.t 29)], none⟩, .run 10 0 ⟨some 5, .mv (.t 25), none⟩, .run 11 0 ⟨some 6, .mv (.t 30), none⟩]) (.seq (.draw 0 [.run 0 0 ⟨some 31, .iaa 5 1 (.t 1) (.c (.int .i64 0)), none⟩, .run 1 0 ⟨some 32, .ld none (.t 31), none⟩, .run 2 0 ⟨some 33, .mv (.t 3), none⟩, .run 4 0 ⟨some 35, .mv (.t 5), none⟩, .run 3 0 ⟨some 34, .call 79 [(.t 33), (.c (.float .f64 4599238375200778576))], none⟩, .again 1 ⟨some 32, .ld none (.t 31), none⟩, .run 5 0 ⟨some 36, .call 79 [(.t 35), (.c (.float .f64 13828834233668859048))], none⟩, .again 1 ⟨some 32, .ld none (.t 31), none⟩, .run 6 0 ⟨some 37, .call 311 [(.t 34), (.t 36)], none⟩, .again 1 ⟨some 32, .ld none (.t 31), none⟩, .run 7 0 ⟨some 38, .call 311 [(.t 32), (.t 37)], none⟩, .run 8 0 ⟨some 7, .mv (.t 38), none⟩]) (.seq (.draw 0 [.run 0 0 ⟨some 39, .iaa 5 1 (.t 1) (.c (.int .i64 0)), none⟩, .run 1 0 ⟨some 40, .ld none (.t 39), none⟩, .run 2 0 ⟨some 41, .mv (.t 3), none⟩, .run 4 0 ⟨some 43, .mv (.t 5), none⟩, .run 3 0 ⟨some 42, .call 79 [(.t 41), (.c (.float .f64 13828834233668859048))], none⟩, .again 1 ⟨some 40, .ld none (.t 39), none⟩, .run 5 0 ⟨some 44, .call 79 [(.t 43), (.c (.float .f64 4599238375200778576))], none⟩, .again 1 ⟨some 40, .ld none (.t 39), none⟩, .run 6 0 ⟨some 45, .call 311 [(.t 42), (.t 44)], none⟩, .again 1 ⟨some 40, .ld none (.t 39), none⟩, .run 7 0 ⟨some 46, .call 311 [(.t 40), (.t 45)], none⟩, .run 8 0 ⟨some 8, .mv (.t 46), none⟩]) (.seq (.region [⟨some 47, .mv (.t 4), none⟩, ⟨some 48, .call 79 [(.t 47), (.c (.float .f64 4606741575090066687))], none⟩, ⟨some 49, .mv (.t 6), none⟩, ⟨some 50, .call 79 [(.t 49), (.c (.float .f64 4603469518431672926))], none⟩, ⟨some 51, .call 311 [(.t 48), (.t 50)], none⟩, ⟨some 9, .mv (.t 51), none⟩]) (.seq (.region [⟨some 52, .mv (.t 4), none⟩, ⟨some 53, .call 79 [(.t 52), (.c (.float .f64 4603469518431672926))], none⟩, ⟨some 54, .mv (.t 6), none⟩, ⟨some 55, .call 79 [(.t 54), (.c (.float .f64 4606741575090066687))], none⟩, ⟨some 56, .call 312 [(.t 53), (.t 55)], none⟩, ⟨some 10, .mv (.t 56), none⟩]) (.seq (.draw 0 [.run 0 0 ⟨some 57, .iaa 5 1 (.t 1) (.c (.int .i64 0)), none⟩, .run 1 0 ⟨some 58, .ld none (.t 57), none⟩, .run 2 0 ⟨some 59, .mv (.t 3), none⟩, .run 3 0 ⟨some 60, .mv (.t 5), none⟩, .run 6 0 ⟨some 63, .mv (.t 7), none⟩, .run 7 0 ⟨some 64, .mv (.t 9), none⟩, .run 10 0 ⟨some 67, .mv (.t 8), none⟩, .run 11 0 ⟨some 68, .mv (.t 10), none⟩, .run 14 0 ⟨some 71, .mv (.t 8), none⟩, .run 15 0 ⟨some 72, .mv (.t 10), none⟩, .run 18 0 ⟨some 75, .mv (.t 7), none⟩, .run 19 0 ⟨some 76, .mv (.t 9), none⟩, .run 4 0 ⟨some 61, .call 311 [(.t 59), (.t 60)], none⟩, .again 1 ⟨some 58, .ld none (.t 57), none⟩, .run 5 0 ⟨some 62, .call 311 [(.t 58), (.t 61)], none⟩, .run 8 0 ⟨some 65, .call 80 [(.t 64)], none⟩, .run 9 0 ⟨some 66, .call 311 [(.t 63), (.t 65)], none⟩, .run 12 0 ⟨some 69, .call 80 [(.t 68)], none⟩, .run 13 0 ⟨some 70, .call 311 [(.t 67), (.t 69)], none⟩, .run 16 0 ⟨some 73, .call 105 [(.t 72)], none⟩, .run 17 0 ⟨some 74, .call 311 [(.t 71), (.t 73)], none⟩, .run 20 0 ⟨some 77, .call 105 [(.t 76)], none⟩, .run 21 0 ⟨some 78, .call 311 [(.t 75), (.t 77)], none⟩, .run 22 0 ⟨some 79, .mk [.complex .f64 0 0, .complex .f64 0 0, .complex .f64 0 0, .complex .f64 0 0, .complex .f64 0 0] [(0, 1, (.t 62)), (1, 1, (.t 66)), (2, 1, (.t 70)), (3, 1, (.t 74)), (4, 1, (.t 78))], none⟩, .run 23 0 ⟨none, .st 5 (.t 2) (.t 79), none⟩]) (.ret))))))))
def R298 : List Res := [.cell 2 (some 5)]
/- 299 timbre.direct.table (one) -/
def B299 : ACode := .seq (.region [⟨some 2, .mv (.c (.slice none 0 0)), none⟩, ⟨some 3, .mv (.c (.nilIface)), none⟩]) (.seq (.seq (.region [⟨some 4, .mv (.t 0), none⟩, ⟨some 5, .bin .lss (.t 4) (.c (.int .i64 1)), none⟩, ⟨some 6, .mv (.t 5), none⟩, ⟨some 7, .mv (.t 0), some (6, false)⟩, ⟨some 8, .bin .gtr (.t 7) (.c (.int .i64 1024)), some (6, false)⟩, ⟨some 9, .pick (.t 6) (.c (.bool true)) (.t 8), none⟩]) (.cond (.t 9) (.seq (.draw 0 [.run 0 0 ⟨some 10, .ld none (.c (ptr 1 0 0)), none⟩, .run 1 0 ⟨some 2, .mv (.c (.slice none 0 0)), none⟩, .run 2 0 ⟨some 3, .mv (.t 10), none⟩]) (.ret)) (.skip))) (.seq (.region [⟨some 11, .mv (.t 0), none⟩, ⟨some 12, .call 313 [(.t 11)], none⟩, ⟨some 13, .ext (.t 12) 0, none⟩, ⟨some 14, .ext (.t 12) 1, none⟩, ⟨some 2, .mv (.t 13), none⟩, ⟨some 3, .mv (.t 14), none⟩]) (.ret)))
def R299 : List Res := [.t 2, .t 3]
/- 300 timbre.direct.sum (drop) -/
def L300_0 : ACode := .loop [0, 1, 2, 7, 8, 9] (.seq (.seq (.region [⟨some 23, .mv (.t 9), none⟩, ⟨some 24, .mv (.t 7), none⟩, ⟨some 25, .bin .lss (.t 23) (.t 24), none⟩]) (.cond (.t 25) (.skip) (.exit 0))) (.seq (.block 1 (.seq (.region [⟨some 28, .mv (.t 2), none⟩, ⟨some 29, .mv (.t 9), none⟩, ⟨some 30, .callv (.t 28) [(.t 29)], none⟩, ⟨some 10, .mv (.t 30), none⟩]) (.seq (.seq (.region [⟨some 31, .mv (.t 9), none⟩, ⟨some 32, .mv (.t 1), none⟩, ⟨some 33, .bin .mul (.t 31) (.t 32), none⟩, ⟨some 34, .mv (.t 7), none⟩, ⟨some 35, .bin .rem (.t 33) (.t 34), none⟩, ⟨some 11, .mv (.t 35), none⟩]) (.seq (.region [⟨some 36, .mv (.t 11), none⟩, ⟨some 37, .bin .neq (.t 36) (.c (.int .i64 0)), none⟩]) (.cond (.t 37) (.region [⟨some 38, .mv (.t 10), none⟩, ⟨some 39, .mv (.t 0), none⟩, ⟨some 40, .mv (.t 11), none⟩, ⟨some 41, .ias 1 (.t 39) (.t 40), none⟩, ⟨some 42, .ld none (.t 41), none⟩, ⟨some 43, .call 101 [(.t 38), (.t 42)], none⟩, ⟨some 10, .mv (.t 43), none⟩]) (.skip)))) (.region [⟨some 44, .mv (.t 8), none⟩, ⟨some 45, .re (.t 44), none⟩, ⟨some 46, .mv (.t 10), none⟩, ⟨some 47, .re (.t 46), none⟩, ⟨some 48, .bin .add (.t 45) (.t 47), none⟩, ⟨some 49, .mv (.t 8), none⟩, ⟨some 50, .im (.t 49), none⟩, ⟨some 51, .mv (.t 10), none⟩, ⟨some 52, .im (.t 51), none⟩, ⟨some 53, .bin .add (.t 50) (.t 52), none⟩, ⟨some 54, .cx (.t 48) (.t 53), none⟩, ⟨some 8, .mv (.t 54), none⟩])))) (.region [⟨some 26, .mv (.t 9), none⟩, ⟨some 27, .bin .add (.t 26) (.c (.int .i64 1)), none⟩, ⟨some 9, .mv (.t 27), none⟩])))
def B300 : ACode := .seq (.region [⟨some 6, .mv (.c (.complex .f64 0 0)), none⟩]) (.seq (.region [⟨some 12, .mv (.t 0), none⟩, ⟨some 13, .len (.t 12), none⟩, ⟨some 7, .mv (.t 13), none⟩]) (.seq (.region [⟨some 14, .mv (.t 1), none⟩, ⟨some 15, .mv (.t 7), none⟩, ⟨some 16, .bin .rem (.t 14) (.t 15), none⟩, ⟨some 17, .mv (.t 7), none⟩, ⟨some 18, .bin .add (.t 16) (.t 17), none⟩, ⟨some 19, .mv (.t 7), none⟩, ⟨some 20, .bin .rem (.t 18) (.t 19), none⟩, ⟨some 1, .mv (.t 20), none⟩]) (.seq (.region [⟨some 21, .mv (.t 2), none⟩, ⟨some 22, .callv (.t 21) [(.c (.int .i64 0))], none⟩, ⟨some 8, .mv (.t 22), none⟩]) (.seq (.seq (.region [⟨some 9, .mv (.c (.int .i64 1)), none⟩]) (.block 0 (L300_0))) (.seq (.region [⟨some 55, .mv (.t 8), none⟩, ⟨some 6, .mv (.t 55), none⟩]) (.ret))))))
def R300 : List Res := [.t 6]
/- 301 timbre.direct.At$1 (drop) -/
def B301 : ACode := .seq (.region [⟨some 5, .mv (.c (.complex .f64 0 0)), none⟩]) (.seq (.region [⟨some 6, .ld none (.t 1), none⟩, ⟨some 7, .ld none (.t 2), none⟩, ⟨some 8, .mv (.t 0), none⟩, ⟨some 9, .ld none (.t 3), none⟩, ⟨some 10, .bin .mul (.t 8) (.t 9), none⟩, ⟨some 11, .bin .add (.t 7) (.t 10), none⟩, ⟨some 12, .ias 1 (.t 6) (.t 11), none⟩, ⟨some 13, .ld none (.t 12), none⟩, ⟨some 5, .mv (.t 13), none⟩]) (.ret))
def R301 : List Res := [.t 5]
/- 302 timbre.chirp.mod (drop) -/
def B302 : ACode := .seq (.region [⟨some 4, .mv (.c (.int .i64 0)), none⟩]) (.seq (.region [⟨some 5, .mv (.t 0), none⟩, ⟨some 6, .mv (.t 1), none⟩, ⟨some 7, .bin .rem (.t 5) (.t 6), none⟩, ⟨some 8, .mv (.t 1), none⟩, ⟨some 9, .bin .add (.t 7) (.t 8), none⟩, ⟨some 10, .mv (.t 1), none⟩, ⟨some 11, .bin .rem (.t 9) (.t 10), none⟩, ⟨some 4, .mv (.t 11), none⟩]) (.ret))
def R302 : List Res := [.t 4]
/- 303 timbre.chirp.Other (one) -/
def L303_0 : ACode := .loop [0, 1, 6, 31, 32] (.seq (.region [⟨some 33, .bin .lss (.t 32) (.t 31), none⟩]) (.seq (.cond (.t 33) (.skip) (.exit 0)) (.seq (.block 1 (.seq (.region [⟨some 34, .mv (.t 32), none⟩, ⟨some 7, .mv (.t 34), none⟩]) (.seq (.region [⟨some 36, .mv (.t 0), none⟩, ⟨some 37, .mv (.t 7), none⟩, ⟨some 38, .call 286 [(.t 36), (.t 37)], none⟩, ⟨some 35, .mv (.t 38), none⟩, ⟨some 39, .ext (.t 35) 0, none⟩, ⟨some 40, .ext (.t 35) 1, none⟩, ⟨some 8, .mv (.t 39), none⟩, ⟨some 9, .mv (.t 40), none⟩]) (.seq (.region [⟨some 41, .mv (.t 8), none⟩, ⟨some 42, .call 78 [(.t 41)], none⟩, ⟨some 8, .mv (.t 42), none⟩]) (.seq (.region [⟨some 43, .mv (.t 6), none⟩, ⟨some 44, .mv (.t 7), none⟩, ⟨some 45, .mv (.t 8), none⟩, ⟨some 46, .ias 1 (.t 43) (.t 44), none⟩, ⟨none, .st 1 (.t 46) (.t 45), none⟩]) (.seq (.region [⟨some 47, .mv (.t 7), none⟩, ⟨some 48, .bin .gtr (.t 47) (.c (.int .i64 0)), none⟩]) (.cond (.t 48) (.region [⟨some 49, .mv (.t 6), none⟩, ⟨some 50, .mv (.t 1), none⟩, ⟨some 51, .mv (.t 7), none⟩, ⟨some 52, .bin .sub (.t 50) (.t 51), none⟩, ⟨some 53, .mv (.t 8), none⟩, ⟨some 54, .ias 1 (.t 49) (.t 52), none⟩, ⟨none, .st 1 (.t 54) (.t 53), none⟩]) (.skip)))))))) (.region [⟨some 55, .bin .add (.t 32) (.c (.int .i64 1)), none⟩, ⟨some 32, .mv (.t 55), none⟩]))))
def B303 : ACode := .seq (.region [⟨some 4, .mv (.c (.slice none 0 0)), none⟩, ⟨some 5, .mv (.c (.nilIface)), none⟩]) (.seq (.seq (.region [⟨some 10, .mv (.t 0), none⟩, ⟨some 11, .bin .lss (.t 10) (.c (.int .i64 1)), none⟩, ⟨some 12, .mv (.t 11), none⟩, ⟨some 13, .mv (.t 1), some (12, false)⟩, ⟨some 14, .bin .gtr (.t 13) (.c (.int .i64 16384)), some (12, false)⟩, ⟨some 15, .pick (.t 12) (.c (.bool true)) (.t 14), none⟩, ⟨some 16, .mv (.t 15), none⟩, ⟨some 17, .mv (.t 0), some (16, false)⟩, ⟨some 18, .mv (.t 1), some (16, false)⟩, ⟨some 19, .bin .gtr (.t 17) (.t 18), some (16, false)⟩, ⟨some 20, .pick (.t 16) (.c (.bool true)) (.t 19), none⟩, ⟨some 21, .mv (.t 20), none⟩, ⟨some 22, .mv (.t 1), some (21, false)⟩, ⟨some 23, .mv (.t 0), some (21, false)⟩, ⟨some 24, .bin .mul (.c (.int .i64 2)) (.t 23), some (21, false)⟩, ⟨some 25, .bin .sub (.t 24) (.c (.int .i64 1)), some (21, false)⟩, ⟨some 26, .bin .lss (.t 22) (.t 25), some (21, false)⟩, ⟨some 27, .pick (.t 21) (.c (.bool true)) (.t 26), none⟩]) (.cond (.t 27) (.seq (.draw 0 [.run 0 0 ⟨some 28, .ld none (.c (ptr 1 0 0)), none⟩, .run 1 0 ⟨some 4, .mv (.c (.slice none 0 0)), none⟩, .run 2 0 ⟨some 5, .mv (.t 28), none⟩]) (.ret)) (.skip))) (.seq (.region [⟨some 29, .mv (.t 1), none⟩, ⟨some 30, .ms 1 16 [.complex .f64 0 0] (.t 29) (.t 29), none⟩, ⟨some 6, .mv (.t 30), none⟩]) (.seq (.seq (.region [⟨some 31, .mv (.t 0), none⟩, ⟨some 32, .mv (.c (.int .i64 0)), none⟩]) (.block 0 (L303_0))) (.seq (.region [⟨some 56, .mv (.t 6), none⟩, ⟨some 4, .mv (.t 56), none⟩, ⟨some 5, .mv (.c (.nilIface)), none⟩]) (.ret)))))
def R303 : List Res := [.t 4, .t 5]
/- 304 math.bits.TrailingZeros32 (drop) -/
def B304 : ACode := .seq (.region [⟨some 2, .mv (.c (.int .i64 0)), none⟩]) (.seq (.seq (.region [⟨some 3, .mv (.t 0), none⟩, ⟨some 4, .bin .eql (.t 3) (.c (.int .u32 0)), none⟩]) (.cond (.t 4) (.seq (.region [⟨some 2, .mv (.c (.int .i64 32)), none⟩]) (.ret)) (.skip))) (.seq (.region [⟨some 5, .mv (.t 0), none⟩, ⟨some 6, .mv (.t 0), none⟩, ⟨some 7, .un .neg (.t 6), none⟩, ⟨some 8, .bin .and (.t 5) (.t 7), none⟩, ⟨some 9, .bin .mul (.t 8) (.c (.int .u32 125613361)), none⟩, ⟨some 10, .bin .shr (.t 9) (.c (.int .u64 27)), none⟩, ⟨some 11, .iaa 32 1 (.c (ptr 22 0 0)) (.t 10), none⟩, ⟨some 12, .ld none (.t 11), none⟩, ⟨some 13, .ci .i64 (.t 12), none⟩, ⟨some 2, .mv (.t 13), none⟩]) (.ret)))
def R304 : List Res := [.t 2]
/- 305 math.bits.TrailingZeros64 (drop) -/
def B305 : ACode := .seq (.region [⟨some 2, .mv (.c (.int .i64 0)), none⟩]) (.seq (.seq (.region [⟨some 3, .mv (.t 0), none⟩, ⟨some 4, .bin .eql (.t 3) (.c (.int .u64 0)), none⟩]) (.cond (.t 4) (.seq (.region [⟨some 2, .mv (.c (.int .i64 64)), none⟩]) (.ret)) (.skip))) (.seq (.region [⟨some 5, .mv (.t 0), none⟩, ⟨some 6, .mv (.t 0), none⟩, ⟨some 7, .un .neg (.t 6), none⟩, ⟨some 8, .bin .and (.t 5) (.t 7), none⟩, ⟨some 9, .bin .mul (.t 8) (.c (.int .u64 285870213051353865)), none⟩, ⟨some 10, .bin .shr (.t 9) (.c (.int .u64 58)), none⟩, ⟨some 11, .iaa 64 1 (.c (ptr 23 0 0)) (.t 10), none⟩, ⟨some 12, .ld none (.t 11), none⟩, ⟨some 13, .ci .i64 (.t 12), none⟩, ⟨some 2, .mv (.t 13), none⟩]) (.ret)))
def R305 : List Res := [.t 2]
/- 306 timbre.steps.Form (drop) -/
def B306 : ACode := .seq (.region [⟨some 1, .bx 7 (.t 0), none⟩, ⟨some 2, .mv (.c (.nilIface)), none⟩]) (.seq (.seq (.region [⟨some 3, .ld (some 7) (.t 1), none⟩, ⟨some 4, .call 152 [(.t 3)], none⟩, ⟨some 5, .un .not (.t 4), none⟩]) (.cond (.t 5) (.seq (.region [⟨some 6, .ld none (.c (ptr 9 0 0)), none⟩, ⟨some 2, .mv (.t 6), none⟩]) (.ret)) (.skip))) (.seq (.region [⟨some 2, .mv (.c (.nilIface)), none⟩]) (.ret)))
def R306 : List Res := [.t 2]
/- 307 timbre.check.flown (keep) -/
def L307_0 : ACode := .loop [1, 3, 6, 7] (.seq (.region [⟨some 8, .bin .lss (.t 7) (.t 6), none⟩]) (.seq (.cond (.t 8) (.skip) (.exit 0)) (.seq (.block 1 (.seq (.region [⟨some 9, .mv (.t 7), none⟩, ⟨some 4, .mv (.t 9), none⟩]) (.region [⟨some 10, .mv (.t 3), none⟩, ⟨some 11, .fa 1 (.t 1), none⟩, ⟨some 12, .ld none (.t 11), none⟩, ⟨some 13, .mv (.t 4), none⟩, ⟨some 14, .fa 3 (.t 1), none⟩, ⟨some 15, .ld none (.t 14), none⟩, ⟨some 16, .bin .mul (.t 13) (.t 15), none⟩, ⟨some 17, .bin .add (.t 12) (.t 16), none⟩, ⟨some 18, .fa 4 (.t 1), none⟩, ⟨some 19, .ld none (.t 18), none⟩, ⟨some 20, .mk [.int .i64 0, .int .i64 0, .int .i64 0] [(0, 1, (.t 17)), (1, 1, (.c (.int .i64 1))), (2, 1, (.t 19))], none⟩, ⟨some 21, .bs 3 1 [.int .i64 0, .int .i64 0, .int .i64 0] [(0, (.t 20))], none⟩, ⟨some 22, .app 3 24 (.t 10) (.t 21), none⟩, ⟨some 3, .mv (.t 22), none⟩]))) (.region [⟨some 23, .bin .add (.t 7) (.c (.int .i64 1)), none⟩, ⟨some 7, .mv (.t 23), none⟩]))))
def B307 : ACode := .seq (.region [⟨some 1, .bx 7 (.t 0), none⟩, ⟨some 2, .mv (.c (.slice none 0 0)), none⟩]) (.seq (.region [⟨some 3, .mv (.c (.slice none 0 0)), none⟩]) (.seq (.seq (.region [⟨some 5, .fa 5 (.t 1), none⟩, ⟨some 6, .ld none (.t 5), none⟩, ⟨some 7, .mv (.c (.int .i64 0)), none⟩]) (.block 0 (L307_0))) (.seq (.region [⟨some 24, .mv (.t 3), none⟩, ⟨some 2, .mv (.t 24), none⟩]) (.ret))))
def R307 : List Res := [.t 2]
/- 308 (timbre.check.cells).last (drop) -/
def B308 : ACode := .seq (.region [⟨some 1, .bx 3 (.t 0), none⟩, ⟨some 2, .mv (.c (.int .i64 0)), none⟩]) (.seq (.region [⟨some 3, .fa 0 (.t 1), none⟩, ⟨some 4, .ld none (.t 3), none⟩, ⟨some 5, .fa 2 (.t 1), none⟩, ⟨some 6, .ld none (.t 5), none⟩, ⟨some 7, .bin .sub (.t 6) (.c (.int .i64 1)), none⟩, ⟨some 8, .fa 1 (.t 1), none⟩, ⟨some 9, .ld none (.t 8), none⟩, ⟨some 10, .bin .mul (.t 7) (.t 9), none⟩, ⟨some 11, .bin .add (.t 4) (.t 10), none⟩, ⟨some 2, .mv (.t 11), none⟩]) (.ret))
def R308 : List Res := [.t 2]
/- 309 timbre.check.touched (keep) -/
def B309 : ACode := .seq (.region [⟨some 1, .bx 7 (.t 0), none⟩, ⟨some 2, .mv (.c (.slice none 0 0)), none⟩, ⟨some 3, .al [.int .i64 0, .int .i64 0, .int .i64 0], none⟩, ⟨some 4, .mv (.c (.bool false)), none⟩]) (.seq (.region [⟨some 5, .fa 1 (.t 1), none⟩, ⟨some 6, .ld none (.t 5), none⟩, ⟨some 7, .fa 4 (.t 1), none⟩, ⟨some 8, .ld none (.t 7), none⟩, ⟨some 9, .mk [.int .i64 0, .int .i64 0, .int .i64 0] [(0, 1, (.t 6)), (1, 1, (.c (.int .i64 1))), (2, 1, (.t 8))], none⟩, ⟨none, .st 3 (.t 3) (.t 9), none⟩]) (.seq (.seq (.region [⟨some 10, .fa 0 (.t 1), none⟩, ⟨some 11, .ld none (.t 10), none⟩]) (.block 0 (.seq (.region [⟨some 13, .bin .eql (.t 11) (.c (.int .i64 1)), none⟩, ⟨some 12, .mv (.t 13), none⟩]) (.cond (.t 12) (.seq (.draw 1 [.run 0 0 ⟨some 14, .fa 2 (.t 1), none⟩, .run 1 0 ⟨some 15, .ld none (.t 14), none⟩, .run 2 0 ⟨some 16, .fa 3 (.t 1), none⟩, .run 3 0 ⟨some 17, .ld none (.t 16), none⟩, .run 4 0 ⟨some 18, .fa 4 (.t 1), none⟩, .run 5 0 ⟨some 19, .ld none (.t 18), none⟩, .run 6 0 ⟨some 20, .mk [.int .i64 0, .int .i64 0, .int .i64 0] [(0, 1, (.t 15)), (1, 1, (.t 17)), (2, 1, (.t 19))], none⟩, .run 7 0 ⟨some 21, .mk [.int .i64 0, .int .i64 0, .int .i64 0, .bool false] [(0, 3, (.t 20)), (3, 1, (.c (.bool false)))], none⟩, .run 9 0 ⟨some 23, .ld (some 3) (.t 3), none⟩, .run 8 0 ⟨some 22, .bs 4 1 [.int .i64 0, .int .i64 0, .int .i64 0, .bool false] [(0, (.t 21))], none⟩, .run 10 1 ⟨some 2, .mv (.t 22), none⟩, .run 11 1 ⟨none, .st 3 (.t 3) (.t 23), none⟩, .run 12 1 ⟨some 4, .mv (.c (.bool false)), none⟩]) (.ret)) (.seq (.region [⟨some 25, .bin .eql (.t 11) (.c (.int .i64 2)), none⟩, ⟨some 24, .mv (.t 25), none⟩]) (.cond (.t 24) (.seq (.draw 1 [.run 0 0 ⟨some 26, .fa 2 (.t 1), none⟩, .run 1 0 ⟨some 27, .ld none (.t 26), none⟩, .run 2 0 ⟨some 28, .fa 4 (.t 1), none⟩, .run 3 0 ⟨some 29, .ld none (.t 28), none⟩, .run 4 0 ⟨some 30, .mk [.int .i64 0, .int .i64 0, .int .i64 0] [(0, 1, (.t 27)), (1, 1, (.c (.int .i64 1))), (2, 1, (.t 29))], none⟩, .run 5 0 ⟨some 31, .mk [.int .i64 0, .int .i64 0, .int .i64 0, .bool false] [(0, 3, (.t 30)), (3, 1, (.c (.bool false)))], none⟩, .run 7 0 ⟨some 33, .fa 1 (.t 1), none⟩, .run 8 0 ⟨some 34, .ld none (.t 33), none⟩, .run 9 0 ⟨some 35, .fa 3 (.t 1), none⟩, .run 10 0 ⟨some 36, .ld none (.t 35), none⟩, .run 11 0 ⟨some 37, .fa 4 (.t 1), none⟩, .run 12 0 ⟨some 38, .ld none (.t 37), none⟩, .run 13 0 ⟨some 39, .mk [.int .i64 0, .int .i64 0, .int .i64 0] [(0, 1, (.t 34)), (1, 1, (.t 36)), (2, 1, (.t 38))], none⟩, .run 6 0 ⟨some 32, .bs 4 1 [.int .i64 0, .int .i64 0, .int .i64 0, .bool false] [(0, (.t 31))], none⟩, .run 14 1 ⟨some 2, .mv (.t 32), none⟩, .run 15 1 ⟨none, .st 3 (.t 3) (.t 39), none⟩, .run 16 1 ⟨some 4, .mv (.c (.bool false)), none⟩]) (.ret)) (.seq (.seq (.region [⟨some 41, .bin .eql (.t 11) (.c (.int .i64 3)), none⟩, ⟨some 40, .mv (.t 41), none⟩]) (.cond (.t 40) (.skip) (.region [⟨some 42, .bin .eql (.t 11) (.c (.int .i64 8)), none⟩, ⟨some 40, .mv (.t 42), none⟩]))) (.cond (.t 40) (.seq (.draw 0 [.run 0 0 ⟨some 43, .ld (some 3) (.t 3), none⟩, .run 1 0 ⟨some 2, .mv (.c (.slice none 0 0)), none⟩, .run 2 0 ⟨none, .st 3 (.t 3) (.t 43), none⟩, .run 3 0 ⟨some 4, .mv (.c (.bool false)), none⟩]) (.ret)) (.seq (.region [⟨some 45, .bin .eql (.t 11) (.c (.int .i64 6)), none⟩, ⟨some 44, .mv (.t 45), none⟩]) (.cond (.t 44) (.seq (.draw 1 [.run 0 0 ⟨some 46, .fa 2 (.t 1), none⟩, .run 1 0 ⟨some 47, .ld none (.t 46), none⟩, .run 2 0 ⟨some 48, .fa 3 (.t 1), none⟩, .run 3 0 ⟨some 49, .ld none (.t 48), none⟩, .run 4 0 ⟨some 50, .fa 5 (.t 1), none⟩, .run 5 0 ⟨some 51, .ld none (.t 50), none⟩, .run 6 0 ⟨some 52, .mk [.int .i64 0, .int .i64 0, .int .i64 0] [(0, 1, (.t 47)), (1, 1, (.t 49)), (2, 1, (.t 51))], none⟩, .run 7 0 ⟨some 53, .mk [.int .i64 0, .int .i64 0, .int .i64 0, .bool false] [(0, 3, (.t 52)), (3, 1, (.c (.bool true)))], none⟩, .run 9 0 ⟨some 55, .ld (some 3) (.t 3), none⟩, .run 8 0 ⟨some 54, .bs 4 1 [.int .i64 0, .int .i64 0, .int .i64 0, .bool false] [(0, (.t 53))], none⟩, .run 10 1 ⟨some 2, .mv (.t 54), none⟩, .run 11 1 ⟨none, .st 3 (.t 3) (.t 55), none⟩, .run 12 1 ⟨some 4, .mv (.c (.bool false)), none⟩]) (.ret)) (.seq (.region [⟨some 57, .bin .eql (.t 11) (.c (.int .i64 9)), none⟩, ⟨some 56, .mv (.t 57), none⟩]) (.cond (.t 56) (.seq (.draw 1 [.run 0 0 ⟨some 58, .fa 2 (.t 1), none⟩, .run 1 0 ⟨some 59, .ld none (.t 58), none⟩, .run 2 0 ⟨some 60, .fa 4 (.t 1), none⟩, .run 3 0 ⟨some 61, .ld none (.t 60), none⟩, .run 4 0 ⟨some 62, .mk [.int .i64 0, .int .i64 0, .int .i64 0] [(0, 1, (.t 59)), (1, 1, (.c (.int .i64 1))), (2, 1, (.t 61))], none⟩, .run 5 0 ⟨some 63, .mk [.int .i64 0, .int .i64 0, .int .i64 0, .bool false] [(0, 3, (.t 62)), (3, 1, (.c (.bool false)))], none⟩, .run 7 0 ⟨some 65, .ld (some 3) (.t 3), none⟩, .run 6 0 ⟨some 64, .bs 4 1 [.int .i64 0, .int .i64 0, .int .i64 0, .bool false] [(0, (.t 63))], none⟩, .run 8 1 ⟨some 2, .mv (.t 64), none⟩, .run 9 1 ⟨none, .st 3 (.t 3) (.t 65), none⟩, .run 10 1 ⟨some 4, .mv (.c (.bool true)), none⟩]) (.ret)) (.skip))))))))))))) (.seq (.draw 0 [.run 0 0 ⟨some 66, .ld (some 3) (.t 3), none⟩, .run 1 0 ⟨some 2, .mv (.c (.slice none 0 0)), none⟩, .run 2 0 ⟨none, .st 3 (.t 3) (.t 66), none⟩, .run 3 0 ⟨some 4, .mv (.c (.bool true)), none⟩]) (.ret))))
def R309 : List Res := [.t 2, .cell 3 (some 3), .t 4]
/- 310 (timbre.check.cells).has (drop) -/
def B310 : ACode := .seq (.region [⟨some 2, .bx 3 (.t 0), none⟩, ⟨some 4, .mv (.c (.int .i64 0)), none⟩]) (.seq (.seq (.region [⟨some 5, .mv (.t 1), none⟩, ⟨some 6, .fa 0 (.t 2), none⟩, ⟨some 7, .ld none (.t 6), none⟩, ⟨some 8, .bin .lss (.t 5) (.t 7), none⟩, ⟨some 9, .mv (.t 8), none⟩, ⟨some 10, .mv (.t 1), some (9, false)⟩, ⟨some 11, .ld (some 3) (.t 2), some (9, false)⟩, ⟨some 12, .call 308 [(.t 11)], some (9, false)⟩, ⟨some 13, .bin .gtr (.t 10) (.t 12), some (9, false)⟩, ⟨some 14, .pick (.t 9) (.c (.bool true)) (.t 13), none⟩, ⟨some 15, .mv (.t 14), none⟩, ⟨some 16, .mv (.t 1), some (15, false)⟩, ⟨some 17, .fa 0 (.t 2), some (15, false)⟩, ⟨some 18, .ld none (.t 17), some (15, false)⟩, ⟨some 19, .bin .sub (.t 16) (.t 18), some (15, false)⟩, ⟨some 20, .fa 1 (.t 2), some (15, false)⟩, ⟨some 21, .ld none (.t 20), some (15, false)⟩, ⟨some 22, .bin .rem (.t 19) (.t 21), some (15, false)⟩, ⟨some 23, .bin .neq (.t 22) (.c (.int .i64 0)), some (15, false)⟩, ⟨some 24, .pick (.t 15) (.c (.bool true)) (.t 23), none⟩]) (.cond (.t 24) (.seq (.region [⟨some 4, .mv (.c (.int .i64 (-1))), none⟩]) (.ret)) (.skip))) (.seq (.region [⟨some 25, .mv (.t 1), none⟩, ⟨some 26, .fa 0 (.t 2), none⟩, ⟨some 27, .ld none (.t 26), none⟩, ⟨some 28, .bin .sub (.t 25) (.t 27), none⟩, ⟨some 29, .fa 1 (.t 2), none⟩, ⟨some 30, .ld none (.t 29), none⟩, ⟨some 31, .bin .quo (.t 28) (.t 30), none⟩, ⟨some 4, .mv (.t 31), none⟩]) (.ret)))
def R310 : List Res := [.t 4]
/- 311 timbre.fly.plus (drop) -/
def B311 : ACode := .seq (.region [⟨some 4, .mv (.c (.complex .f64 0 0)), none⟩]) (.seq (.region [⟨some 5, .mv (.t 0), none⟩, ⟨some 6, .re (.t 5), none⟩, ⟨some 7, .mv (.t 1), none⟩, ⟨some 8, .re (.t 7), none⟩, ⟨some 9, .bin .add (.t 6) (.t 8), none⟩, ⟨some 10, .mv (.t 0), none⟩, ⟨some 11, .im (.t 10), none⟩, ⟨some 12, .mv (.t 1), none⟩, ⟨some 13, .im (.t 12), none⟩, ⟨some 14, .bin .add (.t 11) (.t 13), none⟩, ⟨some 15, .cx (.t 9) (.t 14), none⟩, ⟨some 4, .mv (.t 15), none⟩]) (.ret))
def R311 : List Res := [.t 4]
/- 312 timbre.fly.less (drop) -/
def B312 : ACode := .seq (.region [⟨some 4, .mv (.c (.complex .f64 0 0)), none⟩]) (.seq (.region [⟨some 5, .mv (.t 0), none⟩, ⟨some 6, .re (.t 5), none⟩, ⟨some 7, .mv (.t 1), none⟩, ⟨some 8, .re (.t 7), none⟩, ⟨some 9, .bin .sub (.t 6) (.t 8), none⟩, ⟨some 10, .mv (.t 0), none⟩, ⟨some 11, .im (.t 10), none⟩, ⟨some 12, .mv (.t 1), none⟩, ⟨some 13, .im (.t 12), none⟩, ⟨some 14, .bin .sub (.t 11) (.t 13), none⟩, ⟨some 15, .cx (.t 9) (.t 14), none⟩, ⟨some 4, .mv (.t 15), none⟩]) (.ret))
def R312 : List Res := [.t 4]
/- 313 timbre.roots.All (one) -/
def L313_0 : ACode := .loop [0, 4, 16, 17] (.seq (.region [⟨some 18, .bin .lss (.t 17) (.t 16), none⟩]) (.seq (.cond (.t 18) (.skip) (.exit 0)) (.seq (.block 1 (.seq (.region [⟨some 19, .mv (.t 17), none⟩, ⟨some 5, .mv (.t 19), none⟩]) (.region [⟨some 21, .mv (.t 4), none⟩, ⟨some 22, .mv (.t 5), none⟩, ⟨some 23, .mv (.t 0), none⟩, ⟨some 24, .mv (.t 5), none⟩, ⟨some 25, .call 99 [(.t 23), (.t 24)], none⟩, ⟨some 20, .mv (.t 25), none⟩, ⟨some 26, .ext (.t 20) 0, none⟩, ⟨some 27, .ext (.t 20) 1, none⟩, ⟨some 28, .ias 1 (.t 21) (.t 22), none⟩, ⟨none, .st 1 (.t 28) (.t 26), none⟩]))) (.region [⟨some 29, .bin .add (.t 17) (.c (.int .i64 1)), none⟩, ⟨some 17, .mv (.t 29), none⟩]))))
def B313 : ACode := .seq (.region [⟨some 2, .mv (.c (.slice none 0 0)), none⟩, ⟨some 3, .mv (.c (.nilIface)), none⟩]) (.seq (.seq (.region [⟨some 6, .mv (.t 0), none⟩, ⟨some 7, .bin .lss (.t 6) (.c (.int .i64 1)), none⟩, ⟨some 8, .mv (.t 7), none⟩, ⟨some 9, .mv (.t 0), some (8, false)⟩, ⟨some 10, .bin .gtr (.t 9) (.c (.int .i64 16384)), some (8, false)⟩, ⟨some 11, .pick (.t 8) (.c (.bool true)) (.t 10), none⟩]) (.cond (.t 11) (.seq (.draw 0 [.run 0 0 ⟨some 12, .ld none (.c (ptr 1 0 0)), none⟩, .run 1 0 ⟨some 2, .mv (.c (.slice none 0 0)), none⟩, .run 2 0 ⟨some 3, .mv (.t 12), none⟩]) (.ret)) (.skip))) (.seq (.region [⟨some 13, .mv (.t 0), none⟩, ⟨some 14, .ms 1 16 [.complex .f64 0 0] (.t 13) (.t 13), none⟩, ⟨some 4, .mv (.t 14), none⟩]) (.seq (.seq (.region [⟨some 15, .mv (.t 4), none⟩, ⟨some 16, .len (.t 15), none⟩, ⟨some 17, .mv (.c (.int .i64 0)), none⟩]) (.block 0 (L313_0))) (.seq (.region [⟨some 30, .mv (.t 4), none⟩, ⟨some 2, .mv (.t 30), none⟩, ⟨some 3, .mv (.c (.nilIface)), none⟩]) (.ret)))))
def R313 : List Res := [.t 2, .t 3]
end Go.AM.Cd
/- The table of the functions. No condition. -/
set_option maxRecDepth 100000
namespace Go.AM.Cd
def tblL : List (Nat × AFun) := [
  (7, .code B7 R7 .keep),
  (16, .code B16 R16 .keep),
  (18, .code B18 R18 .drop),
  (21, .code B21 R21 .keep),
  (23, .code B23 R23 .keep),
  (31, .code B31 R31 .drop),
  (32, .code B32 R32 .one),
  (33, .code B33 R33 .one),
  (34, .code B34 R34 .one),
  (35, .code B35 R35 .one),
  (37, .code B37 R37 .keep),
  (38, .code B38 R38 .one),
  (39, .code B39 R39 .drop),
  (40, .code B40 R40 .drop),
  (43, .code B43 R43 .drop),
  (44, .code B44 R44 .one),
  (45, .code B45 R45 .one),
  (46, .code B46 R46 .drop),
  (54, .code B54 R54 .drop),
  (58, .code B58 R58 .drop),
  (59, .code B59 R59 .drop),
  (60, .code B60 R60 .keep),
  (61, .code B61 R61 .keep),
  (62, .code B62 R62 .keep),
  (63, .code B63 R63 .keep),
  (74, .code B74 R74 .keep),
  (75, .code B75 R75 .keep),
  (78, .code B78 R78 .drop),
  (79, .code B79 R79 .drop),
  (80, .code B80 R80 .drop),
  (90, .fromBits),
  (91, .code B91 R91 .drop),
  (92, .code B92 R92 .keep),
  (93, .code B93 R93 .drop),
  (94, .code B94 R94 .drop),
  (95, .code B95 R95 .drop),
  (99, .code B99 R99 .drop),
  (100, .code B100 R100 .drop),
  (101, .code B101 R101 .drop),
  (102, .code B102 R102 .one),
  (103, .canonBits),
  (105, .code B105 R105 .drop),
  (107, .code B107 R107 .drop),
  (108, .code B108 R108 .keep),
  (109, .code B109 R109 .keep),
  (114, .code B114 R114 .keep),
  (116, .code B116 R116 .one),
  (117, .code B117 R117 .one),
  (122, .code B122 R122 .drop),
  (123, .code B123 R123 .keep),
  (124, .code B124 R124 .keep),
  (125, .code B125 R125 .drop),
  (128, .code B128 R128 .drop),
  (129, .code B129 R129 .drop),
  (130, .code B130 R130 .drop),
  (136, .code B136 R136 .drop),
  (137, .code B137 R137 .keep),
  (138, .code B138 R138 .drop),
  (139, .code B139 R139 .keep),
  (140, .code B140 R140 .one),
  (143, .code B143 R143 .drop),
  (144, .code B144 R144 .keep),
  (145, .code B145 R145 .keep),
  (146, .code B146 R146 .keep),
  (147, .code B147 R147 .keep),
  (148, .code B148 R148 .drop),
  (150, .code B150 R150 .keep),
  (151, .code B151 R151 .keep),
  (152, .code B152 R152 .drop),
  (153, .code B153 R153 .keep),
  (163, .code B163 R163 .keep),
  (164, .code B164 R164 .keep),
  (165, .code B165 R165 .drop),
  (166, .code B166 R166 .keep),
  (167, .code B167 R167 .keep),
  (168, .code B168 R168 .drop),
  (169, .code B169 R169 .drop),
  (170, .code B170 R170 .drop),
  (171, .code B171 R171 .keep),
  (172, .code B172 R172 .drop),
  (173, .code B173 R173 .drop),
  (174, .code B174 R174 .drop),
  (181, .code B181 R181 .keep),
  (182, .code B182 R182 .one),
  (183, .code B183 R183 .keep),
  (184, .code B184 R184 .drop),
  (185, .code B185 R185 .keep),
  (186, .code B186 R186 .one),
  (187, .code B187 R187 .drop),
  (191, .code B191 R191 .keep),
  (192, .code B192 R192 .keep),
  (193, .code B193 R193 .keep),
  (194, .code B194 R194 .drop),
  (195, .code B195 R195 .drop),
  (196, .code B196 R196 .drop),
  (197, .code B197 R197 .keep),
  (198, .code B198 R198 .keep),
  (199, .code B199 R199 .keep),
  (200, .code B200 R200 .keep),
  (201, .code B201 R201 .keep),
  (203, .code B203 R203 .drop),
  (204, .code B204 R204 .drop),
  (215, .code B215 R215 .keep),
  (216, .code B216 R216 .drop),
  (217, .code B217 R217 .keep),
  (218, .code B218 R218 .drop),
  (219, .code B219 R219 .keep),
  (220, .code B220 R220 .keep),
  (221, .code B221 R221 .drop),
  (222, .code B222 R222 .drop),
  (223, .code B223 R223 .one),
  (224, .code B224 R224 .drop),
  (225, .code B225 R225 .drop),
  (226, .code B226 R226 .drop),
  (232, .code B232 R232 .drop),
  (233, .code B233 R233 .keep),
  (234, .code B234 R234 .keep),
  (239, .code B239 R239 .keep),
  (240, .code B240 R240 .drop),
  (241, .code B241 R241 .drop),
  (242, .code B242 R242 .drop),
  (243, .code B243 R243 .drop),
  (244, .code B244 R244 .keep),
  (245, .code B245 R245 .keep),
  (246, .code B246 R246 .drop),
  (247, .code B247 R247 .keep),
  (248, .code B248 R248 .keep),
  (249, .code B249 R249 .keep),
  (250, .code B250 R250 .keep),
  (251, .code B251 R251 .keep),
  (254, .code B254 R254 .drop),
  (255, .code B255 R255 .drop),
  (256, .code B256 R256 .drop),
  (262, .code B262 R262 .drop),
  (263, .code B263 R263 .keep),
  (264, .code B264 R264 .keep),
  (265, .code B265 R265 .keep),
  (266, .code B266 R266 .keep),
  (267, .code B267 R267 .keep),
  (268, .code B268 R268 .keep),
  (269, .code B269 R269 .keep),
  (270, .code B270 R270 .keep),
  (271, .code B271 R271 .keep),
  (272, .code B272 R272 .keep),
  (273, .code B273 R273 .keep),
  (274, .code B274 R274 .keep),
  (275, .code B275 R275 .keep),
  (276, .code B276 R276 .keep),
  (277, .code B277 R277 .keep),
  (278, .code B278 R278 .drop),
  (283, .code B283 R283 .drop),
  (284, .code B284 R284 .one),
  (285, .code B285 R285 .drop),
  (286, .code B286 R286 .drop),
  (287, .code B287 R287 .keep),
  (288, .code B288 R288 .keep),
  (289, .code B289 R289 .drop),
  (290, .code B290 R290 .keep),
  (291, .code B291 R291 .keep),
  (292, .code B292 R292 .drop),
  (294, .code B294 R294 .drop),
  (295, .code B295 R295 .keep),
  (296, .code B296 R296 .keep),
  (297, .code B297 R297 .keep),
  (298, .code B298 R298 .keep),
  (299, .code B299 R299 .one),
  (300, .code B300 R300 .drop),
  (301, .code B301 R301 .drop),
  (302, .code B302 R302 .drop),
  (303, .code B303 R303 .one),
  (304, .code B304 R304 .drop),
  (305, .code B305 R305 .drop),
  (306, .code B306 R306 .drop),
  (307, .code B307 R307 .keep),
  (308, .code B308 R308 .drop),
  (309, .code B309 R309 .keep),
  (310, .code B310 R310 .drop),
  (311, .code B311 R311 .drop),
  (312, .code B312 R312 .drop),
  (313, .code B313 R313 .one)]
def Tb (k : Nat) : Option AFun := tblL.lookup k
theorem T7 : Tb 7 = some (.code B7 R7 .keep) := rfl
theorem T16 : Tb 16 = some (.code B16 R16 .keep) := rfl
theorem T18 : Tb 18 = some (.code B18 R18 .drop) := rfl
theorem T21 : Tb 21 = some (.code B21 R21 .keep) := rfl
theorem T23 : Tb 23 = some (.code B23 R23 .keep) := rfl
theorem T31 : Tb 31 = some (.code B31 R31 .drop) := rfl
theorem T32 : Tb 32 = some (.code B32 R32 .one) := rfl
theorem T33 : Tb 33 = some (.code B33 R33 .one) := rfl
theorem T34 : Tb 34 = some (.code B34 R34 .one) := rfl
theorem T35 : Tb 35 = some (.code B35 R35 .one) := rfl
theorem T37 : Tb 37 = some (.code B37 R37 .keep) := rfl
theorem T38 : Tb 38 = some (.code B38 R38 .one) := rfl
theorem T39 : Tb 39 = some (.code B39 R39 .drop) := rfl
theorem T40 : Tb 40 = some (.code B40 R40 .drop) := rfl
theorem T43 : Tb 43 = some (.code B43 R43 .drop) := rfl
theorem T44 : Tb 44 = some (.code B44 R44 .one) := rfl
theorem T45 : Tb 45 = some (.code B45 R45 .one) := rfl
theorem T46 : Tb 46 = some (.code B46 R46 .drop) := rfl
theorem T54 : Tb 54 = some (.code B54 R54 .drop) := rfl
theorem T58 : Tb 58 = some (.code B58 R58 .drop) := rfl
theorem T59 : Tb 59 = some (.code B59 R59 .drop) := rfl
theorem T60 : Tb 60 = some (.code B60 R60 .keep) := rfl
theorem T61 : Tb 61 = some (.code B61 R61 .keep) := rfl
theorem T62 : Tb 62 = some (.code B62 R62 .keep) := rfl
theorem T63 : Tb 63 = some (.code B63 R63 .keep) := rfl
theorem T74 : Tb 74 = some (.code B74 R74 .keep) := rfl
theorem T75 : Tb 75 = some (.code B75 R75 .keep) := rfl
theorem T78 : Tb 78 = some (.code B78 R78 .drop) := rfl
theorem T79 : Tb 79 = some (.code B79 R79 .drop) := rfl
theorem T80 : Tb 80 = some (.code B80 R80 .drop) := rfl
theorem T90 : Tb 90 = some (.fromBits) := rfl
theorem T91 : Tb 91 = some (.code B91 R91 .drop) := rfl
theorem T92 : Tb 92 = some (.code B92 R92 .keep) := rfl
theorem T93 : Tb 93 = some (.code B93 R93 .drop) := rfl
theorem T94 : Tb 94 = some (.code B94 R94 .drop) := rfl
theorem T95 : Tb 95 = some (.code B95 R95 .drop) := rfl
theorem T99 : Tb 99 = some (.code B99 R99 .drop) := rfl
theorem T100 : Tb 100 = some (.code B100 R100 .drop) := rfl
theorem T101 : Tb 101 = some (.code B101 R101 .drop) := rfl
theorem T102 : Tb 102 = some (.code B102 R102 .one) := rfl
theorem T103 : Tb 103 = some (.canonBits) := rfl
theorem T105 : Tb 105 = some (.code B105 R105 .drop) := rfl
theorem T107 : Tb 107 = some (.code B107 R107 .drop) := rfl
theorem T108 : Tb 108 = some (.code B108 R108 .keep) := rfl
theorem T109 : Tb 109 = some (.code B109 R109 .keep) := rfl
theorem T114 : Tb 114 = some (.code B114 R114 .keep) := rfl
theorem T116 : Tb 116 = some (.code B116 R116 .one) := rfl
theorem T117 : Tb 117 = some (.code B117 R117 .one) := rfl
theorem T122 : Tb 122 = some (.code B122 R122 .drop) := rfl
theorem T123 : Tb 123 = some (.code B123 R123 .keep) := rfl
theorem T124 : Tb 124 = some (.code B124 R124 .keep) := rfl
theorem T125 : Tb 125 = some (.code B125 R125 .drop) := rfl
theorem T128 : Tb 128 = some (.code B128 R128 .drop) := rfl
theorem T129 : Tb 129 = some (.code B129 R129 .drop) := rfl
theorem T130 : Tb 130 = some (.code B130 R130 .drop) := rfl
theorem T136 : Tb 136 = some (.code B136 R136 .drop) := rfl
theorem T137 : Tb 137 = some (.code B137 R137 .keep) := rfl
theorem T138 : Tb 138 = some (.code B138 R138 .drop) := rfl
theorem T139 : Tb 139 = some (.code B139 R139 .keep) := rfl
theorem T140 : Tb 140 = some (.code B140 R140 .one) := rfl
theorem T143 : Tb 143 = some (.code B143 R143 .drop) := rfl
theorem T144 : Tb 144 = some (.code B144 R144 .keep) := rfl
theorem T145 : Tb 145 = some (.code B145 R145 .keep) := rfl
theorem T146 : Tb 146 = some (.code B146 R146 .keep) := rfl
theorem T147 : Tb 147 = some (.code B147 R147 .keep) := rfl
theorem T148 : Tb 148 = some (.code B148 R148 .drop) := rfl
theorem T150 : Tb 150 = some (.code B150 R150 .keep) := rfl
theorem T151 : Tb 151 = some (.code B151 R151 .keep) := rfl
theorem T152 : Tb 152 = some (.code B152 R152 .drop) := rfl
theorem T153 : Tb 153 = some (.code B153 R153 .keep) := rfl
theorem T163 : Tb 163 = some (.code B163 R163 .keep) := rfl
theorem T164 : Tb 164 = some (.code B164 R164 .keep) := rfl
theorem T165 : Tb 165 = some (.code B165 R165 .drop) := rfl
theorem T166 : Tb 166 = some (.code B166 R166 .keep) := rfl
theorem T167 : Tb 167 = some (.code B167 R167 .keep) := rfl
theorem T168 : Tb 168 = some (.code B168 R168 .drop) := rfl
theorem T169 : Tb 169 = some (.code B169 R169 .drop) := rfl
theorem T170 : Tb 170 = some (.code B170 R170 .drop) := rfl
theorem T171 : Tb 171 = some (.code B171 R171 .keep) := rfl
theorem T172 : Tb 172 = some (.code B172 R172 .drop) := rfl
theorem T173 : Tb 173 = some (.code B173 R173 .drop) := rfl
theorem T174 : Tb 174 = some (.code B174 R174 .drop) := rfl
theorem T181 : Tb 181 = some (.code B181 R181 .keep) := rfl
theorem T182 : Tb 182 = some (.code B182 R182 .one) := rfl
theorem T183 : Tb 183 = some (.code B183 R183 .keep) := rfl
theorem T184 : Tb 184 = some (.code B184 R184 .drop) := rfl
theorem T185 : Tb 185 = some (.code B185 R185 .keep) := rfl
theorem T186 : Tb 186 = some (.code B186 R186 .one) := rfl
theorem T187 : Tb 187 = some (.code B187 R187 .drop) := rfl
theorem T191 : Tb 191 = some (.code B191 R191 .keep) := rfl
theorem T192 : Tb 192 = some (.code B192 R192 .keep) := rfl
theorem T193 : Tb 193 = some (.code B193 R193 .keep) := rfl
theorem T194 : Tb 194 = some (.code B194 R194 .drop) := rfl
theorem T195 : Tb 195 = some (.code B195 R195 .drop) := rfl
theorem T196 : Tb 196 = some (.code B196 R196 .drop) := rfl
theorem T197 : Tb 197 = some (.code B197 R197 .keep) := rfl
theorem T198 : Tb 198 = some (.code B198 R198 .keep) := rfl
theorem T199 : Tb 199 = some (.code B199 R199 .keep) := rfl
theorem T200 : Tb 200 = some (.code B200 R200 .keep) := rfl
theorem T201 : Tb 201 = some (.code B201 R201 .keep) := rfl
theorem T203 : Tb 203 = some (.code B203 R203 .drop) := rfl
theorem T204 : Tb 204 = some (.code B204 R204 .drop) := rfl
theorem T215 : Tb 215 = some (.code B215 R215 .keep) := rfl
theorem T216 : Tb 216 = some (.code B216 R216 .drop) := rfl
theorem T217 : Tb 217 = some (.code B217 R217 .keep) := rfl
theorem T218 : Tb 218 = some (.code B218 R218 .drop) := rfl
theorem T219 : Tb 219 = some (.code B219 R219 .keep) := rfl
theorem T220 : Tb 220 = some (.code B220 R220 .keep) := rfl
theorem T221 : Tb 221 = some (.code B221 R221 .drop) := rfl
theorem T222 : Tb 222 = some (.code B222 R222 .drop) := rfl
theorem T223 : Tb 223 = some (.code B223 R223 .one) := rfl
theorem T224 : Tb 224 = some (.code B224 R224 .drop) := rfl
theorem T225 : Tb 225 = some (.code B225 R225 .drop) := rfl
theorem T226 : Tb 226 = some (.code B226 R226 .drop) := rfl
theorem T232 : Tb 232 = some (.code B232 R232 .drop) := rfl
theorem T233 : Tb 233 = some (.code B233 R233 .keep) := rfl
theorem T234 : Tb 234 = some (.code B234 R234 .keep) := rfl
theorem T239 : Tb 239 = some (.code B239 R239 .keep) := rfl
theorem T240 : Tb 240 = some (.code B240 R240 .drop) := rfl
theorem T241 : Tb 241 = some (.code B241 R241 .drop) := rfl
theorem T242 : Tb 242 = some (.code B242 R242 .drop) := rfl
theorem T243 : Tb 243 = some (.code B243 R243 .drop) := rfl
theorem T244 : Tb 244 = some (.code B244 R244 .keep) := rfl
theorem T245 : Tb 245 = some (.code B245 R245 .keep) := rfl
theorem T246 : Tb 246 = some (.code B246 R246 .drop) := rfl
theorem T247 : Tb 247 = some (.code B247 R247 .keep) := rfl
theorem T248 : Tb 248 = some (.code B248 R248 .keep) := rfl
theorem T249 : Tb 249 = some (.code B249 R249 .keep) := rfl
theorem T250 : Tb 250 = some (.code B250 R250 .keep) := rfl
theorem T251 : Tb 251 = some (.code B251 R251 .keep) := rfl
theorem T254 : Tb 254 = some (.code B254 R254 .drop) := rfl
theorem T255 : Tb 255 = some (.code B255 R255 .drop) := rfl
theorem T256 : Tb 256 = some (.code B256 R256 .drop) := rfl
theorem T262 : Tb 262 = some (.code B262 R262 .drop) := rfl
theorem T263 : Tb 263 = some (.code B263 R263 .keep) := rfl
theorem T264 : Tb 264 = some (.code B264 R264 .keep) := rfl
theorem T265 : Tb 265 = some (.code B265 R265 .keep) := rfl
theorem T266 : Tb 266 = some (.code B266 R266 .keep) := rfl
theorem T267 : Tb 267 = some (.code B267 R267 .keep) := rfl
theorem T268 : Tb 268 = some (.code B268 R268 .keep) := rfl
theorem T269 : Tb 269 = some (.code B269 R269 .keep) := rfl
theorem T270 : Tb 270 = some (.code B270 R270 .keep) := rfl
theorem T271 : Tb 271 = some (.code B271 R271 .keep) := rfl
theorem T272 : Tb 272 = some (.code B272 R272 .keep) := rfl
theorem T273 : Tb 273 = some (.code B273 R273 .keep) := rfl
theorem T274 : Tb 274 = some (.code B274 R274 .keep) := rfl
theorem T275 : Tb 275 = some (.code B275 R275 .keep) := rfl
theorem T276 : Tb 276 = some (.code B276 R276 .keep) := rfl
theorem T277 : Tb 277 = some (.code B277 R277 .keep) := rfl
theorem T278 : Tb 278 = some (.code B278 R278 .drop) := rfl
theorem T283 : Tb 283 = some (.code B283 R283 .drop) := rfl
theorem T284 : Tb 284 = some (.code B284 R284 .one) := rfl
theorem T285 : Tb 285 = some (.code B285 R285 .drop) := rfl
theorem T286 : Tb 286 = some (.code B286 R286 .drop) := rfl
theorem T287 : Tb 287 = some (.code B287 R287 .keep) := rfl
theorem T288 : Tb 288 = some (.code B288 R288 .keep) := rfl
theorem T289 : Tb 289 = some (.code B289 R289 .drop) := rfl
theorem T290 : Tb 290 = some (.code B290 R290 .keep) := rfl
theorem T291 : Tb 291 = some (.code B291 R291 .keep) := rfl
theorem T292 : Tb 292 = some (.code B292 R292 .drop) := rfl
theorem T294 : Tb 294 = some (.code B294 R294 .drop) := rfl
theorem T295 : Tb 295 = some (.code B295 R295 .keep) := rfl
theorem T296 : Tb 296 = some (.code B296 R296 .keep) := rfl
theorem T297 : Tb 297 = some (.code B297 R297 .keep) := rfl
theorem T298 : Tb 298 = some (.code B298 R298 .keep) := rfl
theorem T299 : Tb 299 = some (.code B299 R299 .one) := rfl
theorem T300 : Tb 300 = some (.code B300 R300 .drop) := rfl
theorem T301 : Tb 301 = some (.code B301 R301 .drop) := rfl
theorem T302 : Tb 302 = some (.code B302 R302 .drop) := rfl
theorem T303 : Tb 303 = some (.code B303 R303 .one) := rfl
theorem T304 : Tb 304 = some (.code B304 R304 .drop) := rfl
theorem T305 : Tb 305 = some (.code B305 R305 .drop) := rfl
theorem T306 : Tb 306 = some (.code B306 R306 .drop) := rfl
theorem T307 : Tb 307 = some (.code B307 R307 .keep) := rfl
theorem T308 : Tb 308 = some (.code B308 R308 .drop) := rfl
theorem T309 : Tb 309 = some (.code B309 R309 .keep) := rfl
theorem T310 : Tb 310 = some (.code B310 R310 .drop) := rfl
theorem T311 : Tb 311 = some (.code B311 R311 .drop) := rfl
theorem T312 : Tb 312 = some (.code B312 R312 .drop) := rfl
theorem T313 : Tb 313 = some (.code B313 R313 .one) := rfl
/-- The package-level variables, and what the errors among them point to. -/
def H0 : Heap := [
  .cells 0 0 [.iface 329 (ptr 24 0 0)],
  .cells 0 0 [.iface 329 (ptr 25 0 0)],
  .cells 0 0 [.iface 329 (ptr 26 0 0)],
  .cells 0 0 [.iface 329 (ptr 27 0 0)],
  .cells 0 0 [.iface 329 (ptr 28 0 0)],
  .cells 0 0 [.iface 329 (ptr 29 0 0)],
  .cells 0 0 [.iface 329 (ptr 30 0 0)],
  .cells 0 0 [.iface 329 (ptr 31 0 0)],
  .cells 0 0 [.iface 329 (ptr 32 0 0)],
  .cells 0 0 [.iface 329 (ptr 33 0 0)],
  .cells 0 0 [.iface 329 (ptr 34 0 0)],
  .cells 0 0 [.iface 329 (ptr 35 0 0)],
  .cells 0 0 [.iface 329 (ptr 36 0 0)],
  .cells 0 0 [.iface 329 (ptr 37 0 0)],
  .cells 0 0 [.iface 329 (ptr 38 0 0)],
  .cells 0 0 [.iface 329 (ptr 39 0 0)],
  .cells 0 0 [.iface 329 (ptr 40 0 0)],
  .cells 0 0 [.iface 329 (ptr 41 0 0)],
  .cells 0 0 [.iface 329 (ptr 42 0 0)],
  .gone,
  .cells 0 0 [.string ⟨#[]⟩, .bool false, .bool false, .int .i64 0, .bool false, .string ⟨#[103, 97, 116, 104, 101, 114]⟩, .bool true, .bool true, .int .i64 0, .bool false, .string ⟨#[115, 99, 97, 116, 116, 101, 114]⟩, .bool true, .bool true, .int .i64 0, .bool false, .string ⟨#[122, 101, 114, 111]⟩, .bool false, .bool false, .int .i64 0, .bool false, .string ⟨#[116, 119, 105, 115, 116]⟩, .bool false, .bool false, .int .i64 16384, .bool true, .string ⟨#[102, 108, 121]⟩, .bool false, .bool true, .int .i64 5, .bool false, .string ⟨#[100, 105, 114, 101, 99, 116]⟩, .bool true, .bool true, .int .i64 64, .bool false, .string ⟨#[99, 104, 105, 114, 112]⟩, .bool false, .bool false, .int .i64 16384, .bool false, .string ⟨#[102, 105, 108, 108]⟩, .bool false, .bool false, .int .i64 16384, .bool false, .string ⟨#[116, 105, 109, 101, 115]⟩, .bool true, .bool false, .int .i64 0, .bool false, .string ⟨#[99, 111, 110, 106]⟩, .bool false, .bool false, .int .i64 0, .bool false, .string ⟨#[111, 118, 101, 114]⟩, .bool false, .bool false, .int .i64 16384, .bool false],
  .cells 0 0 [.int .u64 1, .int .u64 10, .int .u64 100, .int .u64 1000, .int .u64 10000, .int .u64 100000, .int .u64 1000000, .int .u64 10000000, .int .u64 100000000, .int .u64 1000000000, .int .u64 10000000000, .int .u64 100000000000, .int .u64 1000000000000, .int .u64 10000000000000, .int .u64 100000000000000, .int .u64 1000000000000000, .int .u64 10000000000000000, .int .u64 100000000000000000, .int .u64 1000000000000000000, .int .u64 10000000000000000000],
  .cells 0 0 [.int .u8 0, .int .u8 1, .int .u8 28, .int .u8 2, .int .u8 29, .int .u8 14, .int .u8 24, .int .u8 3, .int .u8 30, .int .u8 22, .int .u8 20, .int .u8 15, .int .u8 25, .int .u8 17, .int .u8 4, .int .u8 8, .int .u8 31, .int .u8 27, .int .u8 13, .int .u8 23, .int .u8 21, .int .u8 19, .int .u8 16, .int .u8 7, .int .u8 26, .int .u8 12, .int .u8 18, .int .u8 6, .int .u8 11, .int .u8 5, .int .u8 10, .int .u8 9],
  .cells 0 0 [.int .u8 0, .int .u8 1, .int .u8 56, .int .u8 2, .int .u8 57, .int .u8 49, .int .u8 28, .int .u8 3, .int .u8 61, .int .u8 58, .int .u8 42, .int .u8 50, .int .u8 38, .int .u8 29, .int .u8 17, .int .u8 4, .int .u8 62, .int .u8 47, .int .u8 59, .int .u8 36, .int .u8 45, .int .u8 43, .int .u8 51, .int .u8 22, .int .u8 53, .int .u8 39, .int .u8 33, .int .u8 30, .int .u8 24, .int .u8 18, .int .u8 12, .int .u8 5, .int .u8 63, .int .u8 55, .int .u8 48, .int .u8 27, .int .u8 60, .int .u8 41, .int .u8 37, .int .u8 16, .int .u8 46, .int .u8 35, .int .u8 44, .int .u8 21, .int .u8 52, .int .u8 32, .int .u8 23, .int .u8 11, .int .u8 54, .int .u8 26, .int .u8 40, .int .u8 15, .int .u8 34, .int .u8 20, .int .u8 31, .int .u8 10, .int .u8 25, .int .u8 14, .int .u8 19, .int .u8 9, .int .u8 13, .int .u8 8, .int .u8 7, .int .u8 6],
  .cells 0 0 [.string ⟨#[116, 105, 109, 98, 114, 101, 58, 32, 109, 111, 100, 101]⟩],
  .cells 0 0 [.string ⟨#[116, 105, 109, 98, 114, 101, 58, 32, 108, 101, 110, 103, 116, 104]⟩],
  .cells 0 0 [.string ⟨#[116, 105, 109, 98, 114, 101, 58, 32, 116, 111, 111, 32, 115, 104, 111, 114, 116]⟩],
  .cells 0 0 [.string ⟨#[116, 105, 109, 98, 114, 101, 58, 32, 118, 97, 114, 105, 110, 116]⟩],
  .cells 0 0 [.string ⟨#[116, 105, 109, 98, 114, 101, 58, 32, 108, 105, 109, 105, 116]⟩],
  .cells 0 0 [.string ⟨#[116, 105, 109, 98, 114, 101, 58, 32, 116, 97, 105, 108]⟩],
  .cells 0 0 [.string ⟨#[116, 105, 109, 98, 114, 101, 58, 32, 114, 97, 110, 103, 101]⟩],
  .cells 0 0 [.string ⟨#[116, 105, 109, 98, 114, 101, 58, 32, 116, 101, 120, 116]⟩],
  .cells 0 0 [.string ⟨#[116, 105, 109, 98, 114, 101, 58, 32, 111, 114, 100, 101, 114]⟩],
  .cells 0 0 [.string ⟨#[116, 105, 109, 98, 114, 101, 58, 32, 112, 114, 111, 103, 114, 97, 109]⟩],
  .cells 0 0 [.string ⟨#[116, 105, 109, 98, 114, 101, 58, 32, 115, 116, 97, 116, 101]⟩],
  .cells 0 0 [.string ⟨#[116, 105, 109, 98, 114, 101, 58, 32, 114, 111, 111, 116]⟩],
  .cells 0 0 [.string ⟨#[116, 105, 109, 98, 114, 101, 58, 32, 112, 101, 114, 109, 117, 116, 97, 116, 105, 111, 110]⟩],
  .cells 0 0 [.string ⟨#[116, 105, 109, 98, 114, 101, 58, 32, 110, 117, 109, 98, 101, 114]⟩],
  .cells 0 0 [.string ⟨#[116, 105, 109, 98, 114, 101, 58, 32, 119, 111, 114, 107, 101, 114, 115]⟩],
  .cells 0 0 [.string ⟨#[116, 105, 109, 98, 114, 101, 58, 32, 100, 111, 110, 101]⟩],
  .cells 0 0 [.string ⟨#[116, 105, 109, 98, 114, 101, 58, 32, 117, 110, 107, 110, 111, 119, 110]⟩],
  .cells 0 0 [.string ⟨#[116, 105, 109, 98, 114, 101, 58, 32, 99, 111, 109, 109, 97, 110, 100]⟩],
  .cells 0 0 [.string ⟨#[116, 105, 109, 98, 114, 101, 58, 32, 101, 120, 97, 99, 116]⟩]]
end Go.AM.Cd
/- Each function's abstract code stands for the program's own, by the kernel (part 0). No condition. -/
set_option maxRecDepth 100000
namespace Go.AM.Cd
open Go.Proofs
theorem K7 : okFun Tryz.prog Tryz.f7 B7 R7 = true := by decide +kernel
theorem K16 : okFun Tryz.prog Tryz.f16 B16 R16 = true := by decide +kernel
theorem K18 : okFun Tryz.prog Tryz.f18 B18 R18 = true := by decide +kernel
theorem K21 : okFun Tryz.prog Tryz.f21 B21 R21 = true := by decide +kernel
theorem K23 : okFun Tryz.prog Tryz.f23 B23 R23 = true := by decide +kernel
theorem K31 : okFun Tryz.prog Tryz.f31 B31 R31 = true := by decide +kernel
theorem K32 : okFun Tryz.prog Tryz.f32 B32 R32 = true := by decide +kernel
theorem K33 : okFun Tryz.prog Tryz.f33 B33 R33 = true := by decide +kernel
theorem K34 : okFun Tryz.prog Tryz.f34 B34 R34 = true := by decide +kernel
theorem K35 : okFun Tryz.prog Tryz.f35 B35 R35 = true := by decide +kernel
theorem K37 : okFun Tryz.prog Tryz.f37 B37 R37 = true := by decide +kernel
theorem K38 : okFun Tryz.prog Tryz.f38 B38 R38 = true := by decide +kernel
theorem K39 : okFun Tryz.prog Tryz.f39 B39 R39 = true := by decide +kernel
theorem K40 : okFun Tryz.prog Tryz.f40 B40 R40 = true := by decide +kernel
theorem K43 : okFun Tryz.prog Tryz.f43 B43 R43 = true := by decide +kernel
theorem K44 : okFun Tryz.prog Tryz.f44 B44 R44 = true := by decide +kernel
theorem K45 : okFun Tryz.prog Tryz.f45 B45 R45 = true := by decide +kernel
theorem K46 : okFun Tryz.prog Tryz.f46 B46 R46 = true := by decide +kernel
theorem K54 : okFun Tryz.prog Tryz.f54 B54 R54 = true := by decide +kernel
theorem K58 : okFun Tryz.prog Tryz.f58 B58 R58 = true := by decide +kernel
theorem K59 : okFun Tryz.prog Tryz.f59 B59 R59 = true := by decide +kernel
theorem K60 : okFun Tryz.prog Tryz.f60 B60 R60 = true := by decide +kernel
theorem K61 : okFun Tryz.prog Tryz.f61 B61 R61 = true := by decide +kernel
theorem K62 : okFun Tryz.prog Tryz.f62 B62 R62 = true := by decide +kernel
theorem K63 : okFun Tryz.prog Tryz.f63 B63 R63 = true := by decide +kernel
theorem K74 : okFun Tryz.prog Tryz.f74 B74 R74 = true := by decide +kernel
theorem K75 : okFun Tryz.prog Tryz.f75 B75 R75 = true := by decide +kernel
theorem K78 : okFun Tryz.prog Tryz.f78 B78 R78 = true := by decide +kernel
theorem K79 : okFun Tryz.prog Tryz.f79 B79 R79 = true := by decide +kernel
theorem K80 : okFun Tryz.prog Tryz.f80 B80 R80 = true := by decide +kernel
theorem K91 : okFun Tryz.prog Tryz.f91 B91 R91 = true := by decide +kernel
theorem K92 : okFun Tryz.prog Tryz.f92 B92 R92 = true := by decide +kernel
theorem K93 : okFun Tryz.prog Tryz.f93 B93 R93 = true := by decide +kernel
theorem K94 : okFun Tryz.prog Tryz.f94 B94 R94 = true := by decide +kernel
theorem K95 : okFun Tryz.prog Tryz.f95 B95 R95 = true := by decide +kernel
theorem K99 : okFun Tryz.prog Tryz.f99 B99 R99 = true := by decide +kernel
theorem K100 : okFun Tryz.prog Tryz.f100 B100 R100 = true := by decide +kernel
theorem K101 : okFun Tryz.prog Tryz.f101 B101 R101 = true := by decide +kernel
theorem K102 : okFun Tryz.prog Tryz.f102 B102 R102 = true := by decide +kernel
theorem K105 : okFun Tryz.prog Tryz.f105 B105 R105 = true := by decide +kernel
theorem K107 : okFun Tryz.prog Tryz.f107 B107 R107 = true := by decide +kernel
theorem K108 : okFun Tryz.prog Tryz.f108 B108 R108 = true := by decide +kernel
theorem K109 : okFun Tryz.prog Tryz.f109 B109 R109 = true := by decide +kernel
theorem K114 : okFun Tryz.prog Tryz.f114 B114 R114 = true := by decide +kernel
theorem K116 : okFun Tryz.prog Tryz.f116 B116 R116 = true := by decide +kernel
end Go.AM.Cd
/- Each function's abstract code stands for the program's own, by the kernel (part 1). No condition. -/
set_option maxRecDepth 100000
namespace Go.AM.Cd
open Go.Proofs
theorem K117 : okFun Tryz.prog Tryz.f117 B117 R117 = true := by decide +kernel
theorem K122 : okFun Tryz.prog Tryz.f122 B122 R122 = true := by decide +kernel
theorem K123 : okFun Tryz.prog Tryz.f123 B123 R123 = true := by decide +kernel
theorem K124 : okFun Tryz.prog Tryz.f124 B124 R124 = true := by decide +kernel
theorem K125 : okFun Tryz.prog Tryz.f125 B125 R125 = true := by decide +kernel
theorem K128 : okFun Tryz.prog Tryz.f128 B128 R128 = true := by decide +kernel
theorem K129 : okFun Tryz.prog Tryz.f129 B129 R129 = true := by decide +kernel
theorem K130 : okFun Tryz.prog Tryz.f130 B130 R130 = true := by decide +kernel
theorem K136 : okFun Tryz.prog Tryz.f136 B136 R136 = true := by decide +kernel
theorem K137 : okFun Tryz.prog Tryz.f137 B137 R137 = true := by decide +kernel
theorem K138 : okFun Tryz.prog Tryz.f138 B138 R138 = true := by decide +kernel
theorem K139 : okFun Tryz.prog Tryz.f139 B139 R139 = true := by decide +kernel
theorem K140 : okFun Tryz.prog Tryz.f140 B140 R140 = true := by decide +kernel
theorem K143 : okFun Tryz.prog Tryz.f143 B143 R143 = true := by decide +kernel
theorem K144 : okFun Tryz.prog Tryz.f144 B144 R144 = true := by decide +kernel
theorem K145 : okFun Tryz.prog Tryz.f145 B145 R145 = true := by decide +kernel
theorem K146 : okFun Tryz.prog Tryz.f146 B146 R146 = true := by decide +kernel
theorem K147 : okFun Tryz.prog Tryz.f147 B147 R147 = true := by decide +kernel
theorem K148 : okFun Tryz.prog Tryz.f148 B148 R148 = true := by decide +kernel
theorem K150 : okFun Tryz.prog Tryz.f150 B150 R150 = true := by decide +kernel
theorem K151 : okFun Tryz.prog Tryz.f151 B151 R151 = true := by decide +kernel
theorem K152 : okFun Tryz.prog Tryz.f152 B152 R152 = true := by decide +kernel
theorem K153 : okFun Tryz.prog Tryz.f153 B153 R153 = true := by decide +kernel
theorem K163 : okFun Tryz.prog Tryz.f163 B163 R163 = true := by decide +kernel
theorem K164 : okFun Tryz.prog Tryz.f164 B164 R164 = true := by decide +kernel
theorem K165 : okFun Tryz.prog Tryz.f165 B165 R165 = true := by decide +kernel
theorem K166 : okFun Tryz.prog Tryz.f166 B166 R166 = true := by decide +kernel
theorem K167 : okFun Tryz.prog Tryz.f167 B167 R167 = true := by decide +kernel
theorem K168 : okFun Tryz.prog Tryz.f168 B168 R168 = true := by decide +kernel
theorem K169 : okFun Tryz.prog Tryz.f169 B169 R169 = true := by decide +kernel
theorem K170 : okFun Tryz.prog Tryz.f170 B170 R170 = true := by decide +kernel
theorem K171 : okFun Tryz.prog Tryz.f171 B171 R171 = true := by decide +kernel
theorem K172 : okFun Tryz.prog Tryz.f172 B172 R172 = true := by decide +kernel
theorem K173 : okFun Tryz.prog Tryz.f173 B173 R173 = true := by decide +kernel
theorem K174 : okFun Tryz.prog Tryz.f174 B174 R174 = true := by decide +kernel
theorem K181 : okFun Tryz.prog Tryz.f181 B181 R181 = true := by decide +kernel
theorem K182 : okFun Tryz.prog Tryz.f182 B182 R182 = true := by decide +kernel
theorem K183 : okFun Tryz.prog Tryz.f183 B183 R183 = true := by decide +kernel
theorem K184 : okFun Tryz.prog Tryz.f184 B184 R184 = true := by decide +kernel
theorem K185 : okFun Tryz.prog Tryz.f185 B185 R185 = true := by decide +kernel
theorem K186 : okFun Tryz.prog Tryz.f186 B186 R186 = true := by decide +kernel
theorem K187 : okFun Tryz.prog Tryz.f187 B187 R187 = true := by decide +kernel
theorem K191 : okFun Tryz.prog Tryz.f191 B191 R191 = true := by decide +kernel
theorem K192 : okFun Tryz.prog Tryz.f192 B192 R192 = true := by decide +kernel
theorem K193 : okFun Tryz.prog Tryz.f193 B193 R193 = true := by decide +kernel
end Go.AM.Cd
/- Each function's abstract code stands for the program's own, by the kernel (part 2). No condition. -/
set_option maxRecDepth 100000
namespace Go.AM.Cd
open Go.Proofs
theorem K194 : okFun Tryz.prog Tryz.f194 B194 R194 = true := by decide +kernel
theorem K195 : okFun Tryz.prog Tryz.f195 B195 R195 = true := by decide +kernel
theorem K196 : okFun Tryz.prog Tryz.f196 B196 R196 = true := by decide +kernel
theorem K197 : okFun Tryz.prog Tryz.f197 B197 R197 = true := by decide +kernel
theorem K198 : okFun Tryz.prog Tryz.f198 B198 R198 = true := by decide +kernel
theorem K199 : okFun Tryz.prog Tryz.f199 B199 R199 = true := by decide +kernel
theorem K200 : okFun Tryz.prog Tryz.f200 B200 R200 = true := by decide +kernel
theorem K201 : okFun Tryz.prog Tryz.f201 B201 R201 = true := by decide +kernel
theorem K203 : okFun Tryz.prog Tryz.f203 B203 R203 = true := by decide +kernel
theorem K204 : okFun Tryz.prog Tryz.f204 B204 R204 = true := by decide +kernel
theorem K215 : okFun Tryz.prog Tryz.f215 B215 R215 = true := by decide +kernel
theorem K216 : okFun Tryz.prog Tryz.f216 B216 R216 = true := by decide +kernel
theorem K217 : okFun Tryz.prog Tryz.f217 B217 R217 = true := by decide +kernel
theorem K218 : okFun Tryz.prog Tryz.f218 B218 R218 = true := by decide +kernel
theorem K219 : okFun Tryz.prog Tryz.f219 B219 R219 = true := by decide +kernel
theorem K220 : okFun Tryz.prog Tryz.f220 B220 R220 = true := by decide +kernel
theorem K221 : okFun Tryz.prog Tryz.f221 B221 R221 = true := by decide +kernel
theorem K222 : okFun Tryz.prog Tryz.f222 B222 R222 = true := by decide +kernel
theorem K223 : okFun Tryz.prog Tryz.f223 B223 R223 = true := by decide +kernel
theorem K224 : okFun Tryz.prog Tryz.f224 B224 R224 = true := by decide +kernel
theorem K225 : okFun Tryz.prog Tryz.f225 B225 R225 = true := by decide +kernel
theorem K226 : okFun Tryz.prog Tryz.f226 B226 R226 = true := by decide +kernel
theorem K232 : okFun Tryz.prog Tryz.f232 B232 R232 = true := by decide +kernel
theorem K233 : okFun Tryz.prog Tryz.f233 B233 R233 = true := by decide +kernel
theorem K234 : okFun Tryz.prog Tryz.f234 B234 R234 = true := by decide +kernel
theorem K239 : okFun Tryz.prog Tryz.f239 B239 R239 = true := by decide +kernel
theorem K240 : okFun Tryz.prog Tryz.f240 B240 R240 = true := by decide +kernel
theorem K241 : okFun Tryz.prog Tryz.f241 B241 R241 = true := by decide +kernel
theorem K242 : okFun Tryz.prog Tryz.f242 B242 R242 = true := by decide +kernel
theorem K243 : okFun Tryz.prog Tryz.f243 B243 R243 = true := by decide +kernel
theorem K244 : okFun Tryz.prog Tryz.f244 B244 R244 = true := by decide +kernel
theorem K245 : okFun Tryz.prog Tryz.f245 B245 R245 = true := by decide +kernel
theorem K246 : okFun Tryz.prog Tryz.f246 B246 R246 = true := by decide +kernel
theorem K247 : okFun Tryz.prog Tryz.f247 B247 R247 = true := by decide +kernel
theorem K248 : okFun Tryz.prog Tryz.f248 B248 R248 = true := by decide +kernel
theorem K249 : okFun Tryz.prog Tryz.f249 B249 R249 = true := by decide +kernel
theorem K250 : okFun Tryz.prog Tryz.f250 B250 R250 = true := by decide +kernel
theorem K251 : okFun Tryz.prog Tryz.f251 B251 R251 = true := by decide +kernel
theorem K254 : okFun Tryz.prog Tryz.f254 B254 R254 = true := by decide +kernel
theorem K255 : okFun Tryz.prog Tryz.f255 B255 R255 = true := by decide +kernel
theorem K256 : okFun Tryz.prog Tryz.f256 B256 R256 = true := by decide +kernel
theorem K262 : okFun Tryz.prog Tryz.f262 B262 R262 = true := by decide +kernel
theorem K263 : okFun Tryz.prog Tryz.f263 B263 R263 = true := by decide +kernel
theorem K264 : okFun Tryz.prog Tryz.f264 B264 R264 = true := by decide +kernel
theorem K265 : okFun Tryz.prog Tryz.f265 B265 R265 = true := by decide +kernel
end Go.AM.Cd
/- Each function's abstract code stands for the program's own, by the kernel (part 3). No condition. -/
set_option maxRecDepth 100000
namespace Go.AM.Cd
open Go.Proofs
theorem K266 : okFun Tryz.prog Tryz.f266 B266 R266 = true := by decide +kernel
theorem K267 : okFun Tryz.prog Tryz.f267 B267 R267 = true := by decide +kernel
theorem K268 : okFun Tryz.prog Tryz.f268 B268 R268 = true := by decide +kernel
theorem K269 : okFun Tryz.prog Tryz.f269 B269 R269 = true := by decide +kernel
theorem K270 : okFun Tryz.prog Tryz.f270 B270 R270 = true := by decide +kernel
theorem K271 : okFun Tryz.prog Tryz.f271 B271 R271 = true := by decide +kernel
theorem K272 : okFun Tryz.prog Tryz.f272 B272 R272 = true := by decide +kernel
theorem K273 : okFun Tryz.prog Tryz.f273 B273 R273 = true := by decide +kernel
theorem K274 : okFun Tryz.prog Tryz.f274 B274 R274 = true := by decide +kernel
theorem K275 : okFun Tryz.prog Tryz.f275 B275 R275 = true := by decide +kernel
theorem K276 : okFun Tryz.prog Tryz.f276 B276 R276 = true := by decide +kernel
theorem K277 : okFun Tryz.prog Tryz.f277 B277 R277 = true := by decide +kernel
theorem K278 : okFun Tryz.prog Tryz.f278 B278 R278 = true := by decide +kernel
theorem K283 : okFun Tryz.prog Tryz.f283 B283 R283 = true := by decide +kernel
theorem K284 : okFun Tryz.prog Tryz.f284 B284 R284 = true := by decide +kernel
theorem K285 : okFun Tryz.prog Tryz.f285 B285 R285 = true := by decide +kernel
theorem K286 : okFun Tryz.prog Tryz.f286 B286 R286 = true := by decide +kernel
theorem K287 : okFun Tryz.prog Tryz.f287 B287 R287 = true := by decide +kernel
theorem K288 : okFun Tryz.prog Tryz.f288 B288 R288 = true := by decide +kernel
theorem K289 : okFun Tryz.prog Tryz.f289 B289 R289 = true := by decide +kernel
theorem K290 : okFun Tryz.prog Tryz.f290 B290 R290 = true := by decide +kernel
theorem K291 : okFun Tryz.prog Tryz.f291 B291 R291 = true := by decide +kernel
theorem K292 : okFun Tryz.prog Tryz.f292 B292 R292 = true := by decide +kernel
theorem K294 : okFun Tryz.prog Tryz.f294 B294 R294 = true := by decide +kernel
theorem K295 : okFun Tryz.prog Tryz.f295 B295 R295 = true := by decide +kernel
theorem K296 : okFun Tryz.prog Tryz.f296 B296 R296 = true := by decide +kernel
theorem K297 : okFun Tryz.prog Tryz.f297 B297 R297 = true := by decide +kernel
theorem K298 : okFun Tryz.prog Tryz.f298 B298 R298 = true := by decide +kernel
theorem K299 : okFun Tryz.prog Tryz.f299 B299 R299 = true := by decide +kernel
theorem K300 : okFun Tryz.prog Tryz.f300 B300 R300 = true := by decide +kernel
theorem K301 : okFun Tryz.prog Tryz.f301 B301 R301 = true := by decide +kernel
theorem K302 : okFun Tryz.prog Tryz.f302 B302 R302 = true := by decide +kernel
theorem K303 : okFun Tryz.prog Tryz.f303 B303 R303 = true := by decide +kernel
theorem K304 : okFun Tryz.prog Tryz.f304 B304 R304 = true := by decide +kernel
theorem K305 : okFun Tryz.prog Tryz.f305 B305 R305 = true := by decide +kernel
theorem K306 : okFun Tryz.prog Tryz.f306 B306 R306 = true := by decide +kernel
theorem K307 : okFun Tryz.prog Tryz.f307 B307 R307 = true := by decide +kernel
theorem K308 : okFun Tryz.prog Tryz.f308 B308 R308 = true := by decide +kernel
theorem K309 : okFun Tryz.prog Tryz.f309 B309 R309 = true := by decide +kernel
theorem K310 : okFun Tryz.prog Tryz.f310 B310 R310 = true := by decide +kernel
theorem K311 : okFun Tryz.prog Tryz.f311 B311 R311 = true := by decide +kernel
theorem K312 : okFun Tryz.prog Tryz.f312 B312 R312 = true := by decide +kernel
theorem K313 : okFun Tryz.prog Tryz.f313 B313 R313 = true := by decide +kernel
end Go.AM.Cd
/- The functions that are not walked by the machine. No condition. -/
namespace Go.AM
open Go.RowKit (Below)
open Go.Proofs

theorem low_canon (b : Nat) : AM.canon b = if 0x7ff0000000000000 < b % 2 ^ 63 then nan64 else b := by
  unfold AM.canon
  rw [isNaN_low]
  by_cases h : 0x7ff0000000000000 < b % 2 ^ 63 <;> simp [h]

theorem bits_run (b : Nat) (w : World) : (callFunc 141 #[.float .f64 b]).run Tryz.prog w = .ok (.value (.int .u64 b)) w := by
  have h0 : ¬ Tryz.f141.name = "runtime.NumGoroutine" := by decide +kernel
  have h1 : Tryz.f141.body = none := rfl
  have h2 : Extern.findNext Tryz.f141 = none := by kernel_rfl
  have h3 : Extern.find Tryz.f141 = some Extern.MathFloatBits.float64bits := by kernel_rfl
  have h4 : Extern.MathFloatBits.float64bits #[Value.float .f64 b] = pure (.int .u64 b) := rfl
  simp [callFunc, Tryz.func141, h0, h1, h2, h3, h4]
theorem frombits_run (n : Int) (w : World) : (callFunc 90 #[.int .u64 n]).run Tryz.prog w = .ok (.value (.float .f64 n.toNat)) w := by
  have h0 : ¬ Tryz.f90.name = "runtime.NumGoroutine" := by decide +kernel
  have h1 : Tryz.f90.body = none := rfl
  have h2 : Extern.findNext Tryz.f90 = none := by kernel_rfl
  have h3 : Extern.find Tryz.f90 = some Extern.MathFloatBits.float64frombits := by kernel_rfl
  have h4 : Extern.MathFloatBits.float64frombits #[Value.int .u64 n] = pure (.float .f64 n.toNat) := rfl
  simp [callFunc, Tryz.func90, h0, h1, h2, h3, h4]

theorem canon_enter (b : Nat) (w : World) : (callFunc 103 #[.float .f64 b]).run Tryz.prog w = .ok (.enter 103 #[.float .f64 b]) w := by
  have h0 : ¬ Tryz.f103.name = "runtime.NumGoroutine" := by decide +kernel
  have h1 : ¬ Tryz.f103.body = none := by unfold Tryz.f103; simp
  simp [callFunc, Tryz.func103, h0, h1]

theorem canon_walk (b : Nat) (w : World) : CallsIn Fence.wide 0 Tryz.prog 103 #[.float .f64 b] w fun e w' => e = .returned (.int .u64 (AM.canon b)) ∧ Drawn w w' := by
  have hb := bits_run b
  refine callsIn_of_wp Tryz.func103 rfl trivial ?_
  simp only [Tryz.ntmps103, List.size_toArray, List.length_cons, List.length_nil, Nat.reduceAdd, Nat.reduceSub, Array.replicate_succ, Array.replicate_zero, List.push_toArray, List.append_toArray, List.nil_append, List.cons_append]
  repeat gi_step
  refine ⟨trivial, ?_⟩
  repeat' gi_step
  all_goals go_ret
  all_goals refine ⟨?_, .refl w⟩
  · rename_i h
    have e : (b : Int).tmod 9223372036854775808 = ((b % 9223372036854775808 : Nat) : Int) := rfl
    rw [e] at h
    rw [low_canon, if_pos (by omega)]; rfl
  · rename_i h
    have e : (b : Int).tmod 9223372036854775808 = ((b % 9223372036854775808 : Nat) : Int) := rfl
    rw [e] at h
    rw [low_canon, if_neg (by omega)]; rfl

end Go.AM
/- The table stands for the program. No condition. -/
set_option maxRecDepth 100000
namespace Go.AM.Cd
open Go.Proofs

def EntOk (e : Nat × AFun) : Prop := match e.2 with
  | .code b r _ => ∃ fn, Tryz.prog.funcs[e.1]? = some fn ∧ okFun Tryz.prog fn b r = true
  | .fromBits => e.1 = 90
  | .toBits => e.1 = 141
  | .canonBits => e.1 = 103
theorem ent_cons {e : Nat × AFun} {l : List (Nat × AFun)} (h : EntOk e) (t : ∀ x ∈ l, EntOk x) : ∀ x ∈ e :: l, EntOk x := List.forall_mem_cons.2 ⟨h, t⟩
theorem ent_nil : ∀ x ∈ ([] : List (Nat × AFun)), EntOk x := fun _ h => by cases h
def tl0 : List (Nat × AFun) := [(7, .code B7 R7 .keep), (16, .code B16 R16 .keep), (18, .code B18 R18 .drop), (21, .code B21 R21 .keep), (23, .code B23 R23 .keep), (31, .code B31 R31 .drop), (32, .code B32 R32 .one), (33, .code B33 R33 .one), (34, .code B34 R34 .one), (35, .code B35 R35 .one), (37, .code B37 R37 .keep), (38, .code B38 R38 .one), (39, .code B39 R39 .drop), (40, .code B40 R40 .drop), (43, .code B43 R43 .drop), (44, .code B44 R44 .one), (45, .code B45 R45 .one), (46, .code B46 R46 .drop), (54, .code B54 R54 .drop), (58, .code B58 R58 .drop), (59, .code B59 R59 .drop), (60, .code B60 R60 .keep), (61, .code B61 R61 .keep), (62, .code B62 R62 .keep), (63, .code B63 R63 .keep), (74, .code B74 R74 .keep), (75, .code B75 R75 .keep), (78, .code B78 R78 .drop), (79, .code B79 R79 .drop), (80, .code B80 R80 .drop), (90, .fromBits), (91, .code B91 R91 .drop), (92, .code B92 R92 .keep), (93, .code B93 R93 .drop), (94, .code B94 R94 .drop), (95, .code B95 R95 .drop), (99, .code B99 R99 .drop), (100, .code B100 R100 .drop), (101, .code B101 R101 .drop), (102, .code B102 R102 .one)]
theorem el0 : ∀ x ∈ tl0, EntOk x :=
  ent_cons (show EntOk _ from ⟨Tryz.f7, Tryz.func7, K7⟩) <| ent_cons (show EntOk _ from ⟨Tryz.f16, Tryz.func16, K16⟩) <| ent_cons (show EntOk _ from ⟨Tryz.f18, Tryz.func18, K18⟩) <| ent_cons (show EntOk _ from ⟨Tryz.f21, Tryz.func21, K21⟩) <| ent_cons (show EntOk _ from ⟨Tryz.f23, Tryz.func23, K23⟩) <| ent_cons (show EntOk _ from ⟨Tryz.f31, Tryz.func31, K31⟩) <| ent_cons (show EntOk _ from ⟨Tryz.f32, Tryz.func32, K32⟩) <| ent_cons (show EntOk _ from ⟨Tryz.f33, Tryz.func33, K33⟩) <| ent_cons (show EntOk _ from ⟨Tryz.f34, Tryz.func34, K34⟩) <| ent_cons (show EntOk _ from ⟨Tryz.f35, Tryz.func35, K35⟩) <| ent_cons (show EntOk _ from ⟨Tryz.f37, Tryz.func37, K37⟩) <| ent_cons (show EntOk _ from ⟨Tryz.f38, Tryz.func38, K38⟩) <| ent_cons (show EntOk _ from ⟨Tryz.f39, Tryz.func39, K39⟩) <| ent_cons (show EntOk _ from ⟨Tryz.f40, Tryz.func40, K40⟩) <| ent_cons (show EntOk _ from ⟨Tryz.f43, Tryz.func43, K43⟩) <| ent_cons (show EntOk _ from ⟨Tryz.f44, Tryz.func44, K44⟩) <| ent_cons (show EntOk _ from ⟨Tryz.f45, Tryz.func45, K45⟩) <| ent_cons (show EntOk _ from ⟨Tryz.f46, Tryz.func46, K46⟩) <| ent_cons (show EntOk _ from ⟨Tryz.f54, Tryz.func54, K54⟩) <| ent_cons (show EntOk _ from ⟨Tryz.f58, Tryz.func58, K58⟩) <| ent_cons (show EntOk _ from ⟨Tryz.f59, Tryz.func59, K59⟩) <| ent_cons (show EntOk _ from ⟨Tryz.f60, Tryz.func60, K60⟩) <| ent_cons (show EntOk _ from ⟨Tryz.f61, Tryz.func61, K61⟩) <| ent_cons (show EntOk _ from ⟨Tryz.f62, Tryz.func62, K62⟩) <| ent_cons (show EntOk _ from ⟨Tryz.f63, Tryz.func63, K63⟩) <| ent_cons (show EntOk _ from ⟨Tryz.f74, Tryz.func74, K74⟩) <| ent_cons (show EntOk _ from ⟨Tryz.f75, Tryz.func75, K75⟩) <| ent_cons (show EntOk _ from ⟨Tryz.f78, Tryz.func78, K78⟩) <| ent_cons (show EntOk _ from ⟨Tryz.f79, Tryz.func79, K79⟩) <| ent_cons (show EntOk _ from ⟨Tryz.f80, Tryz.func80, K80⟩) <| ent_cons (show EntOk _ from rfl) <| ent_cons (show EntOk _ from ⟨Tryz.f91, Tryz.func91, K91⟩) <| ent_cons (show EntOk _ from ⟨Tryz.f92, Tryz.func92, K92⟩) <| ent_cons (show EntOk _ from ⟨Tryz.f93, Tryz.func93, K93⟩) <| ent_cons (show EntOk _ from ⟨Tryz.f94, Tryz.func94, K94⟩) <| ent_cons (show EntOk _ from ⟨Tryz.f95, Tryz.func95, K95⟩) <| ent_cons (show EntOk _ from ⟨Tryz.f99, Tryz.func99, K99⟩) <| ent_cons (show EntOk _ from ⟨Tryz.f100, Tryz.func100, K100⟩) <| ent_cons (show EntOk _ from ⟨Tryz.f101, Tryz.func101, K101⟩) <| ent_cons (show EntOk _ from ⟨Tryz.f102, Tryz.func102, K102⟩) <| ent_nil
def tl1 : List (Nat × AFun) := [(103, .canonBits), (105, .code B105 R105 .drop), (107, .code B107 R107 .drop), (108, .code B108 R108 .keep), (109, .code B109 R109 .keep), (114, .code B114 R114 .keep), (116, .code B116 R116 .one), (117, .code B117 R117 .one), (122, .code B122 R122 .drop), (123, .code B123 R123 .keep), (124, .code B124 R124 .keep), (125, .code B125 R125 .drop), (128, .code B128 R128 .drop), (129, .code B129 R129 .drop), (130, .code B130 R130 .drop), (136, .code B136 R136 .drop), (137, .code B137 R137 .keep), (138, .code B138 R138 .drop), (139, .code B139 R139 .keep), (140, .code B140 R140 .one), (143, .code B143 R143 .drop), (144, .code B144 R144 .keep), (145, .code B145 R145 .keep), (146, .code B146 R146 .keep), (147, .code B147 R147 .keep), (148, .code B148 R148 .drop), (150, .code B150 R150 .keep), (151, .code B151 R151 .keep), (152, .code B152 R152 .drop), (153, .code B153 R153 .keep), (163, .code B163 R163 .keep), (164, .code B164 R164 .keep), (165, .code B165 R165 .drop), (166, .code B166 R166 .keep), (167, .code B167 R167 .keep), (168, .code B168 R168 .drop), (169, .code B169 R169 .drop), (170, .code B170 R170 .drop), (171, .code B171 R171 .keep), (172, .code B172 R172 .drop)]
theorem el1 : ∀ x ∈ tl1, EntOk x :=
  ent_cons (show EntOk _ from rfl) <| ent_cons (show EntOk _ from ⟨Tryz.f105, Tryz.func105, K105⟩) <| ent_cons (show EntOk _ from ⟨Tryz.f107, Tryz.func107, K107⟩) <| ent_cons (show EntOk _ from ⟨Tryz.f108, Tryz.func108, K108⟩) <| ent_cons (show EntOk _ from ⟨Tryz.f109, Tryz.func109, K109⟩) <| ent_cons (show EntOk _ from ⟨Tryz.f114, Tryz.func114, K114⟩) <| ent_cons (show EntOk _ from ⟨Tryz.f116, Tryz.func116, K116⟩) <| ent_cons (show EntOk _ from ⟨Tryz.f117, Tryz.func117, K117⟩) <| ent_cons (show EntOk _ from ⟨Tryz.f122, Tryz.func122, K122⟩) <| ent_cons (show EntOk _ from ⟨Tryz.f123, Tryz.func123, K123⟩) <| ent_cons (show EntOk _ from ⟨Tryz.f124, Tryz.func124, K124⟩) <| ent_cons (show EntOk _ from ⟨Tryz.f125, Tryz.func125, K125⟩) <| ent_cons (show EntOk _ from ⟨Tryz.f128, Tryz.func128, K128⟩) <| ent_cons (show EntOk _ from ⟨Tryz.f129, Tryz.func129, K129⟩) <| ent_cons (show EntOk _ from ⟨Tryz.f130, Tryz.func130, K130⟩) <| ent_cons (show EntOk _ from ⟨Tryz.f136, Tryz.func136, K136⟩) <| ent_cons (show EntOk _ from ⟨Tryz.f137, Tryz.func137, K137⟩) <| ent_cons (show EntOk _ from ⟨Tryz.f138, Tryz.func138, K138⟩) <| ent_cons (show EntOk _ from ⟨Tryz.f139, Tryz.func139, K139⟩) <| ent_cons (show EntOk _ from ⟨Tryz.f140, Tryz.func140, K140⟩) <| ent_cons (show EntOk _ from ⟨Tryz.f143, Tryz.func143, K143⟩) <| ent_cons (show EntOk _ from ⟨Tryz.f144, Tryz.func144, K144⟩) <| ent_cons (show EntOk _ from ⟨Tryz.f145, Tryz.func145, K145⟩) <| ent_cons (show EntOk _ from ⟨Tryz.f146, Tryz.func146, K146⟩) <| ent_cons (show EntOk _ from ⟨Tryz.f147, Tryz.func147, K147⟩) <| ent_cons (show EntOk _ from ⟨Tryz.f148, Tryz.func148, K148⟩) <| ent_cons (show EntOk _ from ⟨Tryz.f150, Tryz.func150, K150⟩) <| ent_cons (show EntOk _ from ⟨Tryz.f151, Tryz.func151, K151⟩) <| ent_cons (show EntOk _ from ⟨Tryz.f152, Tryz.func152, K152⟩) <| ent_cons (show EntOk _ from ⟨Tryz.f153, Tryz.func153, K153⟩) <| ent_cons (show EntOk _ from ⟨Tryz.f163, Tryz.func163, K163⟩) <| ent_cons (show EntOk _ from ⟨Tryz.f164, Tryz.func164, K164⟩) <| ent_cons (show EntOk _ from ⟨Tryz.f165, Tryz.func165, K165⟩) <| ent_cons (show EntOk _ from ⟨Tryz.f166, Tryz.func166, K166⟩) <| ent_cons (show EntOk _ from ⟨Tryz.f167, Tryz.func167, K167⟩) <| ent_cons (show EntOk _ from ⟨Tryz.f168, Tryz.func168, K168⟩) <| ent_cons (show EntOk _ from ⟨Tryz.f169, Tryz.func169, K169⟩) <| ent_cons (show EntOk _ from ⟨Tryz.f170, Tryz.func170, K170⟩) <| ent_cons (show EntOk _ from ⟨Tryz.f171, Tryz.func171, K171⟩) <| ent_cons (show EntOk _ from ⟨Tryz.f172, Tryz.func172, K172⟩) <| ent_nil
def tl2 : List (Nat × AFun) := [(173, .code B173 R173 .drop), (174, .code B174 R174 .drop), (181, .code B181 R181 .keep), (182, .code B182 R182 .one), (183, .code B183 R183 .keep), (184, .code B184 R184 .drop), (185, .code B185 R185 .keep), (186, .code B186 R186 .one), (187, .code B187 R187 .drop), (191, .code B191 R191 .keep), (192, .code B192 R192 .keep), (193, .code B193 R193 .keep), (194, .code B194 R194 .drop), (195, .code B195 R195 .drop), (196, .code B196 R196 .drop), (197, .code B197 R197 .keep), (198, .code B198 R198 .keep), (199, .code B199 R199 .keep), (200, .code B200 R200 .keep), (201, .code B201 R201 .keep), (203, .code B203 R203 .drop), (204, .code B204 R204 .drop), (215, .code B215 R215 .keep), (216, .code B216 R216 .drop), (217, .code B217 R217 .keep), (218, .code B218 R218 .drop), (219, .code B219 R219 .keep), (220, .code B220 R220 .keep), (221, .code B221 R221 .drop), (222, .code B222 R222 .drop), (223, .code B223 R223 .one), (224, .code B224 R224 .drop), (225, .code B225 R225 .drop), (226, .code B226 R226 .drop), (232, .code B232 R232 .drop), (233, .code B233 R233 .keep), (234, .code B234 R234 .keep), (239, .code B239 R239 .keep), (240, .code B240 R240 .drop), (241, .code B241 R241 .drop)]
theorem el2 : ∀ x ∈ tl2, EntOk x :=
  ent_cons (show EntOk _ from ⟨Tryz.f173, Tryz.func173, K173⟩) <| ent_cons (show EntOk _ from ⟨Tryz.f174, Tryz.func174, K174⟩) <| ent_cons (show EntOk _ from ⟨Tryz.f181, Tryz.func181, K181⟩) <| ent_cons (show EntOk _ from ⟨Tryz.f182, Tryz.func182, K182⟩) <| ent_cons (show EntOk _ from ⟨Tryz.f183, Tryz.func183, K183⟩) <| ent_cons (show EntOk _ from ⟨Tryz.f184, Tryz.func184, K184⟩) <| ent_cons (show EntOk _ from ⟨Tryz.f185, Tryz.func185, K185⟩) <| ent_cons (show EntOk _ from ⟨Tryz.f186, Tryz.func186, K186⟩) <| ent_cons (show EntOk _ from ⟨Tryz.f187, Tryz.func187, K187⟩) <| ent_cons (show EntOk _ from ⟨Tryz.f191, Tryz.func191, K191⟩) <| ent_cons (show EntOk _ from ⟨Tryz.f192, Tryz.func192, K192⟩) <| ent_cons (show EntOk _ from ⟨Tryz.f193, Tryz.func193, K193⟩) <| ent_cons (show EntOk _ from ⟨Tryz.f194, Tryz.func194, K194⟩) <| ent_cons (show EntOk _ from ⟨Tryz.f195, Tryz.func195, K195⟩) <| ent_cons (show EntOk _ from ⟨Tryz.f196, Tryz.func196, K196⟩) <| ent_cons (show EntOk _ from ⟨Tryz.f197, Tryz.func197, K197⟩) <| ent_cons (show EntOk _ from ⟨Tryz.f198, Tryz.func198, K198⟩) <| ent_cons (show EntOk _ from ⟨Tryz.f199, Tryz.func199, K199⟩) <| ent_cons (show EntOk _ from ⟨Tryz.f200, Tryz.func200, K200⟩) <| ent_cons (show EntOk _ from ⟨Tryz.f201, Tryz.func201, K201⟩) <| ent_cons (show EntOk _ from ⟨Tryz.f203, Tryz.func203, K203⟩) <| ent_cons (show EntOk _ from ⟨Tryz.f204, Tryz.func204, K204⟩) <| ent_cons (show EntOk _ from ⟨Tryz.f215, Tryz.func215, K215⟩) <| ent_cons (show EntOk _ from ⟨Tryz.f216, Tryz.func216, K216⟩) <| ent_cons (show EntOk _ from ⟨Tryz.f217, Tryz.func217, K217⟩) <| ent_cons (show EntOk _ from ⟨Tryz.f218, Tryz.func218, K218⟩) <| ent_cons (show EntOk _ from ⟨Tryz.f219, Tryz.func219, K219⟩) <| ent_cons (show EntOk _ from ⟨Tryz.f220, Tryz.func220, K220⟩) <| ent_cons (show EntOk _ from ⟨Tryz.f221, Tryz.func221, K221⟩) <| ent_cons (show EntOk _ from ⟨Tryz.f222, Tryz.func222, K222⟩) <| ent_cons (show EntOk _ from ⟨Tryz.f223, Tryz.func223, K223⟩) <| ent_cons (show EntOk _ from ⟨Tryz.f224, Tryz.func224, K224⟩) <| ent_cons (show EntOk _ from ⟨Tryz.f225, Tryz.func225, K225⟩) <| ent_cons (show EntOk _ from ⟨Tryz.f226, Tryz.func226, K226⟩) <| ent_cons (show EntOk _ from ⟨Tryz.f232, Tryz.func232, K232⟩) <| ent_cons (show EntOk _ from ⟨Tryz.f233, Tryz.func233, K233⟩) <| ent_cons (show EntOk _ from ⟨Tryz.f234, Tryz.func234, K234⟩) <| ent_cons (show EntOk _ from ⟨Tryz.f239, Tryz.func239, K239⟩) <| ent_cons (show EntOk _ from ⟨Tryz.f240, Tryz.func240, K240⟩) <| ent_cons (show EntOk _ from ⟨Tryz.f241, Tryz.func241, K241⟩) <| ent_nil
def tl3 : List (Nat × AFun) := [(242, .code B242 R242 .drop), (243, .code B243 R243 .drop), (244, .code B244 R244 .keep), (245, .code B245 R245 .keep), (246, .code B246 R246 .drop), (247, .code B247 R247 .keep), (248, .code B248 R248 .keep), (249, .code B249 R249 .keep), (250, .code B250 R250 .keep), (251, .code B251 R251 .keep), (254, .code B254 R254 .drop), (255, .code B255 R255 .drop), (256, .code B256 R256 .drop), (262, .code B262 R262 .drop), (263, .code B263 R263 .keep), (264, .code B264 R264 .keep), (265, .code B265 R265 .keep), (266, .code B266 R266 .keep), (267, .code B267 R267 .keep), (268, .code B268 R268 .keep), (269, .code B269 R269 .keep), (270, .code B270 R270 .keep), (271, .code B271 R271 .keep), (272, .code B272 R272 .keep), (273, .code B273 R273 .keep), (274, .code B274 R274 .keep), (275, .code B275 R275 .keep), (276, .code B276 R276 .keep), (277, .code B277 R277 .keep), (278, .code B278 R278 .drop), (283, .code B283 R283 .drop), (284, .code B284 R284 .one), (285, .code B285 R285 .drop), (286, .code B286 R286 .drop), (287, .code B287 R287 .keep), (288, .code B288 R288 .keep), (289, .code B289 R289 .drop), (290, .code B290 R290 .keep), (291, .code B291 R291 .keep), (292, .code B292 R292 .drop)]
theorem el3 : ∀ x ∈ tl3, EntOk x :=
  ent_cons (show EntOk _ from ⟨Tryz.f242, Tryz.func242, K242⟩) <| ent_cons (show EntOk _ from ⟨Tryz.f243, Tryz.func243, K243⟩) <| ent_cons (show EntOk _ from ⟨Tryz.f244, Tryz.func244, K244⟩) <| ent_cons (show EntOk _ from ⟨Tryz.f245, Tryz.func245, K245⟩) <| ent_cons (show EntOk _ from ⟨Tryz.f246, Tryz.func246, K246⟩) <| ent_cons (show EntOk _ from ⟨Tryz.f247, Tryz.func247, K247⟩) <| ent_cons (show EntOk _ from ⟨Tryz.f248, Tryz.func248, K248⟩) <| ent_cons (show EntOk _ from ⟨Tryz.f249, Tryz.func249, K249⟩) <| ent_cons (show EntOk _ from ⟨Tryz.f250, Tryz.func250, K250⟩) <| ent_cons (show EntOk _ from ⟨Tryz.f251, Tryz.func251, K251⟩) <| ent_cons (show EntOk _ from ⟨Tryz.f254, Tryz.func254, K254⟩) <| ent_cons (show EntOk _ from ⟨Tryz.f255, Tryz.func255, K255⟩) <| ent_cons (show EntOk _ from ⟨Tryz.f256, Tryz.func256, K256⟩) <| ent_cons (show EntOk _ from ⟨Tryz.f262, Tryz.func262, K262⟩) <| ent_cons (show EntOk _ from ⟨Tryz.f263, Tryz.func263, K263⟩) <| ent_cons (show EntOk _ from ⟨Tryz.f264, Tryz.func264, K264⟩) <| ent_cons (show EntOk _ from ⟨Tryz.f265, Tryz.func265, K265⟩) <| ent_cons (show EntOk _ from ⟨Tryz.f266, Tryz.func266, K266⟩) <| ent_cons (show EntOk _ from ⟨Tryz.f267, Tryz.func267, K267⟩) <| ent_cons (show EntOk _ from ⟨Tryz.f268, Tryz.func268, K268⟩) <| ent_cons (show EntOk _ from ⟨Tryz.f269, Tryz.func269, K269⟩) <| ent_cons (show EntOk _ from ⟨Tryz.f270, Tryz.func270, K270⟩) <| ent_cons (show EntOk _ from ⟨Tryz.f271, Tryz.func271, K271⟩) <| ent_cons (show EntOk _ from ⟨Tryz.f272, Tryz.func272, K272⟩) <| ent_cons (show EntOk _ from ⟨Tryz.f273, Tryz.func273, K273⟩) <| ent_cons (show EntOk _ from ⟨Tryz.f274, Tryz.func274, K274⟩) <| ent_cons (show EntOk _ from ⟨Tryz.f275, Tryz.func275, K275⟩) <| ent_cons (show EntOk _ from ⟨Tryz.f276, Tryz.func276, K276⟩) <| ent_cons (show EntOk _ from ⟨Tryz.f277, Tryz.func277, K277⟩) <| ent_cons (show EntOk _ from ⟨Tryz.f278, Tryz.func278, K278⟩) <| ent_cons (show EntOk _ from ⟨Tryz.f283, Tryz.func283, K283⟩) <| ent_cons (show EntOk _ from ⟨Tryz.f284, Tryz.func284, K284⟩) <| ent_cons (show EntOk _ from ⟨Tryz.f285, Tryz.func285, K285⟩) <| ent_cons (show EntOk _ from ⟨Tryz.f286, Tryz.func286, K286⟩) <| ent_cons (show EntOk _ from ⟨Tryz.f287, Tryz.func287, K287⟩) <| ent_cons (show EntOk _ from ⟨Tryz.f288, Tryz.func288, K288⟩) <| ent_cons (show EntOk _ from ⟨Tryz.f289, Tryz.func289, K289⟩) <| ent_cons (show EntOk _ from ⟨Tryz.f290, Tryz.func290, K290⟩) <| ent_cons (show EntOk _ from ⟨Tryz.f291, Tryz.func291, K291⟩) <| ent_cons (show EntOk _ from ⟨Tryz.f292, Tryz.func292, K292⟩) <| ent_nil
def tl4 : List (Nat × AFun) := [(294, .code B294 R294 .drop), (295, .code B295 R295 .keep), (296, .code B296 R296 .keep), (297, .code B297 R297 .keep), (298, .code B298 R298 .keep), (299, .code B299 R299 .one), (300, .code B300 R300 .drop), (301, .code B301 R301 .drop), (302, .code B302 R302 .drop), (303, .code B303 R303 .one), (304, .code B304 R304 .drop), (305, .code B305 R305 .drop), (306, .code B306 R306 .drop), (307, .code B307 R307 .keep), (308, .code B308 R308 .drop), (309, .code B309 R309 .keep), (310, .code B310 R310 .drop), (311, .code B311 R311 .drop), (312, .code B312 R312 .drop), (313, .code B313 R313 .one)]
theorem el4 : ∀ x ∈ tl4, EntOk x :=
  ent_cons (show EntOk _ from ⟨Tryz.f294, Tryz.func294, K294⟩) <| ent_cons (show EntOk _ from ⟨Tryz.f295, Tryz.func295, K295⟩) <| ent_cons (show EntOk _ from ⟨Tryz.f296, Tryz.func296, K296⟩) <| ent_cons (show EntOk _ from ⟨Tryz.f297, Tryz.func297, K297⟩) <| ent_cons (show EntOk _ from ⟨Tryz.f298, Tryz.func298, K298⟩) <| ent_cons (show EntOk _ from ⟨Tryz.f299, Tryz.func299, K299⟩) <| ent_cons (show EntOk _ from ⟨Tryz.f300, Tryz.func300, K300⟩) <| ent_cons (show EntOk _ from ⟨Tryz.f301, Tryz.func301, K301⟩) <| ent_cons (show EntOk _ from ⟨Tryz.f302, Tryz.func302, K302⟩) <| ent_cons (show EntOk _ from ⟨Tryz.f303, Tryz.func303, K303⟩) <| ent_cons (show EntOk _ from ⟨Tryz.f304, Tryz.func304, K304⟩) <| ent_cons (show EntOk _ from ⟨Tryz.f305, Tryz.func305, K305⟩) <| ent_cons (show EntOk _ from ⟨Tryz.f306, Tryz.func306, K306⟩) <| ent_cons (show EntOk _ from ⟨Tryz.f307, Tryz.func307, K307⟩) <| ent_cons (show EntOk _ from ⟨Tryz.f308, Tryz.func308, K308⟩) <| ent_cons (show EntOk _ from ⟨Tryz.f309, Tryz.func309, K309⟩) <| ent_cons (show EntOk _ from ⟨Tryz.f310, Tryz.func310, K310⟩) <| ent_cons (show EntOk _ from ⟨Tryz.f311, Tryz.func311, K311⟩) <| ent_cons (show EntOk _ from ⟨Tryz.f312, Tryz.func312, K312⟩) <| ent_cons (show EntOk _ from ⟨Tryz.f313, Tryz.func313, K313⟩) <| ent_nil
theorem tbl_eq : tblL = tl0 ++ tl1 ++ tl2 ++ tl3 ++ tl4 := rfl
theorem tbl_ok : ∀ x ∈ tblL, EntOk x := by
  intro x hx
  rw [tbl_eq] at hx
  simp only [List.mem_append] at hx
  rcases hx with (((h | h) | h) | h) | h
  · exact el0 x h
  · exact el1 x h
  · exact el2 x h
  · exact el3 x h
  · exact el4 x h
theorem lookup_mem : ∀ {l : List (Nat × AFun)} {k : Nat} {a : AFun}, l.lookup k = some a → (k, a) ∈ l
  | [], _, _, h => by simp at h
  | (j, b) :: l, k, a, h => by
    simp only [List.lookup_cons] at h
    split at h
    · rename_i e
      obtain rfl := eq_of_beq e
      cases h; exact List.mem_cons_self
    · exact List.mem_cons_of_mem _ (lookup_mem h)
theorem funsOk : FunsOk Tryz.prog Tb (okCode Tryz.prog) := by
  intro f body res mode h
  obtain ⟨fn, h1, h2⟩ := tbl_ok _ (lookup_mem h)
  obtain ⟨c, h3⟩ := okFun_spec h2
  exact ⟨fn, c, h1, h3⟩
theorem extOk : ExtOk Tryz.prog Tb := by
  refine ⟨fun f h n w => ?_, fun f h b w => ?_, fun f h b w => ?_⟩
  · obtain rfl : f = 90 := tbl_ok _ (lookup_mem h)
    exact frombits_run n w
  · obtain rfl : f = 141 := tbl_ok _ (lookup_mem h)
    exact bits_run b w
  · obtain rfl : f = 103 := tbl_ok _ (lookup_mem h)
    exact ⟨canon_enter b w, canon_walk b w⟩
theorem mixed : Tryz.prog.follows .mixedOrders = true := by kernel_rfl
/-- **What the machine does over the table the program does.** -/
theorem simT (gl n : Nat) : SimC Tryz.prog Tb gl (okCode Tryz.prog) n := simC_all funsOk extOk mixed n
end Go.AM.Cd
