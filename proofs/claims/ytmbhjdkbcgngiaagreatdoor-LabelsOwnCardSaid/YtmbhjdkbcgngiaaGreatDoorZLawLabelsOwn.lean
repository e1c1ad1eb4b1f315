/- LabelsOwn: for every input the law returns true, and what was handed in reads as it did. Under the card's conditions: the listed package-level variables start as the program's text lays them. -/
import Derived.Test.YtmbhjdkbcgngiaaGreatDoorZLawLabelsOwnB
import Derived.Test.YtmbhjdkbcgngiaaGreatDoorCards
import Derived.Test.YtmbhjdkbcgngiaaGreatDoorTie
import Derived.SevenTiedAt
set_option linter.unusedVariables false
namespace Go.Proofs.YtmbhjdkbcgngiaaGreatDoor
open Go Go.Ax Go.ChangeShapes Go.WideShapes Go.ChangeAt Go.RowKit
theorem labelsOwn_byText : OpenClaim.wfByText (OpenSpec.ofChange Rows.labelsOwnSpec) Rows.labelsOwnRow = true := by kernel_rfl
theorem labelsOwn_looks : true = Tryz.pinned.checked.prog.looks [] := by kernel_rfl
theorem labelsOwn_goes : false = Rows.labelsOwnRow.goesBy Tryz.pinned.checked.prog := by kernel_rfl
theorem labelsOwn_card : Rows.LabelsOwnCardSaid :=
  Claim7.holds_tied_plain_at .later [] [.data, .data, .data, .data, .sentinel, .sentinel, .pinned] true (true, "34124671ad90cbbeddae1254912cdd02ac62a28b5317a839547e5c85ff211276") true
    labelsOwn_row (fun _ h => by cases h) labelsOwn_byText (fun _ h => by cases h) labelsOwn_row_tie rfl ⟨rfl, rfl⟩ (by kernel_rfl) rfl
    (fun f fn hf hfn => by
      obtain rfl : f = 3 := Option.some.inj ((show Tryz.prog.funcNamed "shipwright/shipwrightlaw12.LabelsOwn" = some 3 by kernel_rfl).symm.trans hf) |>.symm
      obtain rfl : fn = Tryz.f3 := (Option.some.inj (Tryz.func3.symm.trans hfn)).symm
      exact ⟨labelsOwn_looks, fun j t ht => by
        rw [Tryz.params3] at ht
        have hm : t ∈ [22, 22] := by simpa using Array.mem_of_getElem? ht
        have hall : ([22, 22].all fun u => !Tryz.prog.wantsStandIn u) = true := by kernel_rfl
        exact (show Tryz.prog.wantsStandIn t = false by simpa using List.all_eq_true.1 hall t hm)⟩)
    labelsOwn_goes
#print axioms labelsOwn_card
end Go.Proofs.YtmbhjdkbcgngiaaGreatDoor
