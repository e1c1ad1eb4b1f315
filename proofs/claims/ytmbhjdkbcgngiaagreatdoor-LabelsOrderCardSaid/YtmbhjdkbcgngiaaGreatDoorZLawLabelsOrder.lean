/- LabelsOrder: for every input the law returns true, and what was handed in reads as it did. Under the card's conditions: the listed package-level variables start as the program's text lays them. -/
import Derived.Test.YtmbhjdkbcgngiaaGreatDoorZLawLabelsOrderB
import Derived.Test.YtmbhjdkbcgngiaaGreatDoorCards
import Derived.Test.YtmbhjdkbcgngiaaGreatDoorTie
import Derived.SevenTiedAt
set_option linter.unusedVariables false
namespace Go.Proofs.YtmbhjdkbcgngiaaGreatDoor
open Go Go.Ax Go.ChangeShapes Go.WideShapes Go.ChangeAt Go.RowKit
theorem labelsOrder_byText : OpenClaim.wfByText (OpenSpec.ofChange Rows.labelsOrderSpec) Rows.labelsOrderRow = true := by kernel_rfl
theorem labelsOrder_looks : true = Tryz.pinned.checked.prog.looks [] := by kernel_rfl
theorem labelsOrder_goes : false = Rows.labelsOrderRow.goesBy Tryz.pinned.checked.prog := by kernel_rfl
theorem labelsOrder_card : Rows.LabelsOrderCardSaid :=
  Claim7.holds_tied_plain_at .later [] [.data, .data, .data, .data, .sentinel, .sentinel, .pinned] true (true, "34124671ad90cbbeddae1254912cdd02ac62a28b5317a839547e5c85ff211276") true
    labelsOrder_row (fun _ h => by cases h) labelsOrder_byText (fun _ h => by cases h) labelsOrder_row_tie rfl ⟨rfl, rfl⟩ (by kernel_rfl) rfl
    (fun f fn hf hfn => by
      obtain rfl : f = 4 := Option.some.inj ((show Tryz.prog.funcNamed "shipwright/shipwrightlaw12.LabelsOrder" = some 4 by kernel_rfl).symm.trans hf) |>.symm
      obtain rfl : fn = Tryz.f4 := (Option.some.inj (Tryz.func4.symm.trans hfn)).symm
      exact ⟨labelsOrder_looks, fun j t ht => by
        rw [Tryz.params4] at ht
        have hm : t ∈ [34, 34, 34] := by simpa using Array.mem_of_getElem? ht
        have hall : ([34, 34, 34].all fun u => !Tryz.prog.wantsStandIn u) = true := by kernel_rfl
        exact (show Tryz.prog.wantsStandIn t = false by simpa using List.all_eq_true.1 hall t hm)⟩)
    labelsOrder_goes
#print axioms labelsOrder_card
end Go.Proofs.YtmbhjdkbcgngiaaGreatDoor
