/- LabelsAll: for every input the law returns true, and what was handed in reads as it did. Under the card's conditions: the listed package-level variables start as the program's text lays them. -/
import Derived.Test.YtmbhjdkbcgngiaaGreatDoorZLawLabelsAllB
import Derived.Test.YtmbhjdkbcgngiaaGreatDoorCards
import Derived.Test.YtmbhjdkbcgngiaaGreatDoorTie
import Derived.SevenTiedAt
set_option linter.unusedVariables false
namespace Go.Proofs.YtmbhjdkbcgngiaaGreatDoor
open Go Go.Ax Go.ChangeShapes Go.WideShapes Go.ChangeAt Go.RowKit
theorem labelsAll_byText : OpenClaim.wfByText (OpenSpec.ofChange Rows.labelsAllSpec) Rows.labelsAllRow = true := by kernel_rfl
theorem labelsAll_looks : true = Tryz.pinned.checked.prog.looks [] := by kernel_rfl
theorem labelsAll_goes : false = Rows.labelsAllRow.goesBy Tryz.pinned.checked.prog := by kernel_rfl
theorem labelsAll_card : Rows.LabelsAllCardSaid :=
  Claim7.holds_tied_plain_at .later [] [.data, .data, .data, .data, .sentinel, .sentinel, .pinned] true (true, "34124671ad90cbbeddae1254912cdd02ac62a28b5317a839547e5c85ff211276") true
    labelsAll_row (fun _ h => by cases h) labelsAll_byText (fun _ h => by cases h) labelsAll_row_tie rfl ⟨rfl, rfl⟩ (by kernel_rfl) rfl
    (fun f fn hf hfn => by
      obtain rfl : f = 6 := Option.some.inj ((show Tryz.prog.funcNamed "shipwright/shipwrightlaw12.LabelsAll" = some 6 by kernel_rfl).symm.trans hf) |>.symm
      obtain rfl : fn = Tryz.f6 := (Option.some.inj (Tryz.func6.symm.trans hfn)).symm
      exact ⟨labelsAll_looks, fun j t ht => by
        rw [Tryz.params6] at ht
        have hm : t ∈ [22, 22, 34, 34] := by simpa using Array.mem_of_getElem? ht
        have hall : ([22, 22, 34, 34].all fun u => !Tryz.prog.wantsStandIn u) = true := by kernel_rfl
        exact (show Tryz.prog.wantsStandIn t = false by simpa using List.all_eq_true.1 hall t hm)⟩)
    labelsAll_goes
#print axioms labelsAll_card
end Go.Proofs.YtmbhjdkbcgngiaaGreatDoor
