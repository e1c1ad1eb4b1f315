/- LabelsLaws: for every input the law returns true, and what was handed in reads as it did. Under the card's conditions: the listed package-level variables start as the program's text lays them. -/
import Derived.Test.YtmbhjdkbcgngiaaGreatDoorZLawLabelsLawsB
import Derived.Test.YtmbhjdkbcgngiaaGreatDoorCards
import Derived.Test.YtmbhjdkbcgngiaaGreatDoorTie
import Derived.SevenTiedAt
set_option linter.unusedVariables false
namespace Go.Proofs.YtmbhjdkbcgngiaaGreatDoor
open Go Go.Ax Go.ChangeShapes Go.WideShapes Go.ChangeAt Go.RowKit
theorem labelsLaws_byText : OpenClaim.wfByText (OpenSpec.ofChange Rows.labelsLawsSpec) Rows.labelsLawsRow = true := by kernel_rfl
theorem labelsLaws_looks : true = Tryz.pinned.checked.prog.looks [] := by kernel_rfl
theorem labelsLaws_goes : false = Rows.labelsLawsRow.goesBy Tryz.pinned.checked.prog := by kernel_rfl
theorem labelsLaws_card : Rows.LabelsLawsCardSaid :=
  Claim7.holds_tied_plain_at .later [] [.data, .data, .data, .data, .sentinel, .sentinel, .pinned] true (true, "34124671ad90cbbeddae1254912cdd02ac62a28b5317a839547e5c85ff211276") true
    labelsLaws_row (fun _ h => by cases h) labelsLaws_byText (fun _ h => by cases h) labelsLaws_row_tie rfl ⟨rfl, rfl⟩ (by kernel_rfl) rfl
    (fun f fn hf hfn => by
      obtain rfl : f = 7 := Option.some.inj ((show Tryz.prog.funcNamed "shipwright/shipwrightlaw12.LabelsLaws" = some 7 by kernel_rfl).symm.trans hf) |>.symm
      obtain rfl : fn = Tryz.f7 := (Option.some.inj (Tryz.func7.symm.trans hfn)).symm
      exact ⟨labelsLaws_looks, fun j t ht => by
        rw [Tryz.params7] at ht
        have hm : t ∈ [22, 22, 22] := by simpa using Array.mem_of_getElem? ht
        have hall : ([22, 22, 22].all fun u => !Tryz.prog.wantsStandIn u) = true := by kernel_rfl
        exact (show Tryz.prog.wantsStandIn t = false by simpa using List.all_eq_true.1 hall t hm)⟩)
    labelsLaws_goes
#print axioms labelsLaws_card
end Go.Proofs.YtmbhjdkbcgngiaaGreatDoor
