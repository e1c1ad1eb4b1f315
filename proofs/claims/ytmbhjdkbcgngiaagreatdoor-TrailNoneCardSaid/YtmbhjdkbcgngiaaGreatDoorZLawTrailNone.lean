/- TrailNone: for every input the law returns true, and what was handed in reads as it did. Under the card's conditions: the listed package-level variables start as the program's text lays them. -/
import Derived.Test.YtmbhjdkbcgngiaaGreatDoorZLawTrailNoneB
import Derived.Test.YtmbhjdkbcgngiaaGreatDoorCards
import Derived.Test.YtmbhjdkbcgngiaaGreatDoorTie
import Derived.SevenTiedAt
set_option linter.unusedVariables false
namespace Go.Proofs.YtmbhjdkbcgngiaaGreatDoor
open Go Go.Ax Go.ChangeShapes Go.WideShapes Go.ChangeAt Go.RowKit
theorem trailNone_byText : OpenClaim.wfByText (OpenSpec.ofChange Rows.trailNoneSpec) Rows.trailNoneRow = true := by kernel_rfl
theorem trailNone_looks : true = Tryz.pinned.checked.prog.looks [] := by kernel_rfl
theorem trailNone_goes : false = Rows.trailNoneRow.goesBy Tryz.pinned.checked.prog := by kernel_rfl
theorem trailNone_card : Rows.TrailNoneCardSaid :=
  Claim7.holds_tied_plain_at .later [] [.data, .data, .data, .data, .sentinel, .sentinel, .pinned] true (true, "34124671ad90cbbeddae1254912cdd02ac62a28b5317a839547e5c85ff211276") true
    trailNone_row (fun _ h => by cases h) trailNone_byText (fun _ h => by cases h) trailNone_row_tie rfl ⟨rfl, rfl⟩ (by kernel_rfl) rfl
    (fun f fn hf hfn => by
      obtain rfl : f = 8 := Option.some.inj ((show Tryz.prog.funcNamed "shipwright/shipwrightlaw12.TrailNone" = some 8 by kernel_rfl).symm.trans hf) |>.symm
      obtain rfl : fn = Tryz.f8 := (Option.some.inj (Tryz.func8.symm.trans hfn)).symm
      exact ⟨trailNone_looks, fun j t ht => by
        rw [Tryz.params8] at ht
        have hm : t ∈ [] := by simpa using Array.mem_of_getElem? ht
        have hall : ([].all fun u => !Tryz.prog.wantsStandIn u) = true := by kernel_rfl
        exact (show Tryz.prog.wantsStandIn t = false by simpa using List.all_eq_true.1 hall t hm)⟩)
    trailNone_goes
#print axioms trailNone_card
end Go.Proofs.YtmbhjdkbcgngiaaGreatDoor
