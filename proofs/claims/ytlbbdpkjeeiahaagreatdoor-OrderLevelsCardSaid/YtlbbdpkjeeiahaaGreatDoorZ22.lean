/- OrderLevels: for every input the law returns true, and what was handed in reads as it did. Under the card's conditions: the listed package-level variables start as the program's text lays them. -/
import Derived.Test.YtlbbdpkjeeiahaaGreatDoorZ21
import Derived.Test.YtlbbdpkjeeiahaaGreatDoorCards
import Derived.Test.YtlbbdpkjeeiahaaGreatDoorTie
import Derived.SevenTiedAt
set_option maxHeartbeats 8000000
set_option linter.unusedVariables false
section
namespace Go.Proofs.YtlbbdpkjeeiahaaGreatDoor
open Go Go.Ax Go.ChangeShapes Go.WideShapes Go.ChangeAt Go.RowKit
theorem vK:OpenClaim.wfByText (OpenSpec.ofChange Rows.orderLevelsSpec) Rows.orderLevelsRow = true:=by kernel_rfl
theorem wQ:true = Tryz.pinned.checked.prog.looks []:=by kernel_rfl
theorem yN:false = Rows.orderLevelsRow.goesBy Tryz.pinned.checked.prog:=by kernel_rfl
theorem orderLevels_card:Rows.OrderLevelsCardSaid:=
 Claim7.holds_tied_plain_at .later [] [.data,.data,.data,.data,.sentinel,.sentinel,.pinned] true (true, "910b67f9e3c6799eb1a88cf65b085a08ac71c52b9ce870fe3b27f48b88d61e2d") true
  Ay (fun _ h=>by cases h) vK (fun _ h=>by cases h) orderLevels_row_tie rfl ⟨rfl,rfl⟩ (by kernel_rfl) rfl
  (fun f fn hf hfn=>by
   obtain rfl:f = 7:=Option.some.inj ((show Tryz.prog.funcNamed "shipwright/shipwrightlaw12.OrderLevels" = some 7 by kernel_rfl).symm.trans hf) |>.symm
   obtain rfl:fn = Tryz.f7:=(Option.some.inj (Tryz.func7.symm.trans hfn)).symm
   exact ⟨wQ,fun j t ht=>by
    rw [Tryz.params7] at ht
    have hm:t ∈ [22]:=by simpa using Array.mem_of_getElem? ht
    have hall:([22].all fun u=>!Tryz.prog.wantsStandIn u) = true:=by kernel_rfl
    exact (show Tryz.prog.wantsStandIn t = false by simpa using List.all_eq_true.1 hall t hm)⟩)
  yN
#print axioms orderLevels_card
end Go.Proofs.YtlbbdpkjeeiahaaGreatDoor
end
