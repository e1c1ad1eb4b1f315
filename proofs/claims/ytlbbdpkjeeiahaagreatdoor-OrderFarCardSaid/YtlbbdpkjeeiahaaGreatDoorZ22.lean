/- OrderFar: for every input the law returns true, and what was handed in reads as it did. Under the card's conditions: the listed package-level variables start as the program's text lays them. -/
import Derived.Test.YtlbbdpkjeeiahaaGreatDoorZ21
import Derived.Test.YtlbbdpkjeeiahaaGreatDoorCards
import Derived.Test.YtlbbdpkjeeiahaaGreatDoorTie
import Derived.SevenTiedAt
set_option maxHeartbeats 8000000
set_option linter.unusedVariables false
section
namespace Go.Proofs.YtlbbdpkjeeiahaaGreatDoor
open Go Go.Ax Go.ChangeShapes Go.WideShapes Go.ChangeAt Go.RowKit
theorem A7:OpenClaim.wfByText (OpenSpec.ofChange Rows.orderFarSpec) Rows.orderFarRow = true:=by kernel_rfl
theorem Ce:true = Tryz.pinned.checked.prog.looks []:=by kernel_rfl
theorem Di:false = Rows.orderFarRow.goesBy Tryz.pinned.checked.prog:=by kernel_rfl
theorem orderFar_card:Rows.OrderFarCardSaid:=
 Claim7.holds_tied_plain_at .later [] [.data,.data,.data,.data,.sentinel,.sentinel,.pinned] true (true, "910b67f9e3c6799eb1a88cf65b085a08ac71c52b9ce870fe3b27f48b88d61e2d") true
  E6 (fun _ h=>by cases h) A7 (fun _ h=>by cases h) orderFar_row_tie rfl ⟨rfl,rfl⟩ (by kernel_rfl) rfl
  (fun f fn hf hfn=>by
   obtain rfl:f = 4:=Option.some.inj ((show Tryz.prog.funcNamed "shipwright/shipwrightlaw12.OrderFar" = some 4 by kernel_rfl).symm.trans hf) |>.symm
   obtain rfl:fn = Tryz.f4:=(Option.some.inj (Tryz.func4.symm.trans hfn)).symm
   exact ⟨Ce,fun j t ht=>by
    rw [Tryz.params4] at ht
    have hm:t ∈ [22,40,3]:=by simpa using Array.mem_of_getElem? ht
    have hall:([22,40,3].all fun u=>!Tryz.prog.wantsStandIn u) = true:=by kernel_rfl
    exact (show Tryz.prog.wantsStandIn t = false by simpa using List.all_eq_true.1 hall t hm)⟩)
  Di
#print axioms orderFar_card
end Go.Proofs.YtlbbdpkjeeiahaaGreatDoor
end
