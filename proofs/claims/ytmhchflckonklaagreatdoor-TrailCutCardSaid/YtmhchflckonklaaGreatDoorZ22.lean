/- TrailCut: for every input the law returns true, and what was handed in reads as it did. Under the card's conditions: the listed package-level variables start as the program's text lays them. -/
import Derived.Test.YtmhchflckonklaaGreatDoorY
import Derived.Test.YtmhchflckonklaaGreatDoorZ21
import Derived.Test.YtmhchflckonklaaGreatDoorCards
import Derived.Test.YtmhchflckonklaaGreatDoorTie
import Derived.SevenTiedAt
set_option maxHeartbeats 8000000
set_option linter.unusedVariables false
section
namespace Go.Proofs.YtmhchflckonklaaGreatDoor
open Go Go.Ax Go.ChangeShapes Go.WideShapes Go.ChangeAt Go.RowKit
theorem AR:OpenClaim.wfByText (OpenSpec.ofChange Rows.trailCutSpec) Rows.trailCutRow = true:=by kernel_rfl
theorem Bx:true = Tryz.pinned.checked.prog.looks []:=by kernel_rfl
theorem C7:false = Rows.trailCutRow.goesBy Tryz.pinned.checked.prog:=by kernel_rfl
theorem trailCut_card:Rows.TrailCutCardSaid:=
 Claim7.holds_tied_plain_at .later [] [.data,.data,.data,.data,.sentinel,.sentinel,.pinned] true (true, "f6c8c75bf896f14ffae3855d78b2cc816bda28dd4fd76e0f8fcf8cc6427d655b") true
  EL (fun _ h=>by cases h) AR (fun _ h=>by cases h) trailCut_row_tie rfl ⟨rfl,rfl⟩ (by kernel_rfl) rfl
  (fun f fn hf hfn=>by
   obtain rfl:f = 10:=au ((show Tryz.prog.funcNamed "shipwright/shipwrightlaw12.TrailCut" = some 10 by kernel_rfl).symm.trans hf) |>.symm
   obtain rfl:fn = Tryz.f10:=(au (Tryz.func10.symm.trans hfn)).symm
   exact ⟨Bx,fun j t ht=>by
    rw [Tryz.params10] at ht
    have hm:t ∈ [22,51,51,51,3]:=by simpa using Array.mem_of_getElem? ht
    have hall:([22,51,51,51,3].all fun u=>!Tryz.prog.wantsStandIn u) = true:=by kernel_rfl
    exact (show Tryz.prog.wantsStandIn t = false by simpa using bl.1 hall t hm)⟩)
  C7
#print axioms trailCut_card
end Go.Proofs.YtmhchflckonklaaGreatDoor
end
