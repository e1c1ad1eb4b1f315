/- TrailRight: for every input the law returns true, and what was handed in reads as it did. Under the card's conditions: the listed package-level variables start as the program's text lays them. -/
import Derived.Test.YtmhchflckonklaaGreatDoorY
import Derived.Test.YtmhchflckonklaaGreatDoorZ22
import Derived.Test.YtmhchflckonklaaGreatDoorCards
import Derived.Test.YtmhchflckonklaaGreatDoorTie
import Derived.SevenTiedAt
set_option maxHeartbeats 8000000
set_option linter.unusedVariables false
section
namespace Go.Proofs.YtmhchflckonklaaGreatDoor
open Go Go.Ax Go.ChangeShapes Go.WideShapes Go.ChangeAt Go.RowKit
theorem xT:OpenClaim.wfByText (OpenSpec.ofChange Rows.trailRightSpec) Rows.trailRightRow=true:=by kernel_rfl
theorem zU:true=Tryz.pinned.checked.prog.looks []:=by kernel_rfl
theorem Bq:false=Rows.trailRightRow.goesBy Tryz.pinned.checked.prog:=by kernel_rfl
theorem trailRight_card:Rows.TrailRightCardSaid:=
 Claim7.holds_tied_plain_at .later [] [.data,.data,.data,.data,.sentinel,.sentinel,.pinned] true (true, "f6c8c75bf896f14ffae3855d78b2cc816bda28dd4fd76e0f8fcf8cc6427d655b") true
  Cg (λ_ h=>by cases h) xT (λ_ h=>by cases h) trailRight_row_tie rfl ⟨rfl,rfl⟩ (by kernel_rfl) rfl
  (λf fn hf hfn=>by
   obtain rfl:f=7:=dc ((show Tryz.prog.funcNamed "shipwright/shipwrightlaw12.TrailRight" = some 7 by kernel_rfl).symm.trans hf) |>.symm
   obtain rfl:fn=Tryz.f7:=(dc (Tryz.func7.symm.trans hfn)).symm
   exact⟨zU,λj t ht=>by
    rw[Tryz.params7]at ht
    have hm:t∈[22,51,51]:=by simpa using Array.mem_of_getElem? ht
    have hall:([22,51,51].all λu=>!Tryz.prog.wantsStandIn u)=true:=by kernel_rfl
    exact (show Tryz.prog.wantsStandIn t=false by simpa using er.1 hall t hm)⟩)
  Bq
#print axioms trailRight_card
end Go.Proofs.YtmhchflckonklaaGreatDoor
end
