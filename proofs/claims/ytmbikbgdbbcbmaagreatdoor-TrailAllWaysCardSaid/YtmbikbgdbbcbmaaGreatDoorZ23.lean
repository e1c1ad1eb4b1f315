/- TrailAllWays: for every input the law returns true, and what was handed in reads as it did. Under the card's conditions: the listed package-level variables start as the program's text lays them. -/
import Derived.Test.YtmbikbgdbbcbmaaGreatDoorY
import Derived.Test.YtmbikbgdbbcbmaaGreatDoorZ22
import Derived.Test.YtmbikbgdbbcbmaaGreatDoorCards
import Derived.Test.YtmbikbgdbbcbmaaGreatDoorTie
import Derived.SevenTiedAt
set_option maxHeartbeats 8000000
set_option linter.unusedVariables false
section
namespace Go.Proofs.YtmbikbgdbbcbmaaGreatDoor
open Go Go.Ax Go.ChangeShapes Go.WideShapes Go.ChangeAt Go.RowKit
theorem xA:OpenClaim.wfByText (OpenSpec.ofChange Rows.trailAllWaysSpec) Rows.trailAllWaysRow=true:=by kernel_rfl
theorem xS:true=Tryz.pinned.checked.prog.looks []:=by kernel_rfl
theorem yV:false=Rows.trailAllWaysRow.goesBy Tryz.pinned.checked.prog:=by kernel_rfl
theorem trailAllWays_card:Rows.TrailAllWaysCardSaid:=
 Claim7.holds_tied_plain_at .later [] [.data,.data,.data,.data,.sentinel,.sentinel,.pinned] true (true, "69704d52889d1d7ce71f62cc073ee1195abca1933bcaed0647b47e3490af82e4") true
  AA (λ_ h=>by cases h) xA (λ_ h=>by cases h) trailAllWays_row_tie rfl ⟨rfl,rfl⟩ (by kernel_rfl) rfl
  (λf fn hf hfn=>by
   obtain rfl:f=7:=dh ((show Tryz.prog.funcNamed "shipwright/shipwrightlaw12.TrailAllWays" = some 7 by kernel_rfl).symm.trans hf) |>.symm;obtain rfl:fn=Tryz.f7:=(dh (Tryz.func7.symm.trans hfn)).symm
   exact⟨xS,λj t ht=>by
    rw[Tryz.params7]at ht;have hm:t∈[22,51,51]:=by simpa using Array.mem_of_getElem? ht
    have hall:([22,51,51].all λu=>!Tryz.prog.wantsStandIn u)=true:=by kernel_rfl
    exact(show Tryz.prog.wantsStandIn t=false by simpa using eu.1 hall t hm)⟩)
  yV
#print axioms trailAllWays_card
end Go.Proofs.YtmbikbgdbbcbmaaGreatDoor
end
