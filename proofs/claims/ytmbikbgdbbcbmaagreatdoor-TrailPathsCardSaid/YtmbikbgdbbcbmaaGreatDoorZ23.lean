/- TrailPaths: for every input the law returns true, and what was handed in reads as it did. Under the card's conditions: the listed package-level variables start as the program's text lays them. -/
import Derived.Test.YtmbikbgdbbcbmaaGreatDoorY
import Derived.Test.YtmbikbgdbbcbmaaGreatDoorZ22
import Derived.Test.YtmbikbgdbbcbmaaGreatDoorCards
import Derived.Test.YtmbikbgdbbcbmaaGreatDoorTie
import Derived.SevenTiedAt
set_option maxHeartbeats 8000000
set_option linter.unusedVariables false
section
namespace Go.Proofs.YtmbikbgdbbcbmaaGreatDoor
open Go Go.Ax Go.ChangeShapes Go.WideShapes Go.ChangeAt Go.RowKit
theorem yL:OpenClaim.wfByText (OpenSpec.ofChange Rows.trailPathsSpec) Rows.trailPathsRow=true:=by kernel_rfl
theorem Ap:true=Tryz.pinned.checked.prog.looks []:=by kernel_rfl
theorem BO:false=Rows.trailPathsRow.goesBy Tryz.pinned.checked.prog:=by kernel_rfl
theorem trailPaths_card:Rows.TrailPathsCardSaid:=
 Claim7.holds_tied_plain_at .later [] [.data,.data,.data,.data,.sentinel,.sentinel,.pinned] true (true, "69704d52889d1d7ce71f62cc073ee1195abca1933bcaed0647b47e3490af82e4") true
  Cv (λ_ h=>by cases h) yL (λ_ h=>by cases h) trailPaths_row_tie rfl ⟨rfl,rfl⟩ (by kernel_rfl) rfl
  (λf fn hf hfn=>by
   obtain rfl:f=8:=dc ((show Tryz.prog.funcNamed "shipwright/shipwrightlaw12.TrailPaths" = some 8 by kernel_rfl).symm.trans hf) |>.symm;obtain rfl:fn=Tryz.f8:=(dc (Tryz.func8.symm.trans hfn)).symm
   exact⟨Ap,λj t ht=>by
    rw[Tryz.params8]at ht;have hm:t∈[22,51,51,3]:=by simpa using Array.mem_of_getElem? ht
    have hall:([22,51,51,3].all λu=>!Tryz.prog.wantsStandIn u)=true:=by kernel_rfl
    exact (show Tryz.prog.wantsStandIn t=false by simpa using ez.1 hall t hm)⟩)
  BO
#print axioms trailPaths_card
end Go.Proofs.YtmbikbgdbbcbmaaGreatDoor
end
