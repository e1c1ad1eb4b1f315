/- PassNone: for every input the law returns true, and what was handed in reads as it did. Under the card's conditions: the listed package-level variables start as the program's text lays them. -/
import Derived.Test.YtjcmjanmooabeaaGreatDoorZ23
import Derived.Test.YtjcmjanmooabeaaGreatDoorCards
import Derived.Test.YtjcmjanmooabeaaGreatDoorTie
import Derived.SevenTiedAt
set_option maxHeartbeats 8000000
set_option linter.unusedVariables false
set_option linter.unusedSimpArgs false
section
namespace Go.Proofs.YtjcmjanmooabeaaGreatDoor
open Go Go.Ax Go.ChangeShapes Go.WideShapes Go.ChangeAt Go.RowKit
theorem passNone_byText:OpenClaim.wfByText (OpenSpec.ofChange Rows.passNoneSpec) Rows.passNoneRow=true:=by kernel_rfl
theorem passNone_looks:true=Tryz.pinned.checked.prog.looks []:=by kernel_rfl
theorem passNone_goes:false=Rows.passNoneRow.goesBy Tryz.pinned.checked.prog:=by kernel_rfl
theorem passNone_card:Rows.PassNoneCardSaid:=
 Claim7.holds_tied_plain_at .later [] [.data,.data,.data,.data,.sentinel,.sentinel,.pinned] true (true, "5ad4742d4e6d76cc7246abdd8a4fe793a33ec448417a5403b0f4ca7ca88b845c") true
  passNone_row (λ_ h=>by cases h) passNone_byText (λ_ h=>by cases h) passNone_row_tie rfl ⟨rfl,rfl⟩ (by kernel_rfl) rfl
  (λf fn hf hfn=>by
   obtain rfl:f=3:=Option.some.inj ((show Tryz.prog.funcNamed "shipwright/shipwrightlaw20.PassNone" = some 3 by kernel_rfl).symm.trans hf) |>.symm
   obtain rfl:fn=Tryz.f3:=(Option.some.inj (Tryz.func3.symm.trans hfn)).symm
   exact⟨passNone_looks,λj t ht=>by
    rw[Tryz.params3]at ht
    have hm:t∈[]:=by simpa using Array.mem_of_getElem? ht
    have hall:([].all λu=>!Tryz.prog.wantsStandIn u)=true:=by kernel_rfl
    exact (show Tryz.prog.wantsStandIn t=false by simpa using List.all_eq_true.1 hall t hm)⟩)
  passNone_goes
#print axioms passNone_card
end Go.Proofs.YtjcmjanmooabeaaGreatDoor
end
