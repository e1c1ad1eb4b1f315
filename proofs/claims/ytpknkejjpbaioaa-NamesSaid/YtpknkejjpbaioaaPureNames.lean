/- The names of package api stand for the document's numbers: the two written lists agree at every place. No conditions. -/
import Derived.Test.YtpknkejjpbaioaaPNamesx1
namespace Go.Proofs.Ytpknkejjpbaioaa.Pure
open Go.RowKit Go.Proofs.Ytpknkejjpbaioaa.PNames Go.Proofs.YtpknkejjpbaioaaW.PrintWords Go.Proofs.YtpknkejjpbaioaaW.PrintLast

theorem Names : shipwrightlaw0_Names.Pure := by
  refine ⟨100, ?_⟩
  decide +kernel

end Go.Proofs.Ytpknkejjpbaioaa.Pure
