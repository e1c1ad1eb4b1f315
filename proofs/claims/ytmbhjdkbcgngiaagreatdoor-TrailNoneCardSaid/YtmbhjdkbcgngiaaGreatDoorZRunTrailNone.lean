/- AX: TrailNone's run. -/
import Derived.Test.YtmbhjdkbcgngiaaGreatDoorZ12
namespace Go.Proofs.YtmbhjdkbcgngiaaGreatDoor
open Go Go.Ax
theorem run_trailNone : ∃ k, Ax.call LE k 8 [] = some (.bool true) := ⟨100000, by kernel_rfl⟩
end Go.Proofs.YtmbhjdkbcgngiaaGreatDoor
