/- Part 21 of the proof. -/
import Derived.Test.YtmhchflckonklaaGreatDoorY
import Derived.Test.YtmhchflckonklaaGreatDoorZ20
set_option maxHeartbeats 8000000
set_option linter.unusedVariables false
section
namespace Go.Proofs.YtmhchflckonklaaGreatDoor
open Go Go.Ax Go.ChangeShapes Go.WideShapes Go.ChangeAt Go.RowKit
theorem lD {a b:Bool} (h:a = true) (k:b = true):(a && b) = true:=by rw [h,k]; rfl
theorem bR {a b:Bool} (h:(a && b) = true):a = true:=by cases a <;> first | rfl | exact h
theorem nH {a b:Bool} (h:(a && b) = true):b = true:=by cases a <;> first | exact h | cases h
theorem FW:(Rows.trailCutRow.wf (OpenSpec.ofChange Rows.trailCutSpec)) = true:=by kernel_rfl
theorem FV:(laidOutB Tryz.prog) = true:=laidOut
theorem jJ:(((((((mapsRowed Tryz.prog) && (Tryz.f10.params.all (Tryz.prog.readableRec ·))) && (namedTie Tryz.prog Rows.trailCutRow.named Rows.trailCutSpec.vars)) && ((Rows.trailCutRow.stops == []))) && ((Tryz.prog.stops == []))) && ((Rows.trailCutRow.knobs == []))) && ((Tryz.prog.stopKnobs == []))) = true:=by kernel_rfl
theorem pM:(((((Rows.trailCutRow.inPlace == Tryz.prog.inPlace 10)) && ((Rows.trailCutRow.unfollowed == Tryz.prog.unfollowed 10))) && ((Rows.trailCutRow.recurses == Tryz.prog.recurses 10))) && ((Rows.trailCutRow.named == Tryz.prog.varsNamed 10))) = true:=by kernel_rfl
theorem fJ:((((((((((Rows.trailCutRow.maps == (Tryz.f10.params.toList ++ Rows.trailCutSpec.plain.varTypes Tryz.prog).any (Tryz.prog.mapsRec ·))) && ((Rows.trailCutRow.ifaces == (Tryz.f10.params.toList ++ Rows.trailCutSpec.plain.varTypes Tryz.prog).any (Tryz.prog.ifacesRec ·)))) && ((Rows.trailCutRow.mapsOut == Tryz.prog.mapsAmong Tryz.f10.resultTypes.toList))) && ((Rows.trailCutRow.loops == (Tryz.f10.params.toList ++ Rows.trailCutSpec.plain.varTypes Tryz.prog).any (Tryz.prog.loopsFrom ·)))) && ((Rows.trailCutRow.wideKeys == (Tryz.f10.params.toList ++ Rows.trailCutSpec.plain.varTypes Tryz.prog ++ Tryz.f10.resultTypes.toList).any (Tryz.prog.wideKeysFrom ·)))) && (Rows.trailCutSpec.vars.all (Tryz.prog.varReadable ·))) && (Tryz.f10.resultTypes.all (fun t=>Tryz.prog.readableRec t && decide (t < Tryz.prog.types.size)))) && ((Rows.trailCutRow.ifacesOut == Tryz.f10.resultTypes.toList.any (Tryz.prog.ifacesRec ·)))) && ((Rows.trailCutRow.loopsOut == Tryz.f10.resultTypes.toList.any (Tryz.prog.loopsFrom ·)))) = true:=by kernel_rfl
theorem eY:(((((((((((Rows.trailCutRow.plainKeys == Tryz.prog.plainKeys)) && (Rows.trailCutRow.shortTexts.isNone)) && (Tryz.prog.stopsHeard)) && (Tryz.prog.mayEnter)) && ((Rows.trailCutRow.lifted == Tryz.prog.liftsFinal))) && ((Tryz.prog.make == some Rows.trailCutRow.make))) && ((Rows.trailCutRow.kinds == (if Rows.trailCutRow.domain.isEmpty then [] else Tryz.f10.params.toList.map fun t=>match Tryz.prog.underlying t with | some (.int k)=>some k | _=>none)))) && ((Rows.trailCutRow.pinned == Rows.trailCutRow.pinnedBy))) && ((Rows.trailCutRow.veiled == (Tryz.f10.params.toList ++ Rows.trailCutSpec.plain.varTypes Tryz.prog ++ Tryz.f10.resultTypes.toList).any (Tryz.prog.veiledRec ·)))) && (Rows.trailCutRow.veiledFits Tryz.prog Tryz.f10.params.toList (Tryz.f10.params.toList ++ Rows.trailCutSpec.plain.varTypes Tryz.prog ++ Tryz.f10.resultTypes.toList))) = true:=by kernel_rfl
set_option maxRecDepth 100000 in
theorem AQ:joinedFacts Tryz.prog 10 Tryz.f10 Rows.trailCutSpec Rows.trailCutRow = true:=(lD (lD (lD (lD (lD (lD (lD (lD (lD (lD (lD (lD (lD (lD (lD (lD (lD (lD (lD (lD (lD (lD (lD (lD (lD (lD (lD (lD (lD (lD (lD FW FV) (bR (bR (bR (bR (bR (bR jJ))))))) (nH (bR (bR (bR (bR (bR jJ))))))) (nH (bR (bR (bR (bR jJ)))))) (nH (bR (bR (bR jJ))))) (nH (bR (bR jJ)))) (nH (bR jJ))) (nH jJ)) (bR (bR (bR pM)))) (nH (bR (bR pM)))) (nH (bR pM))) (nH pM)) (bR (bR (bR (bR (bR (bR (bR (bR fJ))))))))) (nH (bR (bR (bR (bR (bR (bR (bR fJ))))))))) (nH (bR (bR (bR (bR (bR (bR fJ)))))))) (nH (bR (bR (bR (bR (bR fJ))))))) (nH (bR (bR (bR (bR fJ)))))) (nH (bR (bR (bR fJ))))) (nH (bR (bR fJ)))) (nH (bR fJ))) (nH fJ)) (bR (bR (bR (bR (bR (bR (bR (bR (bR eY)))))))))) (nH (bR (bR (bR (bR (bR (bR (bR (bR eY)))))))))) (nH (bR (bR (bR (bR (bR (bR (bR eY))))))))) (nH (bR (bR (bR (bR (bR (bR eY)))))))) (nH (bR (bR (bR (bR (bR eY))))))) (nH (bR (bR (bR (bR eY)))))) (nH (bR (bR (bR eY))))) (nH (bR (bR eY)))) (nH (bR eY))) (nH eY))
theorem EL:Rows.TrailCutSaid:=
 OpenClaim.holds_of_wide 10 Tryz.f10 rfl rfl rfl rfl rfl rfl rfl ⟨rfl,rfl,rfl,rfl,rfl⟩ rfl rfl rfl rfl rfl (by kernel_rfl) Tryz.func10 AQ
  (bf (by kernel_rfl)) (by unfold Func.isWrapper; first | (rw [ZO (by decide +kernel)]; kernel_rfl) | (rw [ZM (by decide +kernel)]; exact ⟨rfl,rfl⟩))
  (fun os started H enc _=>AP os started H enc)
end Go.Proofs.YtmhchflckonklaaGreatDoor
end
