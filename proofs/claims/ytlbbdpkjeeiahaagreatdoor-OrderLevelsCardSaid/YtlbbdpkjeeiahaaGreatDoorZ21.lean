/- Part 21 of the proof. -/
import Derived.Test.YtlbbdpkjeeiahaaGreatDoorZ20
set_option maxHeartbeats 8000000
set_option linter.unusedVariables false
section
namespace Go.Proofs.YtlbbdpkjeeiahaaGreatDoor
open Go Go.Ax Go.ChangeShapes Go.WideShapes Go.ChangeAt Go.RowKit
theorem kS {a b:Bool} (h:a = true) (k:b = true):(a && b) = true:=by rw [h,k]; rfl
theorem bP {a b:Bool} (h:(a && b) = true):a = true:=by cases a <;> first | rfl | exact h
theorem mS {a b:Bool} (h:(a && b) = true):b = true:=by cases a <;> first | exact h | cases h
theorem BE:(Rows.orderLevelsRow.wf (OpenSpec.ofChange Rows.orderLevelsSpec)) = true:=by kernel_rfl
theorem BD:(laidOutB Tryz.prog) = true:=laidOut
theorem fO:(((((((mapsRowed Tryz.prog) && (Tryz.f7.params.all (Tryz.prog.readableRec ·))) && (namedTie Tryz.prog Rows.orderLevelsRow.named Rows.orderLevelsSpec.vars)) && ((Rows.orderLevelsRow.stops == []))) && ((Tryz.prog.stops == []))) && ((Rows.orderLevelsRow.knobs == []))) && ((Tryz.prog.stopKnobs == []))) = true:=by kernel_rfl
theorem lD:(((((Rows.orderLevelsRow.inPlace == Tryz.prog.inPlace 7)) && ((Rows.orderLevelsRow.unfollowed == Tryz.prog.unfollowed 7))) && ((Rows.orderLevelsRow.recurses == Tryz.prog.recurses 7))) && ((Rows.orderLevelsRow.named == Tryz.prog.varsNamed 7))) = true:=by kernel_rfl
theorem dU:((((((((((Rows.orderLevelsRow.maps == (Tryz.f7.params.toList ++ Rows.orderLevelsSpec.plain.varTypes Tryz.prog).any (Tryz.prog.mapsRec ·))) && ((Rows.orderLevelsRow.ifaces == (Tryz.f7.params.toList ++ Rows.orderLevelsSpec.plain.varTypes Tryz.prog).any (Tryz.prog.ifacesRec ·)))) && ((Rows.orderLevelsRow.mapsOut == Tryz.prog.mapsAmong Tryz.f7.resultTypes.toList))) && ((Rows.orderLevelsRow.loops == (Tryz.f7.params.toList ++ Rows.orderLevelsSpec.plain.varTypes Tryz.prog).any (Tryz.prog.loopsFrom ·)))) && ((Rows.orderLevelsRow.wideKeys == (Tryz.f7.params.toList ++ Rows.orderLevelsSpec.plain.varTypes Tryz.prog ++ Tryz.f7.resultTypes.toList).any (Tryz.prog.wideKeysFrom ·)))) && (Rows.orderLevelsSpec.vars.all (Tryz.prog.varReadable ·))) && (Tryz.f7.resultTypes.all (fun t=>Tryz.prog.readableRec t && decide (t < Tryz.prog.types.size)))) && ((Rows.orderLevelsRow.ifacesOut == Tryz.f7.resultTypes.toList.any (Tryz.prog.ifacesRec ·)))) && ((Rows.orderLevelsRow.loopsOut == Tryz.f7.resultTypes.toList.any (Tryz.prog.loopsFrom ·)))) = true:=by kernel_rfl
theorem cW:(((((((((((Rows.orderLevelsRow.plainKeys == Tryz.prog.plainKeys)) && (Rows.orderLevelsRow.shortTexts.isNone)) && (Tryz.prog.stopsHeard)) && (Tryz.prog.mayEnter)) && ((Rows.orderLevelsRow.lifted == Tryz.prog.liftsFinal))) && ((Tryz.prog.make == some Rows.orderLevelsRow.make))) && ((Rows.orderLevelsRow.kinds == (if Rows.orderLevelsRow.domain.isEmpty then [] else Tryz.f7.params.toList.map fun t=>match Tryz.prog.underlying t with | some (.int k)=>some k | _=>none)))) && ((Rows.orderLevelsRow.pinned == Rows.orderLevelsRow.pinnedBy))) && ((Rows.orderLevelsRow.veiled == (Tryz.f7.params.toList ++ Rows.orderLevelsSpec.plain.varTypes Tryz.prog ++ Tryz.f7.resultTypes.toList).any (Tryz.prog.veiledRec ·)))) && (Rows.orderLevelsRow.veiledFits Tryz.prog Tryz.f7.params.toList (Tryz.f7.params.toList ++ Rows.orderLevelsSpec.plain.varTypes Tryz.prog ++ Tryz.f7.resultTypes.toList))) = true:=by kernel_rfl
set_option maxRecDepth 100000 in
theorem vJ:joinedFacts Tryz.prog 7 Tryz.f7 Rows.orderLevelsSpec Rows.orderLevelsRow = true:=(kS (kS (kS (kS (kS (kS (kS (kS (kS (kS (kS (kS (kS (kS (kS (kS (kS (kS (kS (kS (kS (kS (kS (kS (kS (kS (kS (kS (kS (kS (kS BE BD) (bP (bP (bP (bP (bP (bP fO))))))) (mS (bP (bP (bP (bP (bP fO))))))) (mS (bP (bP (bP (bP fO)))))) (mS (bP (bP (bP fO))))) (mS (bP (bP fO)))) (mS (bP fO))) (mS fO)) (bP (bP (bP lD)))) (mS (bP (bP lD)))) (mS (bP lD))) (mS lD)) (bP (bP (bP (bP (bP (bP (bP (bP dU))))))))) (mS (bP (bP (bP (bP (bP (bP (bP dU))))))))) (mS (bP (bP (bP (bP (bP (bP dU)))))))) (mS (bP (bP (bP (bP (bP dU))))))) (mS (bP (bP (bP (bP dU)))))) (mS (bP (bP (bP dU))))) (mS (bP (bP dU)))) (mS (bP dU))) (mS dU)) (bP (bP (bP (bP (bP (bP (bP (bP (bP cW)))))))))) (mS (bP (bP (bP (bP (bP (bP (bP (bP cW)))))))))) (mS (bP (bP (bP (bP (bP (bP (bP cW))))))))) (mS (bP (bP (bP (bP (bP (bP cW)))))))) (mS (bP (bP (bP (bP (bP cW))))))) (mS (bP (bP (bP (bP cW)))))) (mS (bP (bP (bP cW))))) (mS (bP (bP cW)))) (mS (bP cW))) (mS cW))
theorem Ay:Rows.OrderLevelsSaid:=
 OpenClaim.holds_of_wide 7 Tryz.f7 rfl rfl rfl rfl rfl rfl rfl ⟨rfl,rfl,rfl,rfl,rfl⟩ rfl rfl rfl rfl rfl (by kernel_rfl) Tryz.func7 vJ
  (of_decide_eq_true (by kernel_rfl)) (by unfold Func.isWrapper; first | (rw [if_pos (by decide +kernel)]; kernel_rfl) | (rw [if_neg (by decide +kernel)]; exact ⟨rfl,rfl⟩))
  (fun os started H enc _=>vI os started H enc)
end Go.Proofs.YtlbbdpkjeeiahaaGreatDoor
end
