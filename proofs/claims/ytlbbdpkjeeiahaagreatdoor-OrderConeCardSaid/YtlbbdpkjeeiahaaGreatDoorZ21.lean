/- Part 21 of the proof's own texts (pressed by a program of its author's). -/
import Derived.Test.YtlbbdpkjeeiahaaGreatDoorZ20
section
set_option maxHeartbeats 8000000
set_option linter.unusedVariables false
namespace Go.Proofs.YtlbbdpkjeeiahaaGreatDoor
open Go Go.Ax Go.ChangeShapes Go.WideShapes Go.ChangeAt Go.RowKit
theorem kU {a b:Bool} (h:a = true) (k:b = true):(a && b) = true:=by rw [h,k]; rfl
theorem bO {a b:Bool} (h:(a && b) = true):a = true:=by cases a <;> first | rfl | exact h
theorem mY {a b:Bool} (h:(a && b) = true):b = true:=by cases a <;> first | exact h | cases h
theorem EH:(Rows.orderConeRow.wf (OpenSpec.ofChange Rows.orderConeSpec)) = true:=by kernel_rfl
theorem EG:(laidOutB Tryz.prog) = true:=laidOut
theorem iF:(((((((mapsRowed Tryz.prog) && (Tryz.f6.params.all (Tryz.prog.readableRec ·))) && (namedTie Tryz.prog Rows.orderConeRow.named Rows.orderConeSpec.vars)) && ((Rows.orderConeRow.stops == []))) && ((Tryz.prog.stops == []))) && ((Rows.orderConeRow.knobs == []))) && ((Tryz.prog.stopKnobs == []))) = true:=by kernel_rfl
theorem nM:(((((Rows.orderConeRow.inPlace == Tryz.prog.inPlace 6)) && ((Rows.orderConeRow.unfollowed == Tryz.prog.unfollowed 6))) && ((Rows.orderConeRow.recurses == Tryz.prog.recurses 6))) && ((Rows.orderConeRow.named == Tryz.prog.varsNamed 6))) = true:=by kernel_rfl
theorem eU:((((((((((Rows.orderConeRow.maps == (Tryz.f6.params.toList ++ Rows.orderConeSpec.plain.varTypes Tryz.prog).any (Tryz.prog.mapsRec ·))) && ((Rows.orderConeRow.ifaces == (Tryz.f6.params.toList ++ Rows.orderConeSpec.plain.varTypes Tryz.prog).any (Tryz.prog.ifacesRec ·)))) && ((Rows.orderConeRow.mapsOut == Tryz.prog.mapsAmong Tryz.f6.resultTypes.toList))) && ((Rows.orderConeRow.loops == (Tryz.f6.params.toList ++ Rows.orderConeSpec.plain.varTypes Tryz.prog).any (Tryz.prog.loopsFrom ·)))) && ((Rows.orderConeRow.wideKeys == (Tryz.f6.params.toList ++ Rows.orderConeSpec.plain.varTypes Tryz.prog ++ Tryz.f6.resultTypes.toList).any (Tryz.prog.wideKeysFrom ·)))) && (Rows.orderConeSpec.vars.all (Tryz.prog.varReadable ·))) && (Tryz.f6.resultTypes.all (fun t=>Tryz.prog.readableRec t && decide (t < Tryz.prog.types.size)))) && ((Rows.orderConeRow.ifacesOut == Tryz.f6.resultTypes.toList.any (Tryz.prog.ifacesRec ·)))) && ((Rows.orderConeRow.loopsOut == Tryz.f6.resultTypes.toList.any (Tryz.prog.loopsFrom ·)))) = true:=by kernel_rfl
theorem eF:(((((((((((Rows.orderConeRow.plainKeys == Tryz.prog.plainKeys)) && (Rows.orderConeRow.shortTexts.isNone)) && (Tryz.prog.stopsHeard)) && (Tryz.prog.mayEnter)) && ((Rows.orderConeRow.lifted == Tryz.prog.liftsFinal))) && ((Tryz.prog.make == some Rows.orderConeRow.make))) && ((Rows.orderConeRow.kinds == (if Rows.orderConeRow.domain.isEmpty then [] else Tryz.f6.params.toList.map fun t=>match Tryz.prog.underlying t with | some (.int k)=>some k | _=>none)))) && ((Rows.orderConeRow.pinned == Rows.orderConeRow.pinnedBy))) && ((Rows.orderConeRow.veiled == (Tryz.f6.params.toList ++ Rows.orderConeSpec.plain.varTypes Tryz.prog ++ Tryz.f6.resultTypes.toList).any (Tryz.prog.veiledRec ·)))) && (Rows.orderConeRow.veiledFits Tryz.prog Tryz.f6.params.toList (Tryz.f6.params.toList ++ Rows.orderConeSpec.plain.varTypes Tryz.prog ++ Tryz.f6.resultTypes.toList))) = true:=by kernel_rfl
set_option maxRecDepth 100000 in
theorem yP:joinedFacts Tryz.prog 6 Tryz.f6 Rows.orderConeSpec Rows.orderConeRow = true:=(kU (kU (kU (kU (kU (kU (kU (kU (kU (kU (kU (kU (kU (kU (kU (kU (kU (kU (kU (kU (kU (kU (kU (kU (kU (kU (kU (kU (kU (kU (kU EH EG) (bO (bO (bO (bO (bO (bO iF))))))) (mY (bO (bO (bO (bO (bO iF))))))) (mY (bO (bO (bO (bO iF)))))) (mY (bO (bO (bO iF))))) (mY (bO (bO iF)))) (mY (bO iF))) (mY iF)) (bO (bO (bO nM)))) (mY (bO (bO nM)))) (mY (bO nM))) (mY nM)) (bO (bO (bO (bO (bO (bO (bO (bO eU))))))))) (mY (bO (bO (bO (bO (bO (bO (bO eU))))))))) (mY (bO (bO (bO (bO (bO (bO eU)))))))) (mY (bO (bO (bO (bO (bO eU))))))) (mY (bO (bO (bO (bO eU)))))) (mY (bO (bO (bO eU))))) (mY (bO (bO eU)))) (mY (bO eU))) (mY eU)) (bO (bO (bO (bO (bO (bO (bO (bO (bO eF)))))))))) (mY (bO (bO (bO (bO (bO (bO (bO (bO eF)))))))))) (mY (bO (bO (bO (bO (bO (bO (bO eF))))))))) (mY (bO (bO (bO (bO (bO (bO eF)))))))) (mY (bO (bO (bO (bO (bO eF))))))) (mY (bO (bO (bO (bO eF)))))) (mY (bO (bO (bO eF))))) (mY (bO (bO eF)))) (mY (bO eF))) (mY eF))
theorem C3:Rows.OrderConeSaid:=
 OpenClaim.holds_of_wide 6 Tryz.f6 rfl rfl rfl rfl rfl rfl rfl ⟨rfl,rfl,rfl,rfl,rfl⟩ rfl rfl rfl rfl rfl (by kernel_rfl) Tryz.func6 yP
  (of_decide_eq_true (by kernel_rfl)) (by unfold Func.isWrapper; first | (rw [if_pos (by decide +kernel)]; kernel_rfl) | (rw [if_neg (by decide +kernel)]; exact ⟨rfl,rfl⟩))
  (fun os started H enc _=>yO os started H enc)
end Go.Proofs.YtlbbdpkjeeiahaaGreatDoor
end
