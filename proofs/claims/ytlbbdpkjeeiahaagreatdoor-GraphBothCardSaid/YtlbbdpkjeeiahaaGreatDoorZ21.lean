/- Part 21 of the proof's own texts (pressed by a program of its author's). -/
import Derived.Test.YtlbbdpkjeeiahaaGreatDoorZ20
section
set_option maxHeartbeats 8000000
set_option linter.unusedVariables false
namespace Go.Proofs.YtlbbdpkjeeiahaaGreatDoor
open Go Go.Ax Go.ChangeShapes Go.WideShapes Go.ChangeAt Go.RowKit
theorem kR {a b:Bool} (h:a = true) (k:b = true):(a && b) = true:=by rw [h,k]; rfl
theorem bP {a b:Bool} (h:(a && b) = true):a = true:=by cases a <;> first | rfl | exact h
theorem mV {a b:Bool} (h:(a && b) = true):b = true:=by cases a <;> first | exact h | cases h
theorem EY:(Rows.graphBothRow.wf (OpenSpec.ofChange Rows.graphBothSpec)) = true:=by kernel_rfl
theorem EX:(laidOutB Tryz.prog) = true:=laidOut
theorem iI:(((((((mapsRowed Tryz.prog) && (Tryz.f9.params.all (Tryz.prog.readableRec ·))) && (namedTie Tryz.prog Rows.graphBothRow.named Rows.graphBothSpec.vars)) && ((Rows.graphBothRow.stops == []))) && ((Tryz.prog.stops == []))) && ((Rows.graphBothRow.knobs == []))) && ((Tryz.prog.stopKnobs == []))) = true:=by kernel_rfl
theorem nK:(((((Rows.graphBothRow.inPlace == Tryz.prog.inPlace 9)) && ((Rows.graphBothRow.unfollowed == Tryz.prog.unfollowed 9))) && ((Rows.graphBothRow.recurses == Tryz.prog.recurses 9))) && ((Rows.graphBothRow.named == Tryz.prog.varsNamed 9))) = true:=by kernel_rfl
theorem eV:((((((((((Rows.graphBothRow.maps == (Tryz.f9.params.toList ++ Rows.graphBothSpec.plain.varTypes Tryz.prog).any (Tryz.prog.mapsRec ·))) && ((Rows.graphBothRow.ifaces == (Tryz.f9.params.toList ++ Rows.graphBothSpec.plain.varTypes Tryz.prog).any (Tryz.prog.ifacesRec ·)))) && ((Rows.graphBothRow.mapsOut == Tryz.prog.mapsAmong Tryz.f9.resultTypes.toList))) && ((Rows.graphBothRow.loops == (Tryz.f9.params.toList ++ Rows.graphBothSpec.plain.varTypes Tryz.prog).any (Tryz.prog.loopsFrom ·)))) && ((Rows.graphBothRow.wideKeys == (Tryz.f9.params.toList ++ Rows.graphBothSpec.plain.varTypes Tryz.prog ++ Tryz.f9.resultTypes.toList).any (Tryz.prog.wideKeysFrom ·)))) && (Rows.graphBothSpec.vars.all (Tryz.prog.varReadable ·))) && (Tryz.f9.resultTypes.all (fun t=>Tryz.prog.readableRec t && decide (t < Tryz.prog.types.size)))) && ((Rows.graphBothRow.ifacesOut == Tryz.f9.resultTypes.toList.any (Tryz.prog.ifacesRec ·)))) && ((Rows.graphBothRow.loopsOut == Tryz.f9.resultTypes.toList.any (Tryz.prog.loopsFrom ·)))) = true:=by kernel_rfl
theorem eG:(((((((((((Rows.graphBothRow.plainKeys == Tryz.prog.plainKeys)) && (Rows.graphBothRow.shortTexts.isNone)) && (Tryz.prog.stopsHeard)) && (Tryz.prog.mayEnter)) && ((Rows.graphBothRow.lifted == Tryz.prog.liftsFinal))) && ((Tryz.prog.make == some Rows.graphBothRow.make))) && ((Rows.graphBothRow.kinds == (if Rows.graphBothRow.domain.isEmpty then [] else Tryz.f9.params.toList.map fun t=>match Tryz.prog.underlying t with | some (.int k)=>some k | _=>none)))) && ((Rows.graphBothRow.pinned == Rows.graphBothRow.pinnedBy))) && ((Rows.graphBothRow.veiled == (Tryz.f9.params.toList ++ Rows.graphBothSpec.plain.varTypes Tryz.prog ++ Tryz.f9.resultTypes.toList).any (Tryz.prog.veiledRec ·)))) && (Rows.graphBothRow.veiledFits Tryz.prog Tryz.f9.params.toList (Tryz.f9.params.toList ++ Rows.graphBothSpec.plain.varTypes Tryz.prog ++ Tryz.f9.resultTypes.toList))) = true:=by kernel_rfl
set_option maxRecDepth 100000 in
theorem zD:joinedFacts Tryz.prog 9 Tryz.f9 Rows.graphBothSpec Rows.graphBothRow = true:=(kR (kR (kR (kR (kR (kR (kR (kR (kR (kR (kR (kR (kR (kR (kR (kR (kR (kR (kR (kR (kR (kR (kR (kR (kR (kR (kR (kR (kR (kR (kR EY EX) (bP (bP (bP (bP (bP (bP iI))))))) (mV (bP (bP (bP (bP (bP iI))))))) (mV (bP (bP (bP (bP iI)))))) (mV (bP (bP (bP iI))))) (mV (bP (bP iI)))) (mV (bP iI))) (mV iI)) (bP (bP (bP nK)))) (mV (bP (bP nK)))) (mV (bP nK))) (mV nK)) (bP (bP (bP (bP (bP (bP (bP (bP eV))))))))) (mV (bP (bP (bP (bP (bP (bP (bP eV))))))))) (mV (bP (bP (bP (bP (bP (bP eV)))))))) (mV (bP (bP (bP (bP (bP eV))))))) (mV (bP (bP (bP (bP eV)))))) (mV (bP (bP (bP eV))))) (mV (bP (bP eV)))) (mV (bP eV))) (mV eV)) (bP (bP (bP (bP (bP (bP (bP (bP (bP eG)))))))))) (mV (bP (bP (bP (bP (bP (bP (bP (bP eG)))))))))) (mV (bP (bP (bP (bP (bP (bP (bP eG))))))))) (mV (bP (bP (bP (bP (bP (bP eG)))))))) (mV (bP (bP (bP (bP (bP eG))))))) (mV (bP (bP (bP (bP eG)))))) (mV (bP (bP (bP eG))))) (mV (bP (bP eG)))) (mV (bP eG))) (mV eG))
theorem C7:Rows.GraphBothSaid:=
 OpenClaim.holds_of_wide 9 Tryz.f9 rfl rfl rfl rfl rfl rfl rfl ⟨rfl,rfl,rfl,rfl,rfl⟩ rfl rfl rfl rfl rfl (by kernel_rfl) Tryz.func9 zD
  (of_decide_eq_true (by kernel_rfl)) (by unfold Func.isWrapper; first | (rw [if_pos (by decide +kernel)]; kernel_rfl) | (rw [if_neg (by decide +kernel)]; exact ⟨rfl,rfl⟩))
  (fun os started H enc _=>zC os started H enc)
end Go.Proofs.YtlbbdpkjeeiahaaGreatDoor
end
