/- Part 21 of the proof. -/
import Derived.Test.YtlbbdpkjeeiahaaGreatDoorZ20
set_option maxHeartbeats 8000000
set_option linter.unusedVariables false
section
namespace Go.Proofs.YtlbbdpkjeeiahaaGreatDoor
open Go Go.Ax Go.ChangeShapes Go.WideShapes Go.ChangeAt Go.RowKit
theorem kW {a b:Bool} (h:a = true) (k:b = true):(a && b) = true:=by rw [h,k]; rfl
theorem bP {a b:Bool} (h:(a && b) = true):a = true:=by cases a <;> first | rfl | exact h
theorem mW {a b:Bool} (h:(a && b) = true):b = true:=by cases a <;> first | exact h | cases h
theorem EH:(Rows.orderBackRow.wf (OpenSpec.ofChange Rows.orderBackSpec)) = true:=by kernel_rfl
theorem EG:(laidOutB Tryz.prog) = true:=laidOut
theorem iI:(((((((mapsRowed Tryz.prog) && (Tryz.f5.params.all (Tryz.prog.readableRec ·))) && (namedTie Tryz.prog Rows.orderBackRow.named Rows.orderBackSpec.vars)) && ((Rows.orderBackRow.stops == []))) && ((Tryz.prog.stops == []))) && ((Rows.orderBackRow.knobs == []))) && ((Tryz.prog.stopKnobs == []))) = true:=by kernel_rfl
theorem nL:(((((Rows.orderBackRow.inPlace == Tryz.prog.inPlace 5)) && ((Rows.orderBackRow.unfollowed == Tryz.prog.unfollowed 5))) && ((Rows.orderBackRow.recurses == Tryz.prog.recurses 5))) && ((Rows.orderBackRow.named == Tryz.prog.varsNamed 5))) = true:=by kernel_rfl
theorem eV:((((((((((Rows.orderBackRow.maps == (Tryz.f5.params.toList ++ Rows.orderBackSpec.plain.varTypes Tryz.prog).any (Tryz.prog.mapsRec ·))) && ((Rows.orderBackRow.ifaces == (Tryz.f5.params.toList ++ Rows.orderBackSpec.plain.varTypes Tryz.prog).any (Tryz.prog.ifacesRec ·)))) && ((Rows.orderBackRow.mapsOut == Tryz.prog.mapsAmong Tryz.f5.resultTypes.toList))) && ((Rows.orderBackRow.loops == (Tryz.f5.params.toList ++ Rows.orderBackSpec.plain.varTypes Tryz.prog).any (Tryz.prog.loopsFrom ·)))) && ((Rows.orderBackRow.wideKeys == (Tryz.f5.params.toList ++ Rows.orderBackSpec.plain.varTypes Tryz.prog ++ Tryz.f5.resultTypes.toList).any (Tryz.prog.wideKeysFrom ·)))) && (Rows.orderBackSpec.vars.all (Tryz.prog.varReadable ·))) && (Tryz.f5.resultTypes.all (fun t=>Tryz.prog.readableRec t && decide (t < Tryz.prog.types.size)))) && ((Rows.orderBackRow.ifacesOut == Tryz.f5.resultTypes.toList.any (Tryz.prog.ifacesRec ·)))) && ((Rows.orderBackRow.loopsOut == Tryz.f5.resultTypes.toList.any (Tryz.prog.loopsFrom ·)))) = true:=by kernel_rfl
theorem eF:(((((((((((Rows.orderBackRow.plainKeys == Tryz.prog.plainKeys)) && (Rows.orderBackRow.shortTexts.isNone)) && (Tryz.prog.stopsHeard)) && (Tryz.prog.mayEnter)) && ((Rows.orderBackRow.lifted == Tryz.prog.liftsFinal))) && ((Tryz.prog.make == some Rows.orderBackRow.make))) && ((Rows.orderBackRow.kinds == (if Rows.orderBackRow.domain.isEmpty then [] else Tryz.f5.params.toList.map fun t=>match Tryz.prog.underlying t with | some (.int k)=>some k | _=>none)))) && ((Rows.orderBackRow.pinned == Rows.orderBackRow.pinnedBy))) && ((Rows.orderBackRow.veiled == (Tryz.f5.params.toList ++ Rows.orderBackSpec.plain.varTypes Tryz.prog ++ Tryz.f5.resultTypes.toList).any (Tryz.prog.veiledRec ·)))) && (Rows.orderBackRow.veiledFits Tryz.prog Tryz.f5.params.toList (Tryz.f5.params.toList ++ Rows.orderBackSpec.plain.varTypes Tryz.prog ++ Tryz.f5.resultTypes.toList))) = true:=by kernel_rfl
set_option maxRecDepth 100000 in
theorem yU:joinedFacts Tryz.prog 5 Tryz.f5 Rows.orderBackSpec Rows.orderBackRow = true:=(kW (kW (kW (kW (kW (kW (kW (kW (kW (kW (kW (kW (kW (kW (kW (kW (kW (kW (kW (kW (kW (kW (kW (kW (kW (kW (kW (kW (kW (kW (kW EH EG) (bP (bP (bP (bP (bP (bP iI))))))) (mW (bP (bP (bP (bP (bP iI))))))) (mW (bP (bP (bP (bP iI)))))) (mW (bP (bP (bP iI))))) (mW (bP (bP iI)))) (mW (bP iI))) (mW iI)) (bP (bP (bP nL)))) (mW (bP (bP nL)))) (mW (bP nL))) (mW nL)) (bP (bP (bP (bP (bP (bP (bP (bP eV))))))))) (mW (bP (bP (bP (bP (bP (bP (bP eV))))))))) (mW (bP (bP (bP (bP (bP (bP eV)))))))) (mW (bP (bP (bP (bP (bP eV))))))) (mW (bP (bP (bP (bP eV)))))) (mW (bP (bP (bP eV))))) (mW (bP (bP eV)))) (mW (bP eV))) (mW eV)) (bP (bP (bP (bP (bP (bP (bP (bP (bP eF)))))))))) (mW (bP (bP (bP (bP (bP (bP (bP (bP eF)))))))))) (mW (bP (bP (bP (bP (bP (bP (bP eF))))))))) (mW (bP (bP (bP (bP (bP (bP eF)))))))) (mW (bP (bP (bP (bP (bP eF))))))) (mW (bP (bP (bP (bP eF)))))) (mW (bP (bP (bP eF))))) (mW (bP (bP eF)))) (mW (bP eF))) (mW eF))
theorem CX:Rows.OrderBackSaid:=
 OpenClaim.holds_of_wide 5 Tryz.f5 rfl rfl rfl rfl rfl rfl rfl ⟨rfl,rfl,rfl,rfl,rfl⟩ rfl rfl rfl rfl rfl (by kernel_rfl) Tryz.func5 yU
  (of_decide_eq_true (by kernel_rfl)) (by unfold Func.isWrapper; first | (rw [if_pos (by decide +kernel)]; kernel_rfl) | (rw [if_neg (by decide +kernel)]; exact ⟨rfl,rfl⟩))
  (fun os started H enc _=>yT os started H enc)
end Go.Proofs.YtlbbdpkjeeiahaaGreatDoor
end
