/- Part 21 of the proof. -/
import Derived.Test.YtlbbdpkjeeiahaaGreatDoorZ20
set_option maxHeartbeats 8000000
set_option linter.unusedVariables false
section
namespace Go.Proofs.YtlbbdpkjeeiahaaGreatDoor
open Go Go.Ax Go.ChangeShapes Go.WideShapes Go.ChangeAt Go.RowKit
theorem kX {a b:Bool} (h:a = true) (k:b = true):(a && b) = true:=by rw [h,k]; rfl
theorem bS {a b:Bool} (h:(a && b) = true):a = true:=by cases a <;> first | rfl | exact h
theorem nC {a b:Bool} (h:(a && b) = true):b = true:=by cases a <;> first | exact h | cases h
theorem Gu:(Rows.orderFarRow.wf (OpenSpec.ofChange Rows.orderFarSpec)) = true:=by kernel_rfl
theorem Gt:(laidOutB Tryz.prog) = true:=laidOut
theorem jE:(((((((mapsRowed Tryz.prog) && (Tryz.f4.params.all (Tryz.prog.readableRec ·))) && (namedTie Tryz.prog Rows.orderFarRow.named Rows.orderFarSpec.vars)) && ((Rows.orderFarRow.stops == []))) && ((Tryz.prog.stops == []))) && ((Rows.orderFarRow.knobs == []))) && ((Tryz.prog.stopKnobs == []))) = true:=by kernel_rfl
theorem pF:(((((Rows.orderFarRow.inPlace == Tryz.prog.inPlace 4)) && ((Rows.orderFarRow.unfollowed == Tryz.prog.unfollowed 4))) && ((Rows.orderFarRow.recurses == Tryz.prog.recurses 4))) && ((Rows.orderFarRow.named == Tryz.prog.varsNamed 4))) = true:=by kernel_rfl
theorem fH:((((((((((Rows.orderFarRow.maps == (Tryz.f4.params.toList ++ Rows.orderFarSpec.plain.varTypes Tryz.prog).any (Tryz.prog.mapsRec ·))) && ((Rows.orderFarRow.ifaces == (Tryz.f4.params.toList ++ Rows.orderFarSpec.plain.varTypes Tryz.prog).any (Tryz.prog.ifacesRec ·)))) && ((Rows.orderFarRow.mapsOut == Tryz.prog.mapsAmong Tryz.f4.resultTypes.toList))) && ((Rows.orderFarRow.loops == (Tryz.f4.params.toList ++ Rows.orderFarSpec.plain.varTypes Tryz.prog).any (Tryz.prog.loopsFrom ·)))) && ((Rows.orderFarRow.wideKeys == (Tryz.f4.params.toList ++ Rows.orderFarSpec.plain.varTypes Tryz.prog ++ Tryz.f4.resultTypes.toList).any (Tryz.prog.wideKeysFrom ·)))) && (Rows.orderFarSpec.vars.all (Tryz.prog.varReadable ·))) && (Tryz.f4.resultTypes.all (fun t=>Tryz.prog.readableRec t && decide (t < Tryz.prog.types.size)))) && ((Rows.orderFarRow.ifacesOut == Tryz.f4.resultTypes.toList.any (Tryz.prog.ifacesRec ·)))) && ((Rows.orderFarRow.loopsOut == Tryz.f4.resultTypes.toList.any (Tryz.prog.loopsFrom ·)))) = true:=by kernel_rfl
theorem eW:(((((((((((Rows.orderFarRow.plainKeys == Tryz.prog.plainKeys)) && (Rows.orderFarRow.shortTexts.isNone)) && (Tryz.prog.stopsHeard)) && (Tryz.prog.mayEnter)) && ((Rows.orderFarRow.lifted == Tryz.prog.liftsFinal))) && ((Tryz.prog.make == some Rows.orderFarRow.make))) && ((Rows.orderFarRow.kinds == (if Rows.orderFarRow.domain.isEmpty then [] else Tryz.f4.params.toList.map fun t=>match Tryz.prog.underlying t with | some (.int k)=>some k | _=>none)))) && ((Rows.orderFarRow.pinned == Rows.orderFarRow.pinnedBy))) && ((Rows.orderFarRow.veiled == (Tryz.f4.params.toList ++ Rows.orderFarSpec.plain.varTypes Tryz.prog ++ Tryz.f4.resultTypes.toList).any (Tryz.prog.veiledRec ·)))) && (Rows.orderFarRow.veiledFits Tryz.prog Tryz.f4.params.toList (Tryz.f4.params.toList ++ Rows.orderFarSpec.plain.varTypes Tryz.prog ++ Tryz.f4.resultTypes.toList))) = true:=by kernel_rfl
set_option maxRecDepth 100000 in
theorem A6:joinedFacts Tryz.prog 4 Tryz.f4 Rows.orderFarSpec Rows.orderFarRow = true:=(kX (kX (kX (kX (kX (kX (kX (kX (kX (kX (kX (kX (kX (kX (kX (kX (kX (kX (kX (kX (kX (kX (kX (kX (kX (kX (kX (kX (kX (kX (kX Gu Gt) (bS (bS (bS (bS (bS (bS jE))))))) (nC (bS (bS (bS (bS (bS jE))))))) (nC (bS (bS (bS (bS jE)))))) (nC (bS (bS (bS jE))))) (nC (bS (bS jE)))) (nC (bS jE))) (nC jE)) (bS (bS (bS pF)))) (nC (bS (bS pF)))) (nC (bS pF))) (nC pF)) (bS (bS (bS (bS (bS (bS (bS (bS fH))))))))) (nC (bS (bS (bS (bS (bS (bS (bS fH))))))))) (nC (bS (bS (bS (bS (bS (bS fH)))))))) (nC (bS (bS (bS (bS (bS fH))))))) (nC (bS (bS (bS (bS fH)))))) (nC (bS (bS (bS fH))))) (nC (bS (bS fH)))) (nC (bS fH))) (nC fH)) (bS (bS (bS (bS (bS (bS (bS (bS (bS eW)))))))))) (nC (bS (bS (bS (bS (bS (bS (bS (bS eW)))))))))) (nC (bS (bS (bS (bS (bS (bS (bS eW))))))))) (nC (bS (bS (bS (bS (bS (bS eW)))))))) (nC (bS (bS (bS (bS (bS eW))))))) (nC (bS (bS (bS (bS eW)))))) (nC (bS (bS (bS eW))))) (nC (bS (bS eW)))) (nC (bS eW))) (nC eW))
theorem E6:Rows.OrderFarSaid:=
 OpenClaim.holds_of_wide 4 Tryz.f4 rfl rfl rfl rfl rfl rfl rfl ⟨rfl,rfl,rfl,rfl,rfl⟩ rfl rfl rfl rfl rfl (by kernel_rfl) Tryz.func4 A6
  (of_decide_eq_true (by kernel_rfl)) (by unfold Func.isWrapper; first | (rw [if_pos (by decide +kernel)]; kernel_rfl) | (rw [if_neg (by decide +kernel)]; exact ⟨rfl,rfl⟩))
  (fun os started H enc _=>A1 os started H enc)
end Go.Proofs.YtlbbdpkjeeiahaaGreatDoor
end
