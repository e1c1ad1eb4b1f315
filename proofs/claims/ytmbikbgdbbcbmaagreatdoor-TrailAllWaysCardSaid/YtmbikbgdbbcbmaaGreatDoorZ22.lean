/- Part 22 of the proof. -/
import Derived.Test.YtmbikbgdbbcbmaaGreatDoorY
import Derived.Test.YtmbikbgdbbcbmaaGreatDoorZ21
set_option maxHeartbeats 8000000
set_option linter.unusedVariables false
open Go.Proofs.Tryz renaming prog→κ,f7→dg
section
namespace Go.Proofs.YtmbikbgdbbcbmaaGreatDoor
open Go Go.Ax Go.ChangeShapes Go.WideShapes Go.ChangeAt Go.RowKit
theorem mB{a b:Bool}(h:a=true)(k:b=true):(a&&b)=true:=by rw[h,k];rfl
theorem bY{a b:Bool}(h:(a&&b)=true):a=true:=by cases a <;> first | rfl | exact h
theorem oL{a b:Bool}(h:(a&&b)=true):b=true:=by cases a <;> first | exact h | cases h
theorem B8:(Rows.trailAllWaysRow.wf (OpenSpec.ofChange Rows.trailAllWaysSpec))=true:=by kernel_rfl
theorem B7:(laidOutB κ)=true:=laidOut
theorem fS:(((((((mapsRowed κ)&&(Tryz.f7.params.all (Tryz.prog.readableRec ·)))&&(namedTie κ Rows.trailAllWaysRow.named Rows.trailAllWaysSpec.vars))&&((Rows.trailAllWaysRow.stops==[])))&&((Tryz.prog.stops==[])))&&((Rows.trailAllWaysRow.knobs==[])))&&((Tryz.prog.stopKnobs==[])))=true:=by kernel_rfl
theorem lO:(((((Rows.trailAllWaysRow.inPlace==Tryz.prog.inPlace 7))&&((Rows.trailAllWaysRow.unfollowed==Tryz.prog.unfollowed 7)))&&((Rows.trailAllWaysRow.recurses==Tryz.prog.recurses 7)))&&((Rows.trailAllWaysRow.named==Tryz.prog.varsNamed 7)))=true:=by kernel_rfl
theorem dQ:((((((((((Rows.trailAllWaysRow.maps==(Tryz.f7.params.toList++Rows.trailAllWaysSpec.plain.varTypes κ).any (Tryz.prog.mapsRec ·)))&&((Rows.trailAllWaysRow.ifaces==(Tryz.f7.params.toList++Rows.trailAllWaysSpec.plain.varTypes κ).any (Tryz.prog.ifacesRec ·))))&&((Rows.trailAllWaysRow.mapsOut==Tryz.prog.mapsAmong Tryz.f7.resultTypes.toList)))&&((Rows.trailAllWaysRow.loops==(Tryz.f7.params.toList++Rows.trailAllWaysSpec.plain.varTypes κ).any (Tryz.prog.loopsFrom ·))))&&((Rows.trailAllWaysRow.wideKeys==(Tryz.f7.params.toList++Rows.trailAllWaysSpec.plain.varTypes κ++Tryz.f7.resultTypes.toList).any (Tryz.prog.wideKeysFrom ·))))&&(Rows.trailAllWaysSpec.vars.all (Tryz.prog.varReadable ·)))&&(Tryz.f7.resultTypes.all (λt=>Tryz.prog.readableRec t&&decide (t<Tryz.prog.types.size))))&&((Rows.trailAllWaysRow.ifacesOut==Tryz.f7.resultTypes.toList.any (Tryz.prog.ifacesRec ·))))&&((Rows.trailAllWaysRow.loopsOut==Tryz.f7.resultTypes.toList.any (Tryz.prog.loopsFrom ·))))=true:=by kernel_rfl
theorem dD:(((((((((((Rows.trailAllWaysRow.plainKeys==Tryz.prog.plainKeys))&&(Rows.trailAllWaysRow.shortTexts.isNone))&&(Tryz.prog.stopsHeard))&&(Tryz.prog.mayEnter))&&((Rows.trailAllWaysRow.lifted==Tryz.prog.liftsFinal)))&&((Tryz.prog.make==some Rows.trailAllWaysRow.make)))&&((Rows.trailAllWaysRow.kinds==(if Rows.trailAllWaysRow.domain.isEmpty then [] else Tryz.f7.params.toList.map λt=>match Tryz.prog.underlying t with | some (.int k)=>some k | _=>none))))&&((Rows.trailAllWaysRow.pinned==Rows.trailAllWaysRow.pinnedBy)))&&((Rows.trailAllWaysRow.veiled==(Tryz.f7.params.toList++Rows.trailAllWaysSpec.plain.varTypes κ++Tryz.f7.resultTypes.toList).any (Tryz.prog.veiledRec ·))))&&(Rows.trailAllWaysRow.veiledFits κ Tryz.f7.params.toList (Tryz.f7.params.toList++Rows.trailAllWaysSpec.plain.varTypes κ++Tryz.f7.resultTypes.toList)))=true:=by kernel_rfl
set_option maxRecDepth 100000 in
theorem w_:joinedFacts κ 7 dg Rows.trailAllWaysSpec Rows.trailAllWaysRow=true:=(mB (mB (mB (mB (mB (mB (mB (mB (mB (mB (mB (mB (mB (mB (mB (mB (mB (mB (mB (mB (mB (mB (mB (mB (mB (mB (mB (mB (mB (mB (mB B8 B7) (bY (bY (bY (bY (bY (bY fS))))))) (oL (bY (bY (bY (bY (bY fS))))))) (oL (bY (bY (bY (bY fS)))))) (oL (bY (bY (bY fS))))) (oL (bY (bY fS)))) (oL (bY fS))) (oL fS)) (bY (bY (bY lO)))) (oL (bY (bY lO)))) (oL (bY lO))) (oL lO)) (bY (bY (bY (bY (bY (bY (bY (bY dQ))))))))) (oL (bY (bY (bY (bY (bY (bY (bY dQ))))))))) (oL (bY (bY (bY (bY (bY (bY dQ)))))))) (oL (bY (bY (bY (bY (bY dQ))))))) (oL (bY (bY (bY (bY dQ)))))) (oL (bY (bY (bY dQ))))) (oL (bY (bY dQ)))) (oL (bY dQ))) (oL dQ)) (bY (bY (bY (bY (bY (bY (bY (bY (bY dD)))))))))) (oL (bY (bY (bY (bY (bY (bY (bY (bY dD)))))))))) (oL (bY (bY (bY (bY (bY (bY (bY dD))))))))) (oL (bY (bY (bY (bY (bY (bY dD)))))))) (oL (bY (bY (bY (bY (bY dD))))))) (oL (bY (bY (bY (bY dD)))))) (oL (bY (bY (bY dD))))) (oL (bY (bY dD)))) (oL (bY dD))) (oL dD))
theorem AA:Rows.TrailAllWaysSaid:=
 OpenClaim.holds_of_wide 7 dg rfl rfl rfl rfl rfl rfl rfl ⟨rfl,rfl,rfl,rfl,rfl⟩ rfl rfl rfl rfl rfl (by kernel_rfl) Tryz.func7 w_
  (er (by kernel_rfl)) (by unfold Func.isWrapper;first | (rw[az (by decide +kernel)];kernel_rfl) | (rw[an (by decide +kernel)];exact⟨rfl,rfl⟩))
  (λos started H enc _=>wZ os started H enc)
end Go.Proofs.YtmbikbgdbbcbmaaGreatDoor
end
