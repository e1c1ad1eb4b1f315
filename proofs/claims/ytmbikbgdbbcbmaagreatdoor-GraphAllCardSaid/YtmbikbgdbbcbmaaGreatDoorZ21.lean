/- Part 21 of the proof. -/
import Derived.Test.YtmbikbgdbbcbmaaGreatDoorY
import Derived.Test.YtmbikbgdbbcbmaaGreatDoorZ20
set_option maxHeartbeats 8000000
set_option linter.unusedVariables false
section
namespace Go.Proofs.YtmbikbgdbbcbmaaGreatDoor
open Go Go.Ax Go.ChangeShapes Go.WideShapes Go.ChangeAt Go.RowKit
theorem lM {a b:Bool}(h:a=true) (k:b=true):(a&&b)=true:=by rw[h,k];rfl
theorem bX {a b:Bool}(h:(a&&b)=true):a=true:=by cases a <;> first | rfl | exact h
theorem nV {a b:Bool}(h:(a&&b)=true):b=true:=by cases a <;> first | exact h | cases h
theorem Iq:(Rows.graphAllRow.wf (OpenSpec.ofChange Rows.graphAllSpec))=true:=by kernel_rfl
theorem Ip:(laidOutB Tryz.prog)=true:=laidOut
theorem kE:(((((((mapsRowed Tryz.prog)&&(Tryz.f9.params.all (Tryz.prog.readableRec ·)))&&(namedTie Tryz.prog Rows.graphAllRow.named Rows.graphAllSpec.vars))&&((Rows.graphAllRow.stops==[])))&&((Tryz.prog.stops==[])))&&((Rows.graphAllRow.knobs==[])))&&((Tryz.prog.stopKnobs==[])))=true:=by kernel_rfl
theorem qJ:(((((Rows.graphAllRow.inPlace==Tryz.prog.inPlace 9))&&((Rows.graphAllRow.unfollowed==Tryz.prog.unfollowed 9)))&&((Rows.graphAllRow.recurses==Tryz.prog.recurses 9)))&&((Rows.graphAllRow.named==Tryz.prog.varsNamed 9)))=true:=by kernel_rfl
theorem gG:((((((((((Rows.graphAllRow.maps==(Tryz.f9.params.toList++Rows.graphAllSpec.plain.varTypes Tryz.prog).any (Tryz.prog.mapsRec ·)))&&((Rows.graphAllRow.ifaces==(Tryz.f9.params.toList++Rows.graphAllSpec.plain.varTypes Tryz.prog).any (Tryz.prog.ifacesRec ·))))&&((Rows.graphAllRow.mapsOut==Tryz.prog.mapsAmong Tryz.f9.resultTypes.toList)))&&((Rows.graphAllRow.loops==(Tryz.f9.params.toList++Rows.graphAllSpec.plain.varTypes Tryz.prog).any (Tryz.prog.loopsFrom ·))))&&((Rows.graphAllRow.wideKeys==(Tryz.f9.params.toList++Rows.graphAllSpec.plain.varTypes Tryz.prog++Tryz.f9.resultTypes.toList).any (Tryz.prog.wideKeysFrom ·))))&&(Rows.graphAllSpec.vars.all (Tryz.prog.varReadable ·)))&&(Tryz.f9.resultTypes.all (λt=>Tryz.prog.readableRec t&&decide (t<Tryz.prog.types.size))))&&((Rows.graphAllRow.ifacesOut==Tryz.f9.resultTypes.toList.any (Tryz.prog.ifacesRec ·))))&&((Rows.graphAllRow.loopsOut==Tryz.f9.resultTypes.toList.any (Tryz.prog.loopsFrom ·))))=true:=by kernel_rfl
theorem fQ:(((((((((((Rows.graphAllRow.plainKeys==Tryz.prog.plainKeys))&&(Rows.graphAllRow.shortTexts.isNone))&&(Tryz.prog.stopsHeard))&&(Tryz.prog.mayEnter))&&((Rows.graphAllRow.lifted==Tryz.prog.liftsFinal)))&&((Tryz.prog.make==some Rows.graphAllRow.make)))&&((Rows.graphAllRow.kinds==(if Rows.graphAllRow.domain.isEmpty then [] else Tryz.f9.params.toList.map λt=>match Tryz.prog.underlying t with | some (.int k)=>some k | _=>none))))&&((Rows.graphAllRow.pinned==Rows.graphAllRow.pinnedBy)))&&((Rows.graphAllRow.veiled==(Tryz.f9.params.toList++Rows.graphAllSpec.plain.varTypes Tryz.prog++Tryz.f9.resultTypes.toList).any (Tryz.prog.veiledRec ·))))&&(Rows.graphAllRow.veiledFits Tryz.prog Tryz.f9.params.toList (Tryz.f9.params.toList++Rows.graphAllSpec.plain.varTypes Tryz.prog++Tryz.f9.resultTypes.toList)))=true:=by kernel_rfl
set_option maxRecDepth 100000 in
theorem BK:joinedFacts Tryz.prog 9 Tryz.f9 Rows.graphAllSpec Rows.graphAllRow=true:=(lM (lM (lM (lM (lM (lM (lM (lM (lM (lM (lM (lM (lM (lM (lM (lM (lM (lM (lM (lM (lM (lM (lM (lM (lM (lM (lM (lM (lM (lM (lM Iq Ip) (bX (bX (bX (bX (bX (bX kE))))))) (nV (bX (bX (bX (bX (bX kE))))))) (nV (bX (bX (bX (bX kE)))))) (nV (bX (bX (bX kE))))) (nV (bX (bX kE)))) (nV (bX kE))) (nV kE)) (bX (bX (bX qJ)))) (nV (bX (bX qJ)))) (nV (bX qJ))) (nV qJ)) (bX (bX (bX (bX (bX (bX (bX (bX gG))))))))) (nV (bX (bX (bX (bX (bX (bX (bX gG))))))))) (nV (bX (bX (bX (bX (bX (bX gG)))))))) (nV (bX (bX (bX (bX (bX gG))))))) (nV (bX (bX (bX (bX gG)))))) (nV (bX (bX (bX gG))))) (nV (bX (bX gG)))) (nV (bX gG))) (nV gG)) (bX (bX (bX (bX (bX (bX (bX (bX (bX fQ)))))))))) (nV (bX (bX (bX (bX (bX (bX (bX (bX fQ)))))))))) (nV (bX (bX (bX (bX (bX (bX (bX fQ))))))))) (nV (bX (bX (bX (bX (bX (bX fQ)))))))) (nV (bX (bX (bX (bX (bX fQ))))))) (nV (bX (bX (bX (bX fQ)))))) (nV (bX (bX (bX fQ))))) (nV (bX (bX fQ)))) (nV (bX fQ))) (nV fQ))
theorem GC:Rows.GraphAllSaid:=
 OpenClaim.holds_of_wide 9 Tryz.f9 rfl rfl rfl rfl rfl rfl rfl ⟨rfl,rfl,rfl,rfl,rfl⟩ rfl rfl rfl rfl rfl (by kernel_rfl) Tryz.func9 BK
  (dx (by kernel_rfl)) (by unfold Func.isWrapper;first | (rw[b8 (by decide +kernel)];kernel_rfl) | (rw[ay (by decide +kernel)];exact⟨rfl,rfl⟩))
  (λos started H enc _=>BJ os started H enc)
end Go.Proofs.YtmbikbgdbbcbmaaGreatDoor
end
