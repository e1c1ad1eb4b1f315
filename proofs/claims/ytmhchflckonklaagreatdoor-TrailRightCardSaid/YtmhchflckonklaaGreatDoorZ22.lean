/- Part 22 of the proof. -/
import Derived.Test.YtmhchflckonklaaGreatDoorY
import Derived.Test.YtmhchflckonklaaGreatDoorZ21
set_option maxHeartbeats 8000000
set_option linter.unusedVariables false
section
namespace Go.Proofs.YtmhchflckonklaaGreatDoor
open Go Go.Ax Go.ChangeShapes Go.WideShapes Go.ChangeAt Go.RowKit
theorem lP {a b:Bool}(h:a=true) (k:b=true):(a&&b)=true:=by rw[h,k];rfl
theorem bX {a b:Bool}(h:(a&&b)=true):a=true:=by cases a <;> first | rfl | exact h
theorem nX {a b:Bool}(h:(a&&b)=true):b=true:=by cases a <;> first | exact h | cases h
theorem DW:(Rows.trailRightRow.wf (OpenSpec.ofChange Rows.trailRightSpec))=true:=by kernel_rfl
theorem DV:(laidOutB Tryz.prog)=true:=laidOut
theorem iG:(((((((mapsRowed Tryz.prog)&&(Tryz.f7.params.all (Tryz.prog.readableRec ·)))&&(namedTie Tryz.prog Rows.trailRightRow.named Rows.trailRightSpec.vars))&&((Rows.trailRightRow.stops==[])))&&((Tryz.prog.stops==[])))&&((Rows.trailRightRow.knobs==[])))&&((Tryz.prog.stopKnobs==[])))=true:=by kernel_rfl
theorem nF:(((((Rows.trailRightRow.inPlace==Tryz.prog.inPlace 7))&&((Rows.trailRightRow.unfollowed==Tryz.prog.unfollowed 7)))&&((Rows.trailRightRow.recurses==Tryz.prog.recurses 7)))&&((Rows.trailRightRow.named==Tryz.prog.varsNamed 7)))=true:=by kernel_rfl
theorem eZ:((((((((((Rows.trailRightRow.maps==(Tryz.f7.params.toList++Rows.trailRightSpec.plain.varTypes Tryz.prog).any (Tryz.prog.mapsRec ·)))&&((Rows.trailRightRow.ifaces==(Tryz.f7.params.toList++Rows.trailRightSpec.plain.varTypes Tryz.prog).any (Tryz.prog.ifacesRec ·))))&&((Rows.trailRightRow.mapsOut==Tryz.prog.mapsAmong Tryz.f7.resultTypes.toList)))&&((Rows.trailRightRow.loops==(Tryz.f7.params.toList++Rows.trailRightSpec.plain.varTypes Tryz.prog).any (Tryz.prog.loopsFrom ·))))&&((Rows.trailRightRow.wideKeys==(Tryz.f7.params.toList++Rows.trailRightSpec.plain.varTypes Tryz.prog++Tryz.f7.resultTypes.toList).any (Tryz.prog.wideKeysFrom ·))))&&(Rows.trailRightSpec.vars.all (Tryz.prog.varReadable ·)))&&(Tryz.f7.resultTypes.all (λt=>Tryz.prog.readableRec t&&decide (t<Tryz.prog.types.size))))&&((Rows.trailRightRow.ifacesOut==Tryz.f7.resultTypes.toList.any (Tryz.prog.ifacesRec ·))))&&((Rows.trailRightRow.loopsOut==Tryz.f7.resultTypes.toList.any (Tryz.prog.loopsFrom ·))))=true:=by kernel_rfl
theorem eD:(((((((((((Rows.trailRightRow.plainKeys==Tryz.prog.plainKeys))&&(Rows.trailRightRow.shortTexts.isNone))&&(Tryz.prog.stopsHeard))&&(Tryz.prog.mayEnter))&&((Rows.trailRightRow.lifted==Tryz.prog.liftsFinal)))&&((Tryz.prog.make==some Rows.trailRightRow.make)))&&((Rows.trailRightRow.kinds==(if Rows.trailRightRow.domain.isEmpty then [] else Tryz.f7.params.toList.map λt=>match Tryz.prog.underlying t with | some (.int k)=>some k | _=>none))))&&((Rows.trailRightRow.pinned==Rows.trailRightRow.pinnedBy)))&&((Rows.trailRightRow.veiled==(Tryz.f7.params.toList++Rows.trailRightSpec.plain.varTypes Tryz.prog++Tryz.f7.resultTypes.toList).any (Tryz.prog.veiledRec ·))))&&(Rows.trailRightRow.veiledFits Tryz.prog Tryz.f7.params.toList (Tryz.f7.params.toList++Rows.trailRightSpec.plain.varTypes Tryz.prog++Tryz.f7.resultTypes.toList)))=true:=by kernel_rfl
set_option maxRecDepth 100000 in
theorem xS:joinedFacts Tryz.prog 7 Tryz.f7 Rows.trailRightSpec Rows.trailRightRow=true:=(lP (lP (lP (lP (lP (lP (lP (lP (lP (lP (lP (lP (lP (lP (lP (lP (lP (lP (lP (lP (lP (lP (lP (lP (lP (lP (lP (lP (lP (lP (lP DW DV) (bX (bX (bX (bX (bX (bX iG))))))) (nX (bX (bX (bX (bX (bX iG))))))) (nX (bX (bX (bX (bX iG)))))) (nX (bX (bX (bX iG))))) (nX (bX (bX iG)))) (nX (bX iG))) (nX iG)) (bX (bX (bX nF)))) (nX (bX (bX nF)))) (nX (bX nF))) (nX nF)) (bX (bX (bX (bX (bX (bX (bX (bX eZ))))))))) (nX (bX (bX (bX (bX (bX (bX (bX eZ))))))))) (nX (bX (bX (bX (bX (bX (bX eZ)))))))) (nX (bX (bX (bX (bX (bX eZ))))))) (nX (bX (bX (bX (bX eZ)))))) (nX (bX (bX (bX eZ))))) (nX (bX (bX eZ)))) (nX (bX eZ))) (nX eZ)) (bX (bX (bX (bX (bX (bX (bX (bX (bX eD)))))))))) (nX (bX (bX (bX (bX (bX (bX (bX (bX eD)))))))))) (nX (bX (bX (bX (bX (bX (bX (bX eD))))))))) (nX (bX (bX (bX (bX (bX (bX eD)))))))) (nX (bX (bX (bX (bX (bX eD))))))) (nX (bX (bX (bX (bX eD)))))) (nX (bX (bX (bX eD))))) (nX (bX (bX eD)))) (nX (bX eD))) (nX eD))
theorem Cg:Rows.TrailRightSaid:=
 OpenClaim.holds_of_wide 7 Tryz.f7 rfl rfl rfl rfl rfl rfl rfl ⟨rfl,rfl,rfl,rfl,rfl⟩ rfl rfl rfl rfl rfl (by kernel_rfl) Tryz.func7 xS
  (dx (by kernel_rfl)) (by unfold Func.isWrapper;first | (rw[bf (by decide +kernel)];kernel_rfl) | (rw[az (by decide +kernel)];exact⟨rfl,rfl⟩))
  (λos started H enc _=>xR os started H enc)
end Go.Proofs.YtmhchflckonklaaGreatDoor
end
