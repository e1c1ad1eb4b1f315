/- Part 22 of the proof. -/
import Derived.Test.YtmbikbgdbbcbmaaGreatDoorY
import Derived.Test.YtmbikbgdbbcbmaaGreatDoorZ21
set_option maxHeartbeats 8000000
set_option linter.unusedVariables false
section
namespace Go.Proofs.YtmbikbgdbbcbmaaGreatDoor
open Go Go.Ax Go.ChangeShapes Go.WideShapes Go.ChangeAt Go.RowKit
theorem lR {a b:Bool}(h:a=true) (k:b=true):(a&&b)=true:=by rw[h,k];rfl
theorem bT {a b:Bool}(h:(a&&b)=true):a=true:=by cases a <;> first | rfl | exact h
theorem oE {a b:Bool}(h:(a&&b)=true):b=true:=by cases a <;> first | exact h | cases h
theorem Eh:(Rows.trailPathsRow.wf (OpenSpec.ofChange Rows.trailPathsSpec))=true:=by kernel_rfl
theorem Eg:(laidOutB Tryz.prog)=true:=laidOut
theorem iA:(((((((mapsRowed Tryz.prog)&&(Tryz.f8.params.all (Tryz.prog.readableRec ·)))&&(namedTie Tryz.prog Rows.trailPathsRow.named Rows.trailPathsSpec.vars))&&((Rows.trailPathsRow.stops==[])))&&((Tryz.prog.stops==[])))&&((Rows.trailPathsRow.knobs==[])))&&((Tryz.prog.stopKnobs==[])))=true:=by kernel_rfl
theorem nM:(((((Rows.trailPathsRow.inPlace==Tryz.prog.inPlace 8))&&((Rows.trailPathsRow.unfollowed==Tryz.prog.unfollowed 8)))&&((Rows.trailPathsRow.recurses==Tryz.prog.recurses 8)))&&((Rows.trailPathsRow.named==Tryz.prog.varsNamed 8)))=true:=by kernel_rfl
theorem eT:((((((((((Rows.trailPathsRow.maps==(Tryz.f8.params.toList++Rows.trailPathsSpec.plain.varTypes Tryz.prog).any (Tryz.prog.mapsRec ·)))&&((Rows.trailPathsRow.ifaces==(Tryz.f8.params.toList++Rows.trailPathsSpec.plain.varTypes Tryz.prog).any (Tryz.prog.ifacesRec ·))))&&((Rows.trailPathsRow.mapsOut==Tryz.prog.mapsAmong Tryz.f8.resultTypes.toList)))&&((Rows.trailPathsRow.loops==(Tryz.f8.params.toList++Rows.trailPathsSpec.plain.varTypes Tryz.prog).any (Tryz.prog.loopsFrom ·))))&&((Rows.trailPathsRow.wideKeys==(Tryz.f8.params.toList++Rows.trailPathsSpec.plain.varTypes Tryz.prog++Tryz.f8.resultTypes.toList).any (Tryz.prog.wideKeysFrom ·))))&&(Rows.trailPathsSpec.vars.all (Tryz.prog.varReadable ·)))&&(Tryz.f8.resultTypes.all (λt=>Tryz.prog.readableRec t&&decide (t<Tryz.prog.types.size))))&&((Rows.trailPathsRow.ifacesOut==Tryz.f8.resultTypes.toList.any (Tryz.prog.ifacesRec ·))))&&((Rows.trailPathsRow.loopsOut==Tryz.f8.resultTypes.toList.any (Tryz.prog.loopsFrom ·))))=true:=by kernel_rfl
theorem d_:(((((((((((Rows.trailPathsRow.plainKeys==Tryz.prog.plainKeys))&&(Rows.trailPathsRow.shortTexts.isNone))&&(Tryz.prog.stopsHeard))&&(Tryz.prog.mayEnter))&&((Rows.trailPathsRow.lifted==Tryz.prog.liftsFinal)))&&((Tryz.prog.make==some Rows.trailPathsRow.make)))&&((Rows.trailPathsRow.kinds==(if Rows.trailPathsRow.domain.isEmpty then [] else Tryz.f8.params.toList.map λt=>match Tryz.prog.underlying t with | some (.int k)=>some k | _=>none))))&&((Rows.trailPathsRow.pinned==Rows.trailPathsRow.pinnedBy)))&&((Rows.trailPathsRow.veiled==(Tryz.f8.params.toList++Rows.trailPathsSpec.plain.varTypes Tryz.prog++Tryz.f8.resultTypes.toList).any (Tryz.prog.veiledRec ·))))&&(Rows.trailPathsRow.veiledFits Tryz.prog Tryz.f8.params.toList (Tryz.f8.params.toList++Rows.trailPathsSpec.plain.varTypes Tryz.prog++Tryz.f8.resultTypes.toList)))=true:=by kernel_rfl
set_option maxRecDepth 100000 in
theorem yK:joinedFacts Tryz.prog 8 Tryz.f8 Rows.trailPathsSpec Rows.trailPathsRow=true:=(lR (lR (lR (lR (lR (lR (lR (lR (lR (lR (lR (lR (lR (lR (lR (lR (lR (lR (lR (lR (lR (lR (lR (lR (lR (lR (lR (lR (lR (lR (lR Eh Eg) (bT (bT (bT (bT (bT (bT iA))))))) (oE (bT (bT (bT (bT (bT iA))))))) (oE (bT (bT (bT (bT iA)))))) (oE (bT (bT (bT iA))))) (oE (bT (bT iA)))) (oE (bT iA))) (oE iA)) (bT (bT (bT nM)))) (oE (bT (bT nM)))) (oE (bT nM))) (oE nM)) (bT (bT (bT (bT (bT (bT (bT (bT eT))))))))) (oE (bT (bT (bT (bT (bT (bT (bT eT))))))))) (oE (bT (bT (bT (bT (bT (bT eT)))))))) (oE (bT (bT (bT (bT (bT eT))))))) (oE (bT (bT (bT (bT eT)))))) (oE (bT (bT (bT eT))))) (oE (bT (bT eT)))) (oE (bT eT))) (oE eT)) (bT (bT (bT (bT (bT (bT (bT (bT (bT d_)))))))))) (oE (bT (bT (bT (bT (bT (bT (bT (bT d_)))))))))) (oE (bT (bT (bT (bT (bT (bT (bT d_))))))))) (oE (bT (bT (bT (bT (bT (bT d_)))))))) (oE (bT (bT (bT (bT (bT d_))))))) (oE (bT (bT (bT (bT d_)))))) (oE (bT (bT (bT d_))))) (oE (bT (bT d_)))) (oE (bT d_))) (oE d_))
theorem Cv:Rows.TrailPathsSaid:=
 OpenClaim.holds_of_wide 8 Tryz.f8 rfl rfl rfl rfl rfl rfl rfl ⟨rfl,rfl,rfl,rfl,rfl⟩ rfl rfl rfl rfl rfl (by kernel_rfl) Tryz.func8 yK
  (ej (by kernel_rfl)) (by unfold Func.isWrapper;first | (rw[az (by decide +kernel)];kernel_rfl) | (rw[an (by decide +kernel)];exact⟨rfl,rfl⟩))
  (λos started H enc _=>yJ os started H enc)
end Go.Proofs.YtmbikbgdbbcbmaaGreatDoor
end
