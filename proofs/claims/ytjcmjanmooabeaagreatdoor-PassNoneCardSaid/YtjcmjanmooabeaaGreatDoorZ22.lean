/- Part 22 of the proof. -/
import Derived.Test.YtjcmjanmooabeaaGreatDoorZ21
set_option maxHeartbeats 8000000
set_option linter.unusedVariables false
set_option linter.unusedSimpArgs false
section
namespace Go.Proofs.YtjcmjanmooabeaaGreatDoor
open Go Go.Ax Go.ChangeShapes Go.WideShapes Go.ChangeAt Go.RowKit
set_option maxRecDepth 100000 in
theorem passNone_lifted (os:Os) (started:os.Started) (H:Type) (enc:TypeId × Value->H) :
  ReturnsInHanded {} Tryz.checked os 3 .any (λw args=>(Rows.passNoneSpec.pre enc Tryz.prog Tryz.f3 [] false w args/\laidMetH Tryz.prog laid w)/\sizedMet enc Tryz.prog Tryz.f3 (OpenSpec.ofChange Rows.passNoneSpec) false w args)
   (Rows.passNoneSpec.post enc Tryz.prog Tryz.f3 false true false false):=by
 refine handed (X:=λw _=>laidMetH Tryz.prog laid w) (λ_ _ _ hh h=>h.of_heap hh) own started (by kernel_rfl) Tryz.func3
  (ChangeSpec.witness_shaped (enc:=enc) (C:=Tryz.checked) (os:=os) (X:=λw _=>laidMetH Tryz.prog laid w) false (World.laidAll Tryz.prog os laid) #[] 8 (World.laidAll_os _ _ _)
   (World.shaped_of_ZipB (by kernel_rfl) (by kernel_rfl)) (by kernel_rfl) (by kernel_rfl) (by kernel_rfl) (laid_all os _)) ?_
 intro W base args ds gs before hshape hval0 hW hsz0 hn
 have hval:∀(j:Nat) t v,Tryz.f3.params[j]?=some t->args[j]?=some v->Value.okWide Tryz.prog W .any base t v:=hval0
 have hsz:(DataW.weightsEach Tryz.prog (Tryz.f3.params.toList++Rows.passNoneSpec.plain.varTypes Tryz.prog) (ds++gs)).all (· <= reachBytes)=true:=hsz0
 have hW':=hW
 obtain⟨p,q,hA0,hV,rfl,_,_⟩:=hW
 have hA:DataW.TrodAll enc Tryz.prog W 0 (λ_=>true) true Tryz.f3.params.toList args.toList ds p:=hA0
 rw[Tryz.params3]at hA hval hsz
 obtain⟨rfl,rfl,rfl⟩:=trodAll_none hA
 obtain⟨rfl,rfl⟩:=trodVars_none hV
 simp only[List.append_nil]at hW'
 obtain⟨k,hrun⟩:=run_passNone
 refine (ax_calls groundOk rfl spL_ok hshape hrun .nil).mono λe W' ⟨he,hb⟩=>?_
 subst he
 exact⟨_,rfl,_,_,_,[],_,[],hW',trodAll_mk1 (shut_bool Tryz.underlying4 _),rfl,rfl,hb.frame _,λh=>by cases h⟩
end Go.Proofs.YtjcmjanmooabeaaGreatDoor
end
