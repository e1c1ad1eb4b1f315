/- Part 20 of the proof. -/
import Derived.Test.YtlbbdpkjeeiahaaGreatDoorZ16
import Derived.Test.YtlbbdpkjeeiahaaGreatDoorZ19
set_option maxHeartbeats 8000000
set_option linter.unusedVariables false
section
namespace Go.Proofs.YtlbbdpkjeeiahaaGreatDoor
open Go Go.Ax Go.ChangeShapes Go.WideShapes Go.ChangeAt Go.RowKit
set_option maxRecDepth 100000 in
theorem vI (os:Os) (started:os.Started) (H:Type) (enc:TypeId × Value -> H) :
  ReturnsInHanded {} Tryz.checked os 7 .any (fun w args=>(Rows.orderLevelsSpec.pre enc Tryz.prog Tryz.f7 [] false w args /\ laidMetH Tryz.prog laid w) /\ sizedMet enc Tryz.prog Tryz.f7 (OpenSpec.ofChange Rows.orderLevelsSpec) false w args)
   (Rows.orderLevelsSpec.post enc Tryz.prog Tryz.f7 false true false false):=by
 refine handed (X:=fun w _=>laidMetH Tryz.prog laid w) (fun _ _ _ hh h=>h.of_heap hh) own started (by kernel_rfl) Tryz.func7
  (ChangeSpec.witness_shaped (enc:=enc) (C:=Tryz.checked) (os:=os) (X:=fun w _=>laidMetH Tryz.prog laid w) false (World.laidAll Tryz.prog os laid) #[.slice none 0 0] 8 (World.laidAll_os _ _ _)
   (World.shaped_of_ZipB (by kernel_rfl) (by kernel_rfl)) (by kernel_rfl) (by kernel_rfl) (by kernel_rfl) (M0 os _)) ?_
 intro W base args ds gs before hshape hval0 hW hsz0 hn
 have hval:∀ (j:Nat) t v,Tryz.f7.params[j]? = some t -> args[j]? = some v -> Value.okWide Tryz.prog W .any base t v:=hval0
 have hsz:(DataW.weightsEach Tryz.prog (Tryz.f7.params.toList ++ Rows.orderLevelsSpec.plain.varTypes Tryz.prog) (ds ++ gs)).all (· <= reachBytes) = true:=hsz0
 have hW':=hW
 obtain ⟨p,q,hA0,hV,rfl,_,_⟩:=hW
 have hA:DataW.TrodAll enc Tryz.prog W 0 (fun _=>true) true Tryz.f7.params.toList args.toList ds p:=hA0
 rw [Tryz.params7] at hA hval hsz
 obtain ⟨v0,vs0,d0,ds0,p0,q0,hargs,rfl,rfl,h0,r0⟩:=trodAll_cons hA
 obtain ⟨rfl,rfl,rfl⟩:=trodAll_nil r0
 obtain ⟨al⟩:=args
 have hargs:al = [v0]:=hargs
 subst hargs
 obtain ⟨rfl,rfl⟩:=trodVars_none hV
 have hl0:∀ x ∈ p0,x.block < W.heap.size:=fun x hx=>hW'.lt x (by simp [hx])
 have hw0:(DataW.weights Tryz.prog 22 d0).all (· <= reachBytes) = true:=by
  have:=hsz
  simp only [DataW.weightsEach,List.all_append,Bool.and_eq_true,List.append_nil,List.cons_append,List.nil_append] at this
  exact this.1
 obtain ⟨xs0,l0,lv0,ll0,w0⟩:=Li (W:=W) (hval 0 22 v0 rfl rfl) h0 (hw0)
 simp only [List.append_nil] at hW'
 obtain ⟨k,hrun⟩:=Aw xs0 l0 lv0 ll0
 refine (NV Gk rfl Rq hshape hrun (.cons _ _ _ _ w0 .nil)).mono fun e W' ⟨he,hb⟩=>?_
 subst he
 exact ⟨_,rfl,_,_,_,[],_,[],hW',trodAll_mk1 (shut_bool Tryz.underlying4 _),⟨p0,_,Below.trod laidOut (by kernel_rfl) (of_decide_eq_true (by kernel_rfl)) h0 hb hl0,rfl,rfl⟩,rfl,hb.frame _,fun h=>by cases h⟩
end Go.Proofs.YtlbbdpkjeeiahaaGreatDoor
end
