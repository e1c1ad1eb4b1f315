/- Part 20 of the proof's own texts (pressed by a program of its author's). -/
import Derived.Test.YtlbbdpkjeeiahaaGreatDoorZ16
import Derived.Test.YtlbbdpkjeeiahaaGreatDoorZ19
section
set_option maxHeartbeats 8000000
set_option linter.unusedVariables false
namespace Go.Proofs.YtlbbdpkjeeiahaaGreatDoor
open Go Go.Ax Go.ChangeShapes Go.WideShapes Go.ChangeAt Go.RowKit
set_option maxRecDepth 100000 in
theorem yO (os:Os) (started:os.Started) (H:Type) (enc:TypeId × Value -> H) :
  ReturnsInHanded {} Tryz.checked os 6 .any (fun w args=>(Rows.orderConeSpec.pre enc Tryz.prog Tryz.f6 [] false w args /\ laidMetH Tryz.prog laid w) /\ sizedMet enc Tryz.prog Tryz.f6 (OpenSpec.ofChange Rows.orderConeSpec) false w args)
   (Rows.orderConeSpec.post enc Tryz.prog Tryz.f6 false true false false):=by
 refine handed (X:=fun w _=>laidMetH Tryz.prog laid w) (fun _ _ _ hh h=>h.of_heap hh) own started (by kernel_rfl) Tryz.func6
  (ChangeSpec.witness_shaped (enc:=enc) (C:=Tryz.checked) (os:=os) (X:=fun w _=>laidMetH Tryz.prog laid w) false (World.laidAll Tryz.prog os laid) #[.slice none 0 0,.slice none 0 0] 8 (World.laidAll_os _ _ _)
   (World.shaped_of_ZipB (by kernel_rfl) (by kernel_rfl)) (by kernel_rfl) (by kernel_rfl) (by kernel_rfl) (Nz os _)) ?_
 intro W base args ds gs before hshape hval0 hW hsz0 hn
 have hval:∀ (j:Nat) t v,Tryz.f6.params[j]? = some t -> args[j]? = some v -> Value.okWide Tryz.prog W .any base t v:=hval0
 have hsz:(DataW.weightsEach Tryz.prog (Tryz.f6.params.toList ++ Rows.orderConeSpec.plain.varTypes Tryz.prog) (ds ++ gs)).all (· <= reachBytes) = true:=hsz0
 have hW':=hW
 obtain ⟨p,q,hA0,hV,rfl,_,_⟩:=hW
 have hA:DataW.TrodAll enc Tryz.prog W 0 (fun _=>true) true Tryz.f6.params.toList args.toList ds p:=hA0
 rw [Tryz.params6] at hA hval hsz
 obtain ⟨v0,vs0,d0,ds0,p0,q0,hargs,rfl,rfl,h0,r0⟩:=trodAll_cons hA
 obtain ⟨v1,vs1,d1,ds1,p1,q1,rfl,rfl,rfl,h1,r1⟩:=trodAll_cons r0
 obtain ⟨rfl,rfl,rfl⟩:=trodAll_nil r1
 obtain ⟨al⟩:=args
 have hargs:al = [v0,v1]:=hargs
 subst hargs
 obtain ⟨rfl,rfl⟩:=trodVars_none hV
 have hl0:∀ x ∈ p0,x.block < W.heap.size:=fun x hx=>hW'.lt x (by simp [hx])
 have hl1:∀ x ∈ p1,x.block < W.heap.size:=fun x hx=>hW'.lt x (by simp [hx])
 have hw0:(DataW.weights Tryz.prog 22 d0).all (· <= reachBytes) = true:=by
  have:=hsz
  simp only [DataW.weightsEach,List.all_append,Bool.and_eq_true,List.append_nil,List.cons_append,List.nil_append] at this
  exact this.1
 have hw1:(DataW.weights Tryz.prog 56 d1).all (· <= reachBytes) = true:=by
  have:=hsz
  simp only [DataW.weightsEach,List.all_append,Bool.and_eq_true,List.append_nil,List.cons_append,List.nil_append] at this
  exact this.2.1
 obtain ⟨xs0,l0,lv0,ll0,w0⟩:=LJ (W:=W) (hval 0 22 v0 rfl rfl) h0 (hw0)
 obtain ⟨xs1,l1,lv1,ll1,w1⟩:=OH (W:=W) (hval 1 56 v1 rfl rfl) h1 (hw1)
 simp only [List.append_nil] at hW'
 obtain ⟨k,hrun⟩:=C0 xs0 l0 lv0 ll0 xs1 l1 lv1 ll1
 refine (OA GF rfl RJ hshape hrun (.cons _ _ _ _ w0 (.cons _ _ _ _ w1 .nil))).mono fun e W' ⟨he,hb⟩=>?_
 subst he
 exact ⟨_,rfl,_,_,_,[],_,[],hW',trodAll_mk1 (shut_bool Tryz.underlying4 _),⟨p0,_,Below.trod laidOut (by kernel_rfl) (of_decide_eq_true (by kernel_rfl)) h0 hb hl0,⟨p1,_,Below.trod laidOut (by kernel_rfl) (of_decide_eq_true (by kernel_rfl)) h1 hb hl1,rfl,rfl⟩,rfl⟩,rfl,hb.frame _,fun h=>by cases h⟩
end Go.Proofs.YtlbbdpkjeeiahaaGreatDoor
end
