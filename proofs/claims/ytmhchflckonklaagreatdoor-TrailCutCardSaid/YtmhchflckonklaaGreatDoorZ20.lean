/- Part 20 of the proof. -/
import Derived.Test.YtmhchflckonklaaGreatDoorY
import Derived.Test.YtmhchflckonklaaGreatDoorZ16
import Derived.Test.YtmhchflckonklaaGreatDoorZ19
set_option maxHeartbeats 8000000
set_option linter.unusedVariables false
section
namespace Go.Proofs.YtmhchflckonklaaGreatDoor
open Go Go.Ax Go.ChangeShapes Go.WideShapes Go.ChangeAt Go.RowKit
set_option maxRecDepth 100000 in
theorem AP (os:Os) (started:os.Started) (H:Type) (enc:TypeId × Value -> H) :
  ReturnsInHanded {} Tryz.checked os 10 .any (fun w args=>(Rows.trailCutSpec.pre enc Tryz.prog Tryz.f10 [] false w args /\ laidMetH Tryz.prog laid w) /\ sizedMet enc Tryz.prog Tryz.f10 (OpenSpec.ofChange Rows.trailCutSpec) false w args)
   (Rows.trailCutSpec.post enc Tryz.prog Tryz.f10 false true false false):=by
 refine handed (X:=fun w _=>laidMetH Tryz.prog laid w) (fun _ _ _ hh h=>h.of_heap hh) own started (by kernel_rfl) Tryz.func10
  (ChangeSpec.witness_shaped (enc:=enc) (C:=Tryz.checked) (os:=os) (X:=fun w _=>laidMetH Tryz.prog laid w) false (World.laidAll Tryz.prog os laid) #[.slice none 0 0,.agg #[.bool false,.string ⟨#[]⟩],.agg #[.bool false,.string ⟨#[]⟩],.agg #[.bool false,.string ⟨#[]⟩],.int .i64 0] 8 (World.laidAll_os _ _ _)
   (World.shaped_of_ZipB (by kernel_rfl) (by kernel_rfl)) (by kernel_rfl) (by kernel_rfl) (by kernel_rfl) (NU os _)) ?_
 intro W base args ds gs before hshape hval0 hW hsz0 hn
 have hval:∀ (j:Nat) t v,Tryz.f10.params[j]? = some t -> args[j]? = some v -> Value.okWide Tryz.prog W .any base t v:=hval0
 have hsz:(DataW.weightsEach Tryz.prog (Tryz.f10.params.toList ++ Rows.trailCutSpec.plain.varTypes Tryz.prog) (ds ++ gs)).all (· <= reachBytes) = true:=hsz0
 have hW':=hW
 obtain ⟨p,q,hA0,hV,rfl,_,_⟩:=hW
 have hA:DataW.TrodAll enc Tryz.prog W 0 (fun _=>true) true Tryz.f10.params.toList args.toList ds p:=hA0
 rw [Tryz.params10] at hA hval hsz
 obtain ⟨v0,vs0,d0,ds0,p0,q0,hargs,rfl,rfl,h0,r0⟩:=trodAll_cons hA
 obtain ⟨v1,vs1,d1,ds1,p1,q1,rfl,rfl,rfl,h1,r1⟩:=trodAll_cons r0
 obtain ⟨v2,vs2,d2,ds2,p2,q2,rfl,rfl,rfl,h2,r2⟩:=trodAll_cons r1
 obtain ⟨v3,vs3,d3,ds3,p3,q3,rfl,rfl,rfl,h3,r3⟩:=trodAll_cons r2
 obtain ⟨v4,vs4,d4,ds4,p4,q4,rfl,rfl,rfl,h4,r4⟩:=trodAll_cons r3
 obtain ⟨rfl,rfl,rfl⟩:=trodAll_nil r4
 obtain ⟨al⟩:=args
 have hargs:al = [v0,v1,v2,v3,v4]:=hargs
 subst hargs
 obtain ⟨rfl,rfl⟩:=trodVars_none hV
 have hl0:∀ x ∈ p0,x.block < W.heap.size:=fun x hx=>hW'.lt x (by simp [hx])
 have hl1:∀ x ∈ p1,x.block < W.heap.size:=fun x hx=>hW'.lt x (by simp [hx])
 have hl2:∀ x ∈ p2,x.block < W.heap.size:=fun x hx=>hW'.lt x (by simp [hx])
 have hl3:∀ x ∈ p3,x.block < W.heap.size:=fun x hx=>hW'.lt x (by simp [hx])
 have hl4:∀ x ∈ p4,x.block < W.heap.size:=fun x hx=>hW'.lt x (by simp [hx])
 have hw0:(DataW.weights Tryz.prog 22 d0).all (· <= reachBytes) = true:=by
  have:=hsz
  simp only [DataW.weightsEach,gh,Z3,cw,bg,af] at this
  exact this.1
 have hw1:(DataW.weights Tryz.prog 51 d1).all (· <= reachBytes) = true:=by
  have:=hsz
  simp only [DataW.weightsEach,gh,Z3,cw,bg,af] at this
  exact this.2.1
 have hw2:(DataW.weights Tryz.prog 51 d2).all (· <= reachBytes) = true:=by
  have:=hsz
  simp only [DataW.weightsEach,gh,Z3,cw,bg,af] at this
  exact this.2.2.1
 have hw3:(DataW.weights Tryz.prog 51 d3).all (· <= reachBytes) = true:=by
  have:=hsz
  simp only [DataW.weightsEach,gh,Z3,cw,bg,af] at this
  exact this.2.2.2.1
 have hw4:(DataW.weights Tryz.prog 3 d4).all (· <= reachBytes) = true:=by
  have:=hsz
  simp only [DataW.weightsEach,gh,Z3,cw,bg,af] at this
  exact this.2.2.2.2.1
 obtain ⟨xs0,l0,lv0,ll0,w0⟩:=Mg (W:=W) (hval 0 22 v0 rfl rfl) h0 (hw0)
 obtain ⟨x1,s1,rfl,l1⟩:=Aa (hval 1 51 v1 rfl rfl) h1 (hw1)
 obtain ⟨x2,s2,rfl,l2⟩:=Aa (hval 2 51 v2 rfl rfl) h2 (hw2)
 obtain ⟨x3,s3,rfl,l3⟩:=Aa (hval 3 51 v3 rfl rfl) h3 (hw3)
 obtain ⟨x4,rfl,y4⟩:=RF (hval 4 3 v4 rfl rfl)
 simp only [cw] at hW'
 obtain ⟨k,hrun⟩:=EU xs0 l0 lv0 ll0 x1 (Ax.bytes s1) l1 x2 (Ax.bytes s2) l2 x3 (Ax.bytes s3) l3 x4 y4
 refine (OT G8 rfl SD hshape hrun (.cons _ _ _ _ w0 (.cons _ _ _ _ (Br W x1 s1) (.cons _ _ _ _ (Br W x2 s2) (.cons _ _ _ _ (Br W x3 s3) (.cons _ _ _ _ (.inl (.int _ _)) .nil)))))).mono fun e W' ⟨he,hb⟩=>?_
 subst he
 exact ⟨_,rfl,_,_,_,[],_,[],hW',trodAll_mk1 (shut_bool Tryz.underlying4 _),⟨p0,_,Below.trod laidOut (by kernel_rfl) (bf (by kernel_rfl)) h0 hb hl0,⟨p1,_,Below.trod laidOut (by kernel_rfl) (bf (by kernel_rfl)) h1 hb hl1,⟨p2,_,Below.trod laidOut (by kernel_rfl) (bf (by kernel_rfl)) h2 hb hl2,⟨p3,_,Below.trod laidOut (by kernel_rfl) (bf (by kernel_rfl)) h3 hb hl3,⟨p4,_,Below.trod laidOut (by kernel_rfl) (bf (by kernel_rfl)) h4 hb hl4,rfl,rfl⟩,rfl⟩,rfl⟩,rfl⟩,rfl⟩,rfl,hb.frame _,fun h=>by cases h⟩
end Go.Proofs.YtmhchflckonklaaGreatDoor
end
