/- Part 20 of the proof. -/
import Derived.Test.YtmbikbgdbbcbmaaGreatDoorY
import Derived.Test.YtmbikbgdbbcbmaaGreatDoorZ16
import Derived.Test.YtmbikbgdbbcbmaaGreatDoorZ19
set_option maxHeartbeats 8000000
set_option linter.unusedVariables false
section
namespace Go.Proofs.YtmbikbgdbbcbmaaGreatDoor
open Go Go.Ax Go.ChangeShapes Go.WideShapes Go.ChangeAt Go.RowKit
set_option maxRecDepth 100000 in
theorem BJ (os:Os) (started:os.Started) (H:Type) (enc:TypeId × Value->H) :
  ReturnsInHanded {} Tryz.checked os 9 .any (λw args=>(Rows.graphAllSpec.pre enc Tryz.prog Tryz.f9 [] false w args/\laidMetH Tryz.prog laid w)/\sizedMet enc Tryz.prog Tryz.f9 (OpenSpec.ofChange Rows.graphAllSpec) false w args)
   (Rows.graphAllSpec.post enc Tryz.prog Tryz.f9 false true false false):=by
 refine handed (X:=λw _=>laidMetH Tryz.prog laid w) (λ_ _ _ hh h=>h.of_heap hh) own started (by kernel_rfl) Tryz.func9
  (ChangeSpec.witness_shaped (enc:=enc) (C:=Tryz.checked) (os:=os) (X:=λw _=>laidMetH Tryz.prog laid w) false (World.laidAll Tryz.prog os laid) #[.slice none 0 0,.agg #[.bool false,.string ⟨#[]⟩]] 8 (World.laidAll_os _ _ _)
   (World.shaped_of_ZipB (by kernel_rfl) (by kernel_rfl)) (by kernel_rfl) (by kernel_rfl) (by kernel_rfl) (P9 os _)) ?_
 intro W base args ds gs before hshape hval0 hW hsz0 hn
 have hval:∀(j:Nat) t v,Tryz.f9.params[j]?=some t->args[j]?=some v->Value.okWide Tryz.prog W .any base t v:=hval0
 have hsz:(DataW.weightsEach Tryz.prog (Tryz.f9.params.toList++Rows.graphAllSpec.plain.varTypes Tryz.prog) (ds++gs)).all (· <= reachBytes)=true:=hsz0
 have hW':=hW
 obtain⟨p,q,hA0,hV,rfl,_,_⟩:=hW
 have hA:DataW.TrodAll enc Tryz.prog W 0 (λ_=>true) true Tryz.f9.params.toList args.toList ds p:=hA0
 rw[Tryz.params9]at hA hval hsz
 obtain⟨v0,vs0,d0,ds0,p0,q0,hargs,rfl,rfl,h0,r0⟩:=trodAll_cons hA
 obtain⟨v1,vs1,d1,ds1,p1,q1,rfl,rfl,rfl,h1,r1⟩:=trodAll_cons r0
 obtain⟨rfl,rfl,rfl⟩:=trodAll_nil r1
 obtain⟨al⟩:=args
 have hargs:al=[v0,v1]:=hargs
 subst hargs
 obtain⟨rfl,rfl⟩:=trodVars_none hV
 have hl0:∀x∈p0,x.block<W.heap.size:=λx hx=>hW'.lt x (by simp[hx])
 have hl1:∀x∈p1,x.block<W.heap.size:=λx hx=>hW'.lt x (by simp[hx])
 have hw0:(DataW.weights Tryz.prog 22 d0).all (· <= reachBytes)=true:=by
  have:=hsz
  simp only[DataW.weightsEach,my,ah,fh,dy,cq]at this
  exact this.1
 have hw1:(DataW.weights Tryz.prog 51 d1).all (· <= reachBytes)=true:=by
  have:=hsz
  simp only[DataW.weightsEach,my,ah,fh,dy,cq]at this
  exact this.2.1
 obtain⟨xs0,l0,lv0,ll0,w0⟩:=N6 (W:=W) (hval 0 22 v0 rfl rfl) h0 (hw0)
 obtain⟨x1,s1,rfl,l1⟩:=N7 (hval 1 51 v1 rfl rfl) h1 (hw1)
 simp only[fh]at hW'
 obtain⟨k,hrun⟩:=F7 xs0 l0 lv0 ll0 x1 (Ax.bytes s1) l1
 refine (Rl zP rfl UJ hshape hrun (.cons _ _ _ _ w0 (.cons _ _ _ _ (Og W x1 s1) .nil))).mono λe W' ⟨he,hb⟩=>?_
 subst he
 exact⟨_,rfl,_,_,_,[],_,[],hW',trodAll_mk1 (shut_bool Tryz.underlying4 _),⟨p0,_,Below.trod laidOut (by kernel_rfl) (dx (by kernel_rfl)) h0 hb hl0,⟨p1,_,Below.trod laidOut (by kernel_rfl) (dx (by kernel_rfl)) h1 hb hl1,rfl,rfl⟩,rfl⟩,rfl,hb.frame _,λh=>by cases h⟩
end Go.Proofs.YtmbikbgdbbcbmaaGreatDoor
end
