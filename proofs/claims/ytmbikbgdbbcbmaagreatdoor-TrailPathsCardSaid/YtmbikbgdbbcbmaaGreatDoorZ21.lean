/- Part 21 of the proof. -/
import Derived.Test.YtmbikbgdbbcbmaaGreatDoorY
import Derived.Test.YtmbikbgdbbcbmaaGreatDoorZ16
import Derived.Test.YtmbikbgdbbcbmaaGreatDoorZ20
set_option maxHeartbeats 8000000
set_option linter.unusedVariables false
section
namespace Go.Proofs.YtmbikbgdbbcbmaaGreatDoor
open Go Go.Ax Go.ChangeShapes Go.WideShapes Go.ChangeAt Go.RowKit
set_option maxRecDepth 100000 in
theorem yJ (os:Os) (started:os.Started) (H:Type) (enc:TypeId × Value->H) :
  ReturnsInHanded {} Tryz.checked os 8 .any (λw args=>(Rows.trailPathsSpec.pre enc Tryz.prog Tryz.f8 [] false w args/\laidMetH Tryz.prog laid w)/\sizedMet enc Tryz.prog Tryz.f8 (OpenSpec.ofChange Rows.trailPathsSpec) false w args)
   (Rows.trailPathsSpec.post enc Tryz.prog Tryz.f8 false true false false):=by
 refine handed (X:=λw _=>laidMetH Tryz.prog laid w) (λ_ _ _ hh h=>h.of_heap hh) own started (by kernel_rfl) Tryz.func8
  (ChangeSpec.witness_shaped (enc:=enc) (C:=Tryz.checked) (os:=os) (X:=λw _=>laidMetH Tryz.prog laid w) false (World.laidAll Tryz.prog os laid) #[.slice none 0 0,.agg #[.bool false,.string ⟨#[]⟩],.agg #[.bool false,.string ⟨#[]⟩],.int .i64 0] 8 (World.laidAll_os _ _ _)
   (World.shaped_of_ZipB (by kernel_rfl) (by kernel_rfl)) (by kernel_rfl) (by kernel_rfl) (by kernel_rfl) (P_ os _)) ?_
 intro W base args ds gs before hshape hval0 hW hsz0 hn;have hval:∀(j:Nat) t v,Tryz.f8.params[j]?=some t->args[j]?=some v->Value.okWide Tryz.prog W .any base t v:=hval0;have hsz:(DataW.weightsEach Tryz.prog (Tryz.f8.params.toList++Rows.trailPathsSpec.plain.varTypes Tryz.prog) (ds++gs)).all (· <= reachBytes)=true:=hsz0;have hW':=hW;obtain⟨p,q,hA0,hV,rfl,_,_⟩:=hW;have hA:DataW.TrodAll enc Tryz.prog W 0 (λ_=>true) true Tryz.f8.params.toList args.toList ds p:=hA0;rw[Tryz.params8]at hA hval hsz;obtain⟨v0,vs0,d0,ds0,p0,q0,hargs,rfl,rfl,h0,r0⟩:=trodAll_cons hA;obtain⟨v1,vs1,d1,ds1,p1,q1,rfl,rfl,rfl,h1,r1⟩:=trodAll_cons r0;obtain⟨v2,vs2,d2,ds2,p2,q2,rfl,rfl,rfl,h2,r2⟩:=trodAll_cons r1;obtain⟨v3,vs3,d3,ds3,p3,q3,rfl,rfl,rfl,h3,r3⟩:=trodAll_cons r2;obtain⟨rfl,rfl,rfl⟩:=trodAll_nil r3;obtain⟨al⟩:=args;have hargs:al=[v0,v1,v2,v3]:=hargs;subst hargs;obtain⟨rfl,rfl⟩:=trodVars_none hV;have hl0:∀x∈p0,x.block<W.heap.size:=λx hx=>hW'.lt x (by simp[hx]);have hl1:∀x∈p1,x.block<W.heap.size:=λx hx=>hW'.lt x (by simp[hx]);have hl2:∀x∈p2,x.block<W.heap.size:=λx hx=>hW'.lt x (by simp[hx]);have hl3:∀x∈p3,x.block<W.heap.size:=λx hx=>hW'.lt x (by simp[hx])
 have hw0:(DataW.weights Tryz.prog 22 d0).all (· <= reachBytes)=true:=by
  have:=hsz;simp only[DataW.weightsEach,kz,ai,ig,eu,cz]at this;exact this.1
 have hw1:(DataW.weights Tryz.prog 51 d1).all (· <= reachBytes)=true:=by
  have:=hsz;simp only[DataW.weightsEach,kz,ai,ig,eu,cz]at this;exact this.2.1
 have hw2:(DataW.weights Tryz.prog 51 d2).all (· <= reachBytes)=true:=by
  have:=hsz;simp only[DataW.weightsEach,kz,ai,ig,eu,cz]at this;exact this.2.2.1
 have hw3:(DataW.weights Tryz.prog 3 d3).all (· <= reachBytes)=true:=by
  have:=hsz;simp only[DataW.weightsEach,kz,ai,ig,eu,cz]at this;exact this.2.2.2.1
 obtain⟨xs0,l0,lv0,ll0,w0⟩:=N9 (W:=W) (hval 0 22 v0 rfl rfl) h0 (hw0);obtain⟨x1,s1,rfl,l1⟩:=FH (hval 1 51 v1 rfl rfl) h1 (hw1);obtain⟨x2,s2,rfl,l2⟩:=FH (hval 2 51 v2 rfl rfl) h2 (hw2);obtain⟨x3,rfl,y3⟩:=Ug (hval 3 3 v3 rfl rfl);simp only[ig]at hW';obtain⟨k,hrun⟩:=CR xs0 l0 lv0 ll0 x1 (Ax.bytes s1) l1 x2 (Ax.bytes s2) l2 x3 y3;refine (Rc zS rfl U_ hshape hrun (.cons _ _ _ _ w0 (.cons _ _ _ _ (He W x1 s1) (.cons _ _ _ _ (He W x2 s2) (.cons _ _ _ _ (.inl (.int _ _)) .nil))))).mono λe W' ⟨he,hb⟩=>?_;subst he;exact⟨_,rfl,_,_,_,[],_,[],hW',trodAll_mk1 (shut_bool Tryz.underlying4 _),⟨p0,_,Below.trod laidOut (by kernel_rfl) (ej (by kernel_rfl)) h0 hb hl0,⟨p1,_,Below.trod laidOut (by kernel_rfl) (ej (by kernel_rfl)) h1 hb hl1,⟨p2,_,Below.trod laidOut (by kernel_rfl) (ej (by kernel_rfl)) h2 hb hl2,⟨p3,_,Below.trod laidOut (by kernel_rfl) (ej (by kernel_rfl)) h3 hb hl3,rfl,rfl⟩,rfl⟩,rfl⟩,rfl⟩,rfl,hb.frame _,λh=>by cases h⟩
end Go.Proofs.YtmbikbgdbbcbmaaGreatDoor
end
