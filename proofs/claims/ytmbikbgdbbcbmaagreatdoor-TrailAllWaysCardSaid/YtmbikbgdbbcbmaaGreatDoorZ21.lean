/- Part 21 of the proof. -/
import Derived.Test.YtmbikbgdbbcbmaaGreatDoorY
import Derived.Test.YtmbikbgdbbcbmaaGreatDoorZ16
import Derived.Test.YtmbikbgdbbcbmaaGreatDoorZ20
set_option maxHeartbeats 8000000
set_option linter.unusedVariables false
open Go.Proofs.Tryz renaming prog→κ,f7→dg
open Go.DataW renaming weights→fd,weightsEach→ie
section
namespace Go.Proofs.YtmbikbgdbbcbmaaGreatDoor
open Go Go.Ax Go.ChangeShapes Go.WideShapes Go.ChangeAt Go.RowKit
set_option maxRecDepth 100000 in
theorem wZ(os:Os)(started:os.Started)(H:Type)(enc:TypeId × Value->H) :
  ReturnsInHanded {} Tryz.checked os 7 .any (λw args=>(Rows.trailAllWaysSpec.pre enc κ dg [] false w args/\laidMetH κ laid w)/\sizedMet enc κ dg (OpenSpec.ofChange Rows.trailAllWaysSpec) false w args)
   (Rows.trailAllWaysSpec.post enc κ dg false true false false):=by
 refine handed (X:=λw _=>laidMetH κ laid w) (λ_ _ _ hh h=>h.of_heap hh) own started (by kernel_rfl) Tryz.func7
  (ChangeSpec.witness_shaped (enc:=enc) (C:=Tryz.checked) (os:=os) (X:=λw _=>laidMetH κ laid w) false (World.laidAll κ os laid) #[.slice none 0 0,.agg #[.bool false,.string ⟨#[]⟩],.agg #[.bool false,.string ⟨#[]⟩]] 8 (World.laidAll_os _ _ _)
   (World.shaped_of_ZipB (by kernel_rfl) (by kernel_rfl)) (by kernel_rfl) (by kernel_rfl) (by kernel_rfl) (QX os _)) ?_
 intro W base args ds gs before hshape hval0 hW hsz0 hn;have hval:∀(j:Nat) t v,Tryz.f7.params[j]?=some t->args[j]?=some v->Value.okWide κ W .any base t v:=hval0;have hsz:(ie κ (Tryz.f7.params.toList++Rows.trailAllWaysSpec.plain.varTypes κ) (ds++gs)).all (· <= reachBytes)=true:=hsz0;have hW':=hW;obtain⟨p,q,hA0,hV,rfl,_,_⟩:=hW;have hA:DataW.TrodAll enc κ W 0 (λ_=>true) true Tryz.f7.params.toList args.toList ds p:=hA0;rw[Tryz.params7]at hA hval hsz;obtain⟨v0,vs0,d0,ds0,p0,q0,hargs,rfl,rfl,h0,r0⟩:=trodAll_cons hA;obtain⟨v1,vs1,d1,ds1,p1,q1,rfl,rfl,rfl,h1,r1⟩:=trodAll_cons r0;obtain⟨v2,vs2,d2,ds2,p2,q2,rfl,rfl,rfl,h2,r2⟩:=trodAll_cons r1;obtain⟨rfl,rfl,rfl⟩:=trodAll_nil r2;obtain⟨al⟩:=args;have hargs:al=[v0,v1,v2]:=hargs;subst hargs;obtain⟨rfl,rfl⟩:=trodVars_none hV;have hl0:∀x∈p0,x.block<W.heap.size:=λx hx=>hW'.lt x (by simp[hx]);have hl1:∀x∈p1,x.block<W.heap.size:=λx hx=>hW'.lt x (by simp[hx]);have hl2:∀x∈p2,x.block<W.heap.size:=λx hx=>hW'.lt x (by simp[hx])
 have hw0:(fd κ 22 d0).all (· <= reachBytes)=true:=by
  have:=hsz;simp only[ie,lg,ak,gy,ey,cz]at this;exact this.1
 have hw1:(fd κ 51 d1).all (· <= reachBytes)=true:=by
  have:=hsz;simp only[ie,lg,ak,gy,ey,cz]at this;exact this.2.1
 have hw2:(fd κ 51 d2).all (· <= reachBytes)=true:=by
  have:=hsz;simp only[ie,lg,ak,gy,ey,cz]at this;exact this.2.2.1
 obtain⟨xs0,l0,lv0,ll0,w0⟩:=ON (W:=W) (hval 0 22 v0 rfl rfl) h0 (hw0);obtain⟨x1,s1,rfl,l1⟩:=Gb (hval 1 51 v1 rfl rfl) h1 (hw1);obtain⟨x2,s2,rfl,l2⟩:=Gb (hval 2 51 v2 rfl rfl) h2 (hw2);simp only[gy]at hW';obtain⟨k,hrun⟩:=AJ xs0 l0 lv0 ll0 x1 (Ax.bytes s1) l1 x2 (Ax.bytes s2) l2;refine(R5 Aa rfl VU hshape hrun (.cons _ _ _ _ w0 (.cons _ _ _ _ (HI W x1 s1) (.cons _ _ _ _ (HI W x2 s2) .nil)))).mono λe W' ⟨he,hb⟩=>?_;subst he;exact⟨_,rfl,_,_,_,[],_,[],hW',trodAll_mk1 (shut_bool Tryz.underlying4 _),⟨p0,_,Below.trod laidOut (by kernel_rfl) (er (by kernel_rfl)) h0 hb hl0,⟨p1,_,Below.trod laidOut (by kernel_rfl) (er (by kernel_rfl)) h1 hb hl1,⟨p2,_,Below.trod laidOut (by kernel_rfl) (er (by kernel_rfl)) h2 hb hl2,rfl,rfl⟩,rfl⟩,rfl⟩,rfl,hb.frame _,λh=>by cases h⟩
end Go.Proofs.YtmbikbgdbbcbmaaGreatDoor
end
