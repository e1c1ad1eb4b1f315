/- AX: from a run in AX's eyes to a row of this seat. -/
import Derived.Test.YtmbhjdkbcgngiaaGreatDoorZ12
import Derived.Test.YtmbhjdkbcgngiaaGreatDoorZ13
import Derived.Test.YtmbhjdkbcgngiaaGreatDoorRows
import Derived.WalkKit
import Derived.ProofKit
import Derived.Shelf.Lay
import Derived.Lay
import Derived.LaidOnce
import Derived.LaidLaws
import Derived.PinnedBridge
import Derived.Carry
import Derived.Handed
set_option linter.unusedVariables false
namespace Go.Proofs.YtmbhjdkbcgngiaaGreatDoor
open Go Go.Ax Go.ChangeShapes Go.WideShapes Go.ChangeAt Go.RowKit
theorem spL_ok : spL.All (SpecOk Tryz.prog (ground.env .nil)) := ⟨⟨sok9, sok131⟩, ⟨sok155, ⟨sok233, sok273⟩⟩⟩
theorem le_env : EnvOk Tryz.prog LE := groundOk.envOk _
theorem le_fns : FnsOk Tryz.prog LE := groundOk.fnsOk spL_ok
set_option maxRecDepth 100000 in
/-- block 0 holds an integer -/
theorem maxAt {W : World} (h : W.ShapedOpen Tryz.prog) : ∃ m t fr, W.heap[0]? = some (.cells #[.int .i64 m] t fr) := by
  have hr : ((begin Tryz.prog (fun _ _ => 0) default).world.heap[0]?).bind Obj.row? = some (#[.int .i64 0], 3) := by kernel_rfl
  have hg : 0 < Tryz.prog.globals.size := of_decide_eq_true (by kernel_rfl)
  obtain ⟨cs, hc, hs, hok⟩ := h.1 0 _ _ hg hr
  obtain ⟨ts, h1, _, h3⟩ := hok (by kernel_rfl)
  have e1 : Tryz.prog.cellTypes Tryz.prog.depth 3 = some [3] := by kernel_rfl
  rw [e1] at h1
  have h1 := Option.some.inj h1
  subst h1
  have hs' : cs.size = 1 := hs
  obtain ⟨v, rfl⟩ : ∃ v, cs = #[v] := by
    obtain ⟨l⟩ := cs
    match l, hs' with
    | [v], _ => exact ⟨v, rfl⟩
  obtain ⟨u, hu, hv⟩ := h3 0 v rfl
  have hu : u = 3 := (Option.some.inj hu).symm
  subst hu
  have e2 : Tryz.prog.underlying 3 = some (.int .i64) := Tryz.underlying3
  have hv' : (match v with
    | .int k' n => k' = IntKind.i64 ∧ IntKind.has .i64 n
    | _ => False) := by
    unfold Cell.ok at hv
    rw [e2] at hv
    cases v <;> first | exact hv | exact hv.elim
  cases v with
  | int k n =>
    obtain ⟨rfl, _⟩ := hv'
    exact ⟨n, 3, _, hc⟩
  | _ => exact hv'.elim
/-- a call's start, in AX's eyes -/
def topCx (W : World) : Cx := ⟨W, [], fun _ => 0, fun _ => 0, fun _ => 0, fun k => k < W.heap.size⟩
theorem top_sr {W : World} (h : W.ShapedOpen Tryz.prog) {E : Env} (hE : E.gl = glMax) : SR E (topCx W) where
  inj := fun b b' ⟨o, ho, _⟩ => by cases ho
  obj := fun b o ho => by cases ho
  anc := fun b ⟨o, ho, _⟩ => by cases ho
  ancLt := fun k hk => hk
  gl := fun k p hk => by
    rw [hE] at hk
    obtain ⟨m, t, fr, h0⟩ := maxAt h
    cases k with
    | zero =>
      have hk : some (fun o => ∃ m t fr, o = Obj.cells #[.int .i64 m] t fr) = some p := hk
      have hk := Option.some.inj hk
      subst hk
      exact ⟨_, h0, ⟨m, t, fr, rfl⟩, fun ⟨b, ⟨o, ho, _⟩, _⟩ => by cases ho⟩
    | succ k => cases hk
theorem top_imm (W : World) (k : Nat) (hk : k < W.heap.size) : (topCx W).imm true k := ⟨hk, fun ⟨b, ⟨o, ho, _⟩, _⟩ => (by cases ho), fun h => (by cases h)⟩
theorem ax_calls {G : Ax.Ground Tryz.prog} (hG : GroundOk G) (hgl : G.gl = glMax) {s : BT (List V → Option V)} (hs : s.All (SpecOk Tryz.prog (G.env .nil))) {n f : Nat} {vs : List V} {W : World} (hW : W.ShapedOpen Tryz.prog) (h : Ax.call (G.env s) n f vs = some (.bool true)) {xs : List Value} (hv : VRs (topCx W) vs xs) :
    Calls Tryz.prog f xs.toArray W fun e W' => e = .returned (.bool true) ∧ Below W.heap.size W W' := by
  refine (call_sound (hG.envOk s) (hG.fnsOk hs) mixed h (d := topCx W) rfl (top_sr hW hgl) hv).mono ?_
  rintro e w' ⟨x, d', rfl, rfl, h1, h2, h3, h4⟩
  have hx := h4.bool_inv
  subst hx
  exact ⟨rfl, h2.os, h2.tape, h2.output, h2.size, fun k hk => (h2.keep k hk fun ⟨b, ⟨o, ho, _⟩, _⟩ => by cases ho).1⟩
set_option maxRecDepth 100000 in
/-- the row's step, with the shape of the start at hand -/
theorem handed {H : Type} {enc : TypeId × Value → H} {os : Os} {f : FuncId} {fn : Func} {s : ChangeSpec} {X : World → Array Value → Prop}
    (hX : ∀ (w w' : World) (args : Array Value), w.heap = w'.heap → X w args → X w' args)
    (own : ownKnob Tryz.checked.prog.godebug = none) (started : os.Started) (noInit : Tryz.checked.prog.inits.idxOf? f = none) (hfn : Tryz.checked.prog.funcs[f]? = some fn)
    (witness : ∃ (w : World) (tape : Tape) (i : Input), w.os = os ∧ (w.forCall tape i).Shaped Tryz.checked.prog ∧ i.vars = [] ∧ Input.okWide Tryz.checked.prog (w.forCall tape i) .any w.heap.size f i ∧
      ((s.pre enc Tryz.checked.prog fn [] false (w.forCall tape i).memory i.args ∧ X (w.forCall tape i).memory i.args) ∧ sizedMet enc Tryz.checked.prog fn (OpenSpec.ofChange s) false (w.forCall tape i).memory i.args) ∧ ({} : Assume).holds Tryz.checked.prog (lone (Frame.enter Tryz.checked.prog f i.args .normal) [] (w.forCall tape i)))
    (contract : ∀ (W : World) (base : Nat) (args : Array Value) (ds gs : List (DataW H)) (before : List MemPlace), W.ShapedOpen Tryz.checked.prog →
      (∀ (j : Nat) t v, fn.params[j]? = some t → args[j]? = some v → Value.okWide Tryz.checked.prog W .any base t v) →
      DataW.Whole enc Tryz.checked.prog fn.params.toList s.vars false W args.toList ds gs before →
      (DataW.weightsEach Tryz.checked.prog (fn.params.toList ++ s.plain.varTypes Tryz.checked.prog) (ds ++ gs)).all (· ≤ reachBytes) = true → args.size = fn.params.size →
      Calls Tryz.checked.prog f args W fun e W' => ∃ v, e = .returned v ∧ s.post enc Tryz.checked.prog fn false true false false W args v W') :
    ReturnsInHanded {} Tryz.checked os f .any (fun w args => (s.pre enc Tryz.checked.prog fn [] false w args ∧ X w args) ∧ sizedMet enc Tryz.checked.prog fn (OpenSpec.ofChange s) false w args) (s.post enc Tryz.checked.prog fn false true false false) := by
  refine returnsInHanded_of_calls own started noInit witness ?_
  intro w tape i _ hsh _ hok hpre hholds
  obtain ⟨_, _, _, fn', hfn', _, _, _, hsz, hval⟩ := hok
  have e : fn' = fn := Option.some.inj (hfn'.symm.trans hfn)
  subst e
  obtain ⟨⟨⟨ds, gs, before, hw, hc⟩, hx⟩, hz⟩ := hpre
  have hw' := DataW.Whole.of_heap (w' := w.forCall tape i) (by rfl) hw
  refine (contract (w.forCall tape i) w.heap.size i.args ds gs before hsh hval hw' (hz.weights hw) hsz).mono fun e W' ⟨v, he, hp⟩ => ?_
  subst he
  exact ChangeSpec.post_blind hp
theorem own : ownKnob Tryz.prog.godebug = none := by kernel_rfl
theorem laidOut : laidOutB Tryz.prog = true := by kernel_rfl
/-- what the rows lay -/
def laid : List (String × DataW Unit) := Rows.trailNoneRow.laid
set_option maxRecDepth 100000 in
theorem laid_plain (w : World) (h : laidMet Tryz.prog laid w) : laidMetH Tryz.prog laid w := by
  rw [MakeChecks.laidMetH_plain _ _ _ (by kernel_rfl)]; exact h
set_option maxRecDepth 100000 in
theorem laid_fits (os : Os) : (World.holding Tryz.prog os ⟨#[], #[], []⟩).layFits Tryz.prog laid [] = true := by kernel_rfl
set_option maxRecDepth 100000 in
theorem laid_ifaces (os : Os) : (World.holding Tryz.prog os ⟨#[], #[], []⟩).layIfaces Tryz.prog laid (World.laidAll Tryz.prog os laid) = true := by kernel_rfl
theorem laid_all (os : Os) (args : Array Value) : laidMetH Tryz.prog laid ((World.laidAll Tryz.prog os laid).forCall (fun _ _ => 0) ⟨#[], args, []⟩).memory :=
  laid_plain _ (laidMet_laidAll _ (laid_fits os) (laid_ifaces os))
end Go.Proofs.YtmbhjdkbcgngiaaGreatDoor
