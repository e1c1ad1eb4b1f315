/- AX: the transformer with its continuation as data: nothing under a binder, so that a rewriting goes straight on. -/
/- AX: the walk's simp set in one constant. -/
/- AX: sets of labels as rising lists: the plain law. -/
/- AX: what runs over labels need to know of an environment; slices of labels in AX's eyes. -/
/- AX: arguments of rows. -/
/- AX: labels: the drawn ones cut short; the reference's functions. -/
/- AX: labels: the reference's orders, equality. -/
/- AX: sets of labels in memory: putting labels in. -/
/- AX: sets of labels in memory: made, told, asked. -/
/- AX: sets of labels in memory: asked, joined. -/
/- AX: sets of labels as values: told, joined, compared. -/
/- AX: sets of labels compared, counted. -/
/- AX: sets of labels asked through closures; IndexFunc. -/
/- AX: DeleteFunc on labels of the caller's own. -/
/- AX: DeleteFunc on labels of the caller's own: what it comes to. -/
/- AX: what two sets share; one without the other. -/
/- AX: what sets come to, told by what is in them. -/
import Derived.Test.YtmbhjdkbcgngiaaGreatDoorZ12
import Derived.Test.YtmbhjdkbcgngiaaGreatDoorZ3
import Derived.Test.YtmbhjdkbcgngiaaGreatDoorZ13
import Derived.Test.YtmbhjdkbcgngiaaGreatDoorZ14
import Derived.Deep.SlicePairs
section
namespace Go.Ax
open Go
set_option linter.unusedVariables false
set_option linter.unusedSimpArgs false
theorem cast0 : ((0 : Nat) : Int) = 0 := rfl
theorem toNat0 : (0 : Int).toNat = 0 := rfl
theorem beq_ft : (false == true) = false := rfl
theorem beq_tf : (true == false) = false := rfl
inductive Kont where
  | k (c : Code) | blk (id : Nat) | lp (c : Code)
/-- what is left to be run -/
def M (E : Env) : List Kont → X → Fr → Sg → (X → Fr → Sg → Prop) → Prop
  | [], x, fr, σ, Q => Q x fr σ
  | .k c :: s, .normal, fr, σ, Q => Wp E c fr σ fun x fr σ => M E s x fr σ Q
  | .k _ :: s, x, fr, σ, Q => M E s x fr σ Q
  | .blk id :: s, .exit i, fr, σ, Q => if i = id then M E s .normal fr σ Q else M E s (.exit i) fr σ Q
  | .blk _ :: s, x, fr, σ, Q => M E s x fr σ Q
  | .lp c :: s, .normal, fr, σ, Q => Wp E (.loop c) fr σ fun x fr σ => M E s x fr σ Q
  | .lp _ :: s, x, fr, σ, Q => M E s x fr σ Q
def R (E : Env) (c : Code) (s : List Kont) (fr : Fr) (σ : Sg) (Q : X → Fr → Sg → Prop) : Prop := Wp E c fr σ fun x fr σ => M E s x fr σ Q
def RunK (E : Env) (ops : Array Oper) (l : List Oper) (st : Option (Fr × Sg)) (s : List Kont) (Q : X → Fr → Sg → Prop) : Prop := match st with
  | some (fr, σ) => WpOps E ops l fr σ fun fr σ => M E s .normal fr σ Q
  | none => False
def pst (dst : Option Nat) (fr : Fr) (o : Option (V × Sg)) : Option (Fr × Sg) := match o with
  | some (v, σ) => some (putS fr dst v, σ)
  | none => none
def CallK (E : Env) (f : Nat) (args : List V) (σ : Sg) (dst : Option Nat) (fr : Fr) (ops : Array Oper) (l : List Oper) (s : List Kont) (Q : X → Fr → Sg → Prop) : Prop := WpCall E f args σ fun v σ => RunK E ops l (some (putS fr dst v, σ)) s Q
section
variable {E : Env} {s : List Kont} {fr : Fr} {σ : Sg} {Q : X → Fr → Sg → Prop}
theorem r_start {c : Code} : Wp E c fr σ Q = R E c [] fr σ Q := rfl
theorem m_nil {x : X} : M E [] x fr σ Q = Q x fr σ := rfl
theorem m_k {c : Code} : M E (.k c :: s) .normal fr σ Q = R E c s fr σ Q := rfl
theorem m_k_exit {c : Code} {i : Nat} : M E (.k c :: s) (.exit i) fr σ Q = M E s (.exit i) fr σ Q := rfl
theorem m_k_ret {c : Code} : M E (.k c :: s) .ret fr σ Q = M E s .ret fr σ Q := rfl
theorem m_blk {id : Nat} : M E (.blk id :: s) .normal fr σ Q = M E s .normal fr σ Q := rfl
theorem m_blk_exit {id i : Nat} : M E (.blk id :: s) (.exit i) fr σ Q = if i = id then M E s .normal fr σ Q else M E s (.exit i) fr σ Q := rfl
theorem m_blk_ret {id : Nat} : M E (.blk id :: s) .ret fr σ Q = M E s .ret fr σ Q := rfl
theorem m_lp {c : Code} : M E (.lp c :: s) .normal fr σ Q = R E (.loop c) s fr σ Q := rfl
theorem m_lp_exit {c : Code} {i : Nat} : M E (.lp c :: s) (.exit i) fr σ Q = M E s (.exit i) fr σ Q := rfl
theorem m_lp_ret {c : Code} : M E (.lp c :: s) .ret fr σ Q = M E s .ret fr σ Q := rfl
theorem r_skip : R E .skip s fr σ Q = M E s .normal fr σ Q := wp_skip
theorem r_exit {i : Nat} : R E (.exit i) s fr σ Q = M E s (.exit i) fr σ Q := wp_exit
theorem r_ret : R E .ret s fr σ Q = M E s .ret fr σ Q := wp_ret
theorem r_seq {a b : Code} : R E (.seq a b) s fr σ Q = R E a (.k b :: s) fr σ Q := by
  unfold R
  rw [wp_seq]
  congr 1
  funext x fr σ
  cases x <;> rfl
theorem r_block {id : Nat} {c : Code} : R E (.block id c) s fr σ Q = R E c (.blk id :: s) fr σ Q := by
  unfold R
  rw [wp_block]
  congr 1
  funext x fr σ
  cases x <;> rfl
theorem r_loop {c : Code} : R E (.loop c) s fr σ Q = R E c (.lp c :: s) fr σ Q := by
  unfold R
  rw [wp_loop]
  congr 1
  funext x fr σ
  cases x <;> rfl
def boolOf (o : Option V) : Option Bool := match o with
  | some (.bool b) => some b
  | _ => none
theorem boolOf_bool {b : Bool} : boolOf (some (.bool b)) = some b := rfl
theorem r_cond {c : Operand} {t e : Code} : R E (.cond c t e) s fr σ Q = if boolOf (evalO fr c) = some true then R E t s fr σ Q else if boolOf (evalO fr c) = some false then R E e s fr σ Q else False := by
  unfold R
  rw [wp_cond]
  cases evalO fr c with
  | none => rfl
  | some v =>
    cases v with
    | bool b => cases b <;> rfl
    | _ => rfl
theorem r_reg {id : Nat} {l : List Oper} : R E (.region id l.toArray false) s fr σ Q = RunK E l.toArray l (some (fr, σ)) s Q := wp_reg
theorem r_undraw {c : Code} (h : isPlainDraw E c = true) : R E c s fr σ Q = R E (undraw c) s fr σ Q := wp_undraw h
variable {ops : Array Oper} {l : List Oper} {dst : Option Nat} {ty : Nat} {pos : String} {after : Array Edge}
theorem k_none : RunK E ops l none s Q = False := rfl
theorem k_nil : RunK E ops [] (some (fr, σ)) s Q = M E s .normal fr σ Q := wpOps_nil
theorem k_guard {op : Op} {j : Nat} {w : Bool} : RunK E ops (⟨dst, op, ty, pos, after, some (j, w)⟩ :: l) (some (fr, σ)) s Q = if yielded ops fr j = some w then RunK E ops (⟨dst, op, ty, pos, after, none⟩ :: l) (some (fr, σ)) s Q else RunK E ops l (some (putS fr dst .undef, σ)) s Q := by
  show WpOps E ops (⟨dst, op, ty, pos, after, some (j, w)⟩ :: l) fr σ _ = _
  rw [wpOps_cons]
  by_cases h : yielded ops fr j = some w
  · rw [if_pos h, if_pos (by show (yielded ops fr j == some w) = true; rw [h]; simp)]
    exact wpOps_go.symm
  · rw [if_neg h, if_neg]
    · rfl
    · intro g
      have g : (yielded ops fr j == some w) = true := g
      exact h (by simpa using g)
theorem k_of {op : Op} {o : Option (V × Sg)} (h : ∀ K, WpOp E op fr σ K = (match o with
    | some (v, σ) => K v σ
    | none => False)) : RunK E ops (⟨dst, op, ty, pos, after, none⟩ :: l) (some (fr, σ)) s Q = RunK E ops l (pst dst fr o) s Q := by
  show WpOps E ops (⟨dst, op, ty, pos, after, none⟩ :: l) fr σ _ = _
  rw [wpOps_go, h]
  cases o with
  | none => rfl
  | some y => rfl
theorem k_move {x : Operand} : RunK E ops (⟨dst, .move x, ty, pos, after, none⟩ :: l) (some (fr, σ)) s Q = RunK E ops l (pst dst fr ((evalO fr x).map (·, σ))) s Q := k_of fun _ => wpOp_move
theorem k_assign {x : Operand} : RunK E ops (⟨dst, .assign x, ty, pos, after, none⟩ :: l) (some (fr, σ)) s Q = RunK E ops l (pst dst fr ((evalO fr x).map (·, σ))) s Q := k_of fun _ => wpOp_assign
theorem k_pick {c a b : Operand} : RunK E ops (⟨dst, .pick c a b, ty, pos, after, none⟩ :: l) (some (fr, σ)) s Q = RunK E ops l (pst dst fr (oPick E fr σ c a b)) s Q := k_of fun _ => wpOp_pick
theorem k_alloc {e : Nat} : RunK E ops (⟨dst, .alloc e, ty, pos, after, none⟩ :: l) (some (fr, σ)) s Q = RunK E ops l (pst dst fr (oAlloc E fr σ e)) s Q := k_of fun _ => wpOp_alloc
theorem k_box {e : Nat} {x : Operand} : RunK E ops (⟨dst, .box e x, ty, pos, after, none⟩ :: l) (some (fr, σ)) s Q = RunK E ops l (pst dst fr (oBox E fr σ e x)) s Q := k_of fun _ => wpOp_box
theorem k_build {t : Nat} {parts : Array (Nat × Operand)} : RunK E ops (⟨dst, .build t parts, ty, pos, after, none⟩ :: l) (some (fr, σ)) s Q = RunK E ops l (pst dst fr (oBuild E fr σ t parts)) s Q := k_of fun _ => wpOp_build
theorem k_buildSlice {t len : Nat} {parts : Array (Nat × Operand)} : RunK E ops (⟨dst, .buildSlice t len parts, ty, pos, after, none⟩ :: l) (some (fr, σ)) s Q = RunK E ops l (pst dst fr (oBuildSlice E fr σ t len parts)) s Q := k_of fun _ => wpOp_buildSlice
theorem k_load {t : Nat} {a : Operand} : RunK E ops (⟨dst, .load t a, ty, pos, after, none⟩ :: l) (some (fr, σ)) s Q = RunK E ops l (pst dst fr (oLoad E fr σ t a)) s Q := k_of fun _ => wpOp_load
theorem k_store {t : Nat} {a x : Operand} : RunK E ops (⟨dst, .store t a x, ty, pos, after, none⟩ :: l) (some (fr, σ)) s Q = RunK E ops l (pst dst fr (oStore E fr σ t a x)) s Q := k_of fun _ => wpOp_store
theorem k_nilCheck {x : Operand} : RunK E ops (⟨dst, .nilCheck x, ty, pos, after, none⟩ :: l) (some (fr, σ)) s Q = RunK E ops l (pst dst fr (oNilCheck E fr σ x)) s Q := k_of fun _ => wpOp_nilCheck
theorem k_binOp {op : BinOp} {t : Nat} {x y : Operand} {u : Nat} : RunK E ops (⟨dst, .binOp op t x y u, ty, pos, after, none⟩ :: l) (some (fr, σ)) s Q = RunK E ops l (pst dst fr (oBinOp E fr σ op t x y)) s Q := k_of fun _ => wpOp_binOp
theorem k_unOp {op : UnOp} {t : Nat} {x : Operand} : RunK E ops (⟨dst, .unOp op t x, ty, pos, after, none⟩ :: l) (some (fr, σ)) s Q = RunK E ops l (pst dst fr (oUnOp E fr σ op x)) s Q := k_of fun _ => wpOp_unOp
theorem k_convert {u d : Nat} {x : Operand} : RunK E ops (⟨dst, .convert u d x, ty, pos, after, none⟩ :: l) (some (fr, σ)) s Q = RunK E ops l (pst dst fr (oConvert E fr σ u d x)) s Q := k_of fun _ => wpOp_convert
theorem k_range {t : Nat} {x : Operand} : RunK E ops (⟨dst, .range t x, ty, pos, after, none⟩ :: l) (some (fr, σ)) s Q = RunK E ops l (pst dst fr (oRange E fr σ t x)) s Q := k_of fun _ => wpOp_range
theorem k_makeInterface {t : Nat} {x : Operand} : RunK E ops (⟨dst, .makeInterface t x, ty, pos, after, none⟩ :: l) (some (fr, σ)) s Q = RunK E ops l (pst dst fr (oMakeInterface E fr σ t x)) s Q := k_of fun _ => wpOp_makeInterface
theorem k_makeMap {t : Nat} {r : Option Operand} : RunK E ops (⟨dst, .makeMap t r, ty, pos, after, none⟩ :: l) (some (fr, σ)) s Q = RunK E ops l (pst dst fr (oMakeMap E fr σ t r)) s Q := k_of fun _ => wpOp_makeMap
theorem k_makeSlice {t : Nat} {a c : Operand} : RunK E ops (⟨dst, .makeSlice t a c, ty, pos, after, none⟩ :: l) (some (fr, σ)) s Q = RunK E ops l (pst dst fr (oMakeSlice E fr σ t a c)) s Q := k_of fun _ => wpOp_makeSlice
theorem k_slice {t : Nat} {x : Operand} {lo hi mx : Option Operand} : RunK E ops (⟨dst, .slice t x lo hi mx, ty, pos, after, none⟩ :: l) (some (fr, σ)) s Q = RunK E ops l (pst dst fr (oSlice E fr σ t x lo hi mx)) s Q := k_of fun _ => wpOp_slice
theorem k_fieldAddr {t : Nat} {x : Operand} {f : Nat} : RunK E ops (⟨dst, .fieldAddr t x f, ty, pos, after, none⟩ :: l) (some (fr, σ)) s Q = RunK E ops l (pst dst fr (oFieldAddr E fr σ t x f)) s Q := k_of fun _ => wpOp_fieldAddr
theorem k_field {t : Nat} {x : Operand} {f : Nat} : RunK E ops (⟨dst, .field t x f, ty, pos, after, none⟩ :: l) (some (fr, σ)) s Q = RunK E ops l (pst dst fr (oField E fr σ t x f)) s Q := k_of fun _ => wpOp_field
theorem k_indexAddr {t : Nat} {x i : Operand} : RunK E ops (⟨dst, .indexAddr t x i, ty, pos, after, none⟩ :: l) (some (fr, σ)) s Q = RunK E ops l (pst dst fr (oIndexAddr E fr σ t x i)) s Q := k_of fun _ => wpOp_indexAddr
theorem k_index {t : Nat} {x i : Operand} : RunK E ops (⟨dst, .index t x i, ty, pos, after, none⟩ :: l) (some (fr, σ)) s Q = RunK E ops l (pst dst fr (oIndex E fr σ t x i)) s Q := k_of fun _ => wpOp_index
theorem k_lookup {t : Nat} {x k : Operand} {ok : Bool} : RunK E ops (⟨dst, .lookup t x k ok, ty, pos, after, none⟩ :: l) (some (fr, σ)) s Q = RunK E ops l (pst dst fr (oLookup E fr σ t x k ok)) s Q := k_of fun _ => wpOp_lookup
theorem k_mapUpdate {t : Nat} {m k x : Operand} : RunK E ops (⟨dst, .mapUpdate t m k x, ty, pos, after, none⟩ :: l) (some (fr, σ)) s Q = RunK E ops l (pst dst fr (oMapUpdate E fr σ t m k x)) s Q := k_of fun _ => wpOp_mapUpdate
theorem k_extract {t : Operand} {i : Nat} : RunK E ops (⟨dst, .extract t i, ty, pos, after, none⟩ :: l) (some (fr, σ)) s Q = RunK E ops l (pst dst fr (oExtract E fr σ t i)) s Q := k_of fun _ => wpOp_extract
theorem k_next {x : Operand} : RunK E ops (⟨dst, .next x true, ty, pos, after, none⟩ :: l) (some (fr, σ)) s Q = RunK E ops l (pst dst fr (oNext E fr σ x)) s Q := k_of fun _ => wpOp_next
theorem k_makeFunc {f : Nat} {a b : Array Operand} : RunK E ops (⟨dst, .makeFunc (.func f) a b, ty, pos, after, none⟩ :: l) (some (fr, σ)) s Q = RunK E ops l (pst dst fr (oMakeFunc E fr σ f a b)) s Q := k_of fun _ => wpOp_makeFunc
theorem k_builtin {b : Builtin} {args : Array Operand} {ats : Array Nat} : RunK E ops (⟨dst, .call { callee := .builtin b, args := args, argTypes := ats }, ty, pos, after, none⟩ :: l) (some (fr, σ)) s Q = RunK E ops l (pst dst fr (oBuiltin E fr σ b args ats)) s Q := k_of fun _ => wpOp_builtin
theorem k_call {f : Operand} {args : List Operand} {ats : Array Nat} : RunK E ops (⟨dst, .call { callee := .value f, args := args.toArray, argTypes := ats }, ty, pos, after, none⟩ :: l) (some (fr, σ)) s Q = match evalO fr f, evalOs fr args with
    | some (.fn k first cap), some l' => CallK E k (first ++ l' ++ cap) σ dst fr ops l s Q
    | _, _ => False := by
  show WpOps E ops (⟨dst, .call { callee := .value f, args := args.toArray, argTypes := ats }, ty, pos, after, none⟩ :: l) fr σ _ = _
  rw [wpOps_go, wpOp_call]
  rfl
theorem callK {f : Nat} {args : List V} {K : (V → Sg → Prop) → Prop} (h : ∀ K', WpCall E f args σ K' = K K') : CallK E f args σ dst fr ops l s Q = K fun v σ => RunK E ops l (some (putS fr dst v, σ)) s Q := h _
theorem callK_of {f : Nat} {args : List V} {v : V} {σ' : Sg} (h : ∀ K, WpCall E f args σ K = K v σ') : CallK E f args σ dst fr ops l s Q = RunK E ops l (some (putS fr dst v, σ')) s Q := h _
/-- a call by its contract -/
theorem callK_intro {f : Nat} {args : List V} {P : V → Sg → Prop} (h : WpCall E f args σ P) (hp : ∀ v σ', P v σ' → RunK E ops l (some (putS fr dst v, σ')) s Q) : CallK E f args σ dst fr ops l s Q := h.mono hp
end
/-- a drawn region that has been run -/
theorem r_drawn {E : Env} {s : List Kont} {fr fr' : Fr} {σ σ' : Sg} {Q : X → Fr → Sg → Prop} {id n : Nat} {ops : Array Oper} (h : evDraw E (ev E n) ops fr σ = some (fr', σ')) : R E (.region id ops true) s fr σ Q = M E s .normal fr' σ' Q := by
  unfold R
  rw [wp_draw]
  refine propext ⟨fun ⟨m, fr1, σ1, h1, hq⟩ => ?_, fun hq => ⟨n, fr', σ', h, hq⟩⟩
  have a := evDraw_mono (ev_mono E (Nat.le_max_left n m)) h
  rw [evDraw_mono (ev_mono E (Nat.le_max_right n m)) h1] at a
  cases a
  exact hq
/-- a function's body, at arguments -/
def EndK (E : Env) (rs : List ResultVar) (K : V → Sg → Prop) (x : X) (fr : Fr) (σ : Sg) : Prop := match x with
  | .exit _ => False
  | _ => ret1 E rs K fr σ
theorem end_ret {E : Env} {rs : List ResultVar} {K : V → Sg → Prop} {fr : Fr} {σ : Sg} : EndK E rs K .ret fr σ = ret1 E rs K fr σ := rfl
theorem end_normal {E : Env} {rs : List ResultVar} {K : V → Sg → Prop} {fr : Fr} {σ : Sg} : EndK E rs K .normal fr σ = ret1 E rs K fr σ := rfl
theorem enterK {E : Env} {F : Fn} {args : List V} {σ : Sg} {K : V → Sg → Prop} {fr : Fr} (h : Fr.init F.ntmps args = some fr) : WpEnter E F args σ K = R E F.code [] fr σ (EndK E F.results K) := by
  unfold WpEnter
  rw [h]
  show Wp E F.code fr σ _ = Wp E F.code fr σ _
  congr 1
def FT.fill (F : FT) (i : Nat) : List V → FT
  | [] => F
  | v :: r => FT.fill (FT.set F i v) (i + 1) r
theorem fill_eq {n : Nat} : ∀ (l : List V) (F : FT) (i : Nat), i + l.length ≤ n → Fr.fill ⟨n, F⟩ i l = ⟨n, FT.fill F i l⟩
  | [], _, _, _ => rfl
  | v :: l, F, i, h => by
    simp only [List.length_cons] at h
    rw [Fr.fill, Fr.put_mk, if_pos (by omega), fill_eq l _ _ (by omega)]
    rfl
theorem enterF {E : Env} {F : Fn} {args : List V} {σ : Sg} {K : V → Sg → Prop} (h : Nat.ble args.length F.ntmps = true) : WpEnter E F args σ K = R E F.code [] ⟨F.ntmps, FT.fill .leaf 0 args⟩ σ (EndK E F.results K) := by
  refine enterK ?_
  unfold Fr.init
  rw [h]
  dsimp only
  rw [fill_eq _ _ _ (by rw [Nat.zero_add]; exact Nat.le_of_ble_eq_true h)]
end Go.Ax
end
section
set_option maxRecDepth 10000
namespace Go.Proofs.YtmbhjdkbcgngiaaGreatDoor
open Go Go.Ax
abbrev KP := (And.intro (And.intro (And.intro (And.intro (And.intro (And.intro (And.intro (And.intro @Ax.cast0 @Ax.toNat0) (And.intro @Ax.beq_ft @Ax.beq_tf)) (And.intro (And.intro @Ax.m_nil @Ax.m_k) (And.intro @Ax.m_k_exit @Ax.m_k_ret))) (And.intro (And.intro (And.intro @Ax.m_blk @Ax.m_blk_exit) (And.intro @Ax.m_blk_ret @Ax.m_lp)) (And.intro (And.intro @Ax.m_lp_exit @Ax.m_lp_ret) (And.intro @Ax.r_skip @Ax.r_exit)))) (And.intro (And.intro (And.intro (And.intro @Ax.r_ret @Ax.r_seq) (And.intro @Ax.r_block @Ax.r_cond)) (And.intro (And.intro @Ax.r_reg @Ax.boolOf_bool) (And.intro @Ax.end_ret @Ax.end_normal))) (And.intro (And.intro (And.intro @Ax.k_move @Ax.k_assign) (And.intro @Ax.k_pick @Ax.k_alloc)) (And.intro (And.intro @Ax.k_box @Ax.k_build) (And.intro @Ax.k_buildSlice @Ax.k_load))))) (And.intro (And.intro (And.intro (And.intro (And.intro @Ax.k_store @Ax.k_nilCheck) (And.intro @Ax.k_binOp @Ax.k_unOp)) (And.intro (And.intro @Ax.k_convert @Ax.k_range) (And.intro @Ax.k_next @Ax.k_makeInterface))) (And.intro (And.intro (And.intro @Ax.k_makeFunc @Ax.k_makeMap) (And.intro @Ax.k_makeSlice @Ax.k_slice)) (And.intro (And.intro @Ax.k_fieldAddr @Ax.k_field) (And.intro @Ax.k_indexAddr @Ax.k_index)))) (And.intro (And.intro (And.intro (And.intro @Ax.k_lookup @Ax.k_mapUpdate) (And.intro @Ax.k_extract @Ax.k_builtin)) (And.intro (And.intro @Ax.k_call @Ax.k_guard) (And.intro @Ax.k_nil @Ax.k_none))) (And.intro (And.intro (And.intro @Ax.Fr.put_mk @Ax.Fr.get_mk) (And.intro @Ax.FT.get_set @Ax.FT.get_leaf)) (And.intro (And.intro @if_true.{1} @if_false.{1}) (And.intro @ite_true.{1} @ite_false.{1})))))) (And.intro (And.intro (And.intro (And.intro (And.intro (And.intro @true_and @and_true) (And.intro @false_and @and_false)) (And.intro (And.intro @Option.map_some.{0, 0} @Option.map_none.{0, 0}) (And.intro @Option.bind_some.{0, 0} @Option.bind_none.{0, 0}))) (And.intro (And.intro (And.intro @Option.some.injEq.{0} @Option.getD_some.{0}) (And.intro @Option.getD_none.{0} @Option.isSome_some.{0})) (And.intro (And.intro @Option.isSome_none.{0} @List.getElem?_cons_zero.{0}) (And.intro @List.getElem?_cons_succ.{0} @List.getElem?_nil.{0})))) (And.intro (And.intro (And.intro (And.intro @List.getElem?_toArray.{0} @Bool.not_true) (And.intro @Bool.not_false @Bool.or_self)) (And.intro (And.intro @Bool.or_false @Bool.false_or) (And.intro @Bool.or_true @Bool.true_or))) (And.intro (And.intro (And.intro @Bool.false_eq_true @Bool.true_eq_false) (And.intro @Bool.true_and @Bool.and_true)) (And.intro (And.intro @Bool.false_and @Bool.and_false) (And.intro @Bool.and_self @BEq.rfl.{0}))))) (And.intro (And.intro (And.intro (And.intro (And.intro @beq_self_eq_true.{0} @decide_true) (And.intro @decide_false @Nat.beq_refl)) (And.intro (And.intro @List.length_cons.{0} @List.length_nil.{0}) (And.intro @List.take_zero.{0} @List.take_succ_cons.{0}))) (And.intro (And.intro (And.intro @List.take_nil.{0} @List.drop_zero.{0}) (And.intro @List.drop_succ_cons.{0} @List.drop_nil.{0})) (And.intro (And.intro @List.append_eq.{0} @List.nil_append.{0}) (And.intro @List.cons_append.{0} @List.append_nil.{0})))) (And.intro (And.intro (And.intro (And.intro @List.set_cons_zero.{0} @List.set_cons_succ.{0}) (And.intro @Nat.zero_add @Nat.add_zero)) (And.intro (And.intro @List.all_cons.{0} @List.all_nil.{0}) (And.intro @List.head?_cons.{0} @Nat.le_refl))) (And.intro (And.intro (And.intro @Int.natCast_nonneg @eqI_eq) (And.intro @ltI_eq @leI_eq)) (And.intro (And.intro @addI_eq @subI_eq) (And.intro @beq_iff_eq.{0} (And.intro @Bool.not_eq_true @ne_eq.{1})))))))) (And.intro (And.intro (And.intro (And.intro (And.intro (And.intro (And.intro @not_true_eq_false @not_false_eq_true) (And.intro @gt_iff_lt.{0} @Nat.lt_irrefl)) (And.intro (And.intro @Ax.FT.fill.eq_1 @Ax.FT.fill.eq_2) (And.intro @Ax.pst.eq_1 @Ax.pst.eq_2))) (And.intro (And.intro (And.intro @Ax.yielded.eq_1 @Ax.evalO.eq_1) (And.intro @Ax.evalO.eq_2 @Ax.evalO.eq_3)) (And.intro (And.intro @Ax.evalO.eq_4 @Ax.evalOs.eq_1) (And.intro @Ax.evalOs.eq_2 @Ax.evalPs.eq_1)))) (And.intro (And.intro (And.intro (And.intro @Ax.evalPs.eq_2 @Ax.evalX.eq_1) (And.intro @Ax.evalX.eq_2 @Ax.ofValue.eq_1)) (And.intro (And.intro @Ax.ofValue.eq_2 @Ax.ofValue1.eq_1) (And.intro @Ax.ofValue1.eq_2 @Ax.ofValue1.eq_3))) (And.intro (And.intro (And.intro @Ax.ofValue1.eq_4 @Ax.ofValue1.eq_5) (And.intro @Ax.ofValue1.eq_6 @Ax.ofValue1.eq_7)) (And.intro (And.intro @Ax.ofValue1.eq_8 @Ax.ofValue1.eq_9) (And.intro @Ax.ofValues.eq_1 @Ax.ofValues.eq_2))))) (And.intro (And.intro (And.intro (And.intro (And.intro @Ax.putS.eq_1 @Ax.putS.eq_2) (And.intro @Ax.oPick.eq_1 @Ax.oAlloc.eq_1)) (And.intro (And.intro @Ax.oBox.eq_1 @Ax.oBuild.eq_1) (And.intro @Ax.oBuildSlice.eq_1 @Ax.oLoad.eq_1))) (And.intro (And.intro (And.intro @Ax.oStore.eq_1 @Ax.oNilCheck.eq_1) (And.intro @Ax.oBinOp.eq_1 @Ax.oUnOp.eq_1)) (And.intro (And.intro @Ax.oConvert.eq_1 @Ax.oMakeInterface.eq_1) (And.intro @Ax.oMakeFunc.eq_1 @Ax.oMakeMap.eq_1)))) (And.intro (And.intro (And.intro (And.intro @Ax.oMakeSlice.eq_1 @Ax.oSlice.eq_1) (And.intro @Ax.oFieldAddr.eq_1 @Ax.oField.eq_1)) (And.intro (And.intro @Ax.oIndexAddr.eq_1 @Ax.oIndex.eq_1) (And.intro @Ax.oLookup.eq_1 @Ax.oMapUpdate.eq_1))) (And.intro (And.intro (And.intro @Ax.oExtract.eq_1 @Ax.oBuiltin.eq_1) (And.intro @Ax.builtin.eq_1 @Ax.builtin.eq_2)) (And.intro (And.intro @Ax.builtin.eq_3 @Ax.builtin.eq_4) (And.intro @Ax.builtin.eq_5 (And.intro @Ax.builtin.eq_6 @Ax.builtin.eq_7))))))) (And.intro (And.intro (And.intro (And.intro (And.intro (And.intro @Ax.builtin.eq_8 @Ax.builtin.eq_9) (And.intro @Ax.builtin.eq_10 @Ax.builtin.eq_11)) (And.intro (And.intro @Ax.builtin.eq_12 @Ax.isAgg.eq_1) (And.intro @Ax.isAgg.eq_2 @Ax.isAgg.eq_3))) (And.intro (And.intro (And.intro @Ax.isAggV.eq_1 @Ax.isAggV.eq_2) (And.intro @Ax.isAggV.eq_3 @Ax.fieldAddr.eq_1)) (And.intro (And.intro @Ax.field.eq_1 @Ax.field.eq_2) (And.intro @Ax.part.eq_1 @Ax.bin.eq_1)))) (And.intro (And.intro (And.intro (And.intro @Ax.bin.eq_2 @Ax.bin.eq_3) (And.intro @Ax.bin.eq_4 @Ax.bin.eq_5)) (And.intro (And.intro @Ax.bin.eq_6 @Ax.bin.eq_7) (And.intro @Ax.strOp.eq_1 @Ax.strOp.eq_2))) (And.intro (And.intro (And.intro @Ax.strOp.eq_3 @Ax.strOp.eq_4) (And.intro @Ax.strOp.eq_5 @Ax.strOp.eq_6)) (And.intro (And.intro @Ax.strOp.eq_7 @Ax.strOp.eq_8) (And.intro @Ax.arith.eq_1 @Ax.arith.eq_2))))) (And.intro (And.intro (And.intro (And.intro (And.intro @Ax.arith.eq_3 @Ax.arith.eq_4) (And.intro @Ax.arith.eq_5 @Ax.arith.eq_6)) (And.intro (And.intro @Ax.arith.eq_7 @Ax.arith.eq_8) (And.intro @Ax.arith.eq_9 @Ax.arith.eq_10))) (And.intro (And.intro (And.intro @Ax.arith.eq_11 @Ax.arith.eq_12) (And.intro @Ax.arith.eq_13 @Ax.arith.eq_14)) (And.intro (And.intro @Ax.arith.eq_15 @Ax.arith.eq_16) (And.intro @Ax.unop.eq_1 @Ax.unop.eq_2)))) (And.intro (And.intro (And.intro (And.intro @Ax.unop.eq_3 @Ax.isConst.eq_1) (And.intro @Ax.isConst.eq_2 @Ax.V.okCell.eq_1)) (And.intro (And.intro @Ax.V.okCell.eq_2 @Ax.V.okCell.eq_3) (And.intro @Ax.V.okCell.eq_4 @Ax.V.cells.eq_1))) (And.intro (And.intro (And.intro @Ax.V.cells.eq_2 @Ax.setCells.eq_1) (And.intro @Ax.ret1.eq_1 @Ax.results.eq_1)) (And.intro (And.intro @Ax.results.eq_2 @Ax.results.eq_3) (And.intro @Ax.Fr.init.eq_1 (And.intro @Ax.Fr.fill.eq_1 @Ax.Fr.fill.eq_2)))))))))
end Go.Proofs.YtmbhjdkbcgngiaaGreatDoor
end
section
namespace Go.AxS
open Go Go.Ax
theorem slt_irrefl : ∀ s, slt s s = false
  | [] => rfl
  | a :: s => by rw [slt_cons]; simp [slt_irrefl s]
theorem slt_trans : ∀ s t u, slt s t = true → slt t u = true → slt s u = true
  | _, [], _, h, _ => by cases ‹List Nat› <;> simp [slt] at h
  | _, _ :: _, [], _, h => by simp [slt] at h
  | [], b :: t, c :: u, _, _ => rfl
  | a :: s, b :: t, c :: u, h1, h2 => by
    rw [slt_cons] at h1 h2 ⊢
    simp only [Bool.or_eq_true, Bool.and_eq_true, decide_eq_true_eq] at h1 h2 ⊢
    rcases h1 with h1 | ⟨rfl, h1⟩
    · rcases h2 with h2 | ⟨rfl, h2⟩
      · exact .inl (by omega)
      · exact .inl h1
    · rcases h2 with h2 | ⟨rfl, h2⟩
      · exact .inl h2
      · exact .inr ⟨rfl, slt_trans s t u h1 h2⟩
theorem slt_total : ∀ s t, slt s t = false → slt t s = false → s = t
  | [], [], _, _ => rfl
  | [], _ :: _, h, _ => by simp [slt] at h
  | _ :: _, [], _, h => by simp [slt] at h
  | a :: s, b :: t, h1, h2 => by
    rw [slt_cons] at h1 h2
    simp only [Bool.or_eq_false_iff, Bool.and_eq_false_iff, decide_eq_false_iff_not] at h1 h2
    have e : a = b := by omega
    subst e
    rw [slt_total s t (h1.2.resolve_left (fun h => h rfl)) (h2.2.resolve_left (fun h => h rfl))]
theorem seq_iff : ∀ s t : List Nat, Ax.seq s t = true ↔ s = t
  | [], [] => by simp [Ax.seq]
  | [], _ :: _ => by simp [Ax.seq]
  | _ :: _, [] => by simp [Ax.seq]
  | a :: s, b :: t => by rw [seq_cons]; simp [seq_iff s t]
theorem seq_dec (s t : List Nat) : Ax.seq s t = decide (s = t) := by
  rw [Bool.eq_iff_iff, seq_iff]; simp

/-! ### labels -/
abbrev Lab := Bool × List Nat
def row (x : Lab) : List V := [.bool x.1, .str x.2]
def lt (x y : Lab) : Bool := match x.1, y.1 with
  | false, true => true
  | true, false => false
  | _, _ => slt x.2 y.2
theorem lt_row (x y : Lab) : labLt (row x) (row y) = lt x y := by
  obtain ⟨a, s⟩ := x; obtain ⟨b, t⟩ := y
  cases a <;> cases b <;> rfl
theorem row_inj {x y : Lab} (h : row x = row y) : x = y := by
  obtain ⟨a, s⟩ := x; obtain ⟨b, t⟩ := y
  simp only [row, List.cons.injEq, V.bool.injEq, V.str.injEq, and_true] at h
  rw [h.1, h.2]
theorem lt_irrefl (x : Lab) : lt x x = false := by
  obtain ⟨a, s⟩ := x
  cases a <;> exact slt_irrefl s
theorem lt_trans (x y z : Lab) (h1 : lt x y = true) (h2 : lt y z = true) : lt x z = true := by
  obtain ⟨a, s⟩ := x; obtain ⟨b, t⟩ := y; obtain ⟨c, u⟩ := z
  cases a <;> cases b <;> cases c <;> simp only [lt] at h1 h2 ⊢ <;> first | exact slt_trans _ _ _ h1 h2 | rfl | exact absurd h1 Bool.false_ne_true | exact absurd h2 Bool.false_ne_true
theorem lt_total (x y : Lab) (h1 : lt x y = false) (h2 : lt y x = false) : x = y := by
  obtain ⟨a, s⟩ := x; obtain ⟨b, t⟩ := y
  cases a <;> cases b <;> simp only [lt] at h1 h2 <;> first | rw [slt_total _ _ h1 h2] | exact absurd h1.symm Bool.false_ne_true | exact absurd h2.symm Bool.false_ne_true
theorem lt_asymm {x y : Lab} (h : lt x y = true) : lt y x = false := by
  cases hy : lt y x with
  | false => rfl
  | true => have := lt_trans _ _ _ h hy; rw [lt_irrefl] at this; cases this

/-! ### rising lists -/
def Up (l : List Lab) : Prop := l.Pairwise fun x y => lt x y = true
theorem up_ext : ∀ {l m : List Lab}, Up l → Up m → (∀ x, x ∈ l ↔ x ∈ m) → l = m
  | [], [], _, _, _ => rfl
  | [], y :: m, _, _, h => by have := (h y).2 (List.mem_cons_self ..); cases this
  | x :: l, [], _, _, h => by have := (h x).1 (List.mem_cons_self ..); cases this
  | x :: l, y :: m, h1, h2, h => by
    rw [Up, List.pairwise_cons] at h1 h2
    have e : x = y := by
      rcases List.mem_cons.1 ((h x).1 (List.mem_cons_self ..)) with e | hx
      · exact e
      rcases List.mem_cons.1 ((h y).2 (List.mem_cons_self ..)) with e | hy
      · exact e.symm
      have := lt_asymm (h1.1 y hy)
      rw [h2.1 x hx] at this; cases this
    subst e
    rw [up_ext h1.2 h2.2 fun z => ⟨fun hz => ?_, fun hz => ?_⟩]
    · rcases List.mem_cons.1 ((h z).1 (List.mem_cons_of_mem _ hz)) with rfl | hz'
      · have := h1.1 z hz; rw [lt_irrefl] at this; cases this
      · exact hz'
    · rcases List.mem_cons.1 ((h z).2 (List.mem_cons_of_mem _ hz)) with rfl | hz'
      · have := h2.1 z hz; rw [lt_irrefl] at this; cases this
      · exact hz'
theorem Up.nodup {l : List Lab} (h : Up l) : l.Nodup := h.imp fun hxy e => by
  subst e; rw [lt_irrefl] at hxy; cases hxy
/-- put in its place, once -/
def put : List Lab → Lab → List Lab
  | [], x => [x]
  | y :: r, x => if lt y x = true then y :: put r x else if y = x then y :: r else x :: y :: r
theorem mem_put {x z : Lab} : ∀ {l : List Lab}, z ∈ put l x ↔ z ∈ l ∨ z = x
  | [] => by simp [put]
  | y :: r => by
    simp only [put]
    split
    · rw [List.mem_cons, mem_put, List.mem_cons, or_assoc]
    · split
      · rename_i e; subst e
        simp only [List.mem_cons]
        constructor
        · intro h; exact .inl h
        · rintro (h | rfl)
          · exact h
          · exact .inl rfl
      · simp only [List.mem_cons]
        constructor
        · rintro (rfl | h)
          · exact .inr rfl
          · exact .inl h
        · rintro (h | rfl)
          · exact .inr h
          · exact .inl rfl
theorem put_up {x : Lab} : ∀ {l : List Lab}, Up l → Up (put l x)
  | [], _ => by simp [put, Up]
  | y :: r, h => by
    have h0 := h
    rw [Up, List.pairwise_cons] at h
    simp only [put]
    split
    · rename_i hyx
      refine List.pairwise_cons.2 ⟨fun z hz => ?_, put_up h.2⟩
      rcases mem_put.1 hz with hz | rfl
      · exact h.1 z hz
      · exact hyx
    · rename_i hyx
      split
      · exact h0
      · rename_i hne
        have hxy : lt x y = true := by
          cases hc : lt x y with
          | true => rfl
          | false => exact absurd (lt_total _ _ (by simpa using hyx) hc) hne
        refine List.pairwise_cons.2 ⟨fun z hz => ?_, h0⟩
        rcases List.mem_cons.1 hz with rfl | hz
        · exact hxy
        · exact lt_trans _ _ _ hxy (h.1 z hz)
def setOf (l : List Lab) : List Lab := l.foldl put []
theorem foldl_put_up : ∀ (l acc : List Lab), Up acc → Up (l.foldl put acc)
  | [], _, h => h
  | _ :: l, _, h => foldl_put_up l _ (put_up h)
theorem mem_foldl_put {z : Lab} : ∀ (l acc : List Lab), z ∈ l.foldl put acc ↔ z ∈ acc ∨ z ∈ l
  | [], acc => by simp
  | x :: l, acc => by
    rw [List.foldl_cons, mem_foldl_put l, mem_put, List.mem_cons, or_assoc]
theorem setOf_up (l : List Lab) : Up (setOf l) := foldl_put_up l [] List.Pairwise.nil
theorem mem_setOf {l : List Lab} {z : Lab} : z ∈ setOf l ↔ z ∈ l := by
  rw [setOf, mem_foldl_put]; simp
theorem setOf_self {l : List Lab} (h : Up l) : setOf l = l := up_ext (setOf_up l) h fun _ => mem_setOf
theorem setOf_congr {l m : List Lab} (h : ∀ x, x ∈ l ↔ x ∈ m) : setOf l = setOf m := up_ext (setOf_up l) (setOf_up m) fun x => by rw [mem_setOf, mem_setOf, h]

/-! ### what sortK makes -/
theorem insK_row (x : Lab) : ∀ {l : List Lab}, Up l → x ∉ l → insK labLt (row x) (l.map row) = (put l x).map row
  | [], _, _ => rfl
  | y :: r, h, hx => by
    rw [Up, List.pairwise_cons] at h
    rw [List.mem_cons, not_or] at hx
    simp only [List.map_cons, insK, put, lt_row]
    cases hxy : lt x y with
    | true =>
      rw [if_pos rfl, if_neg (by rw [lt_asymm hxy]; simp), if_neg (fun e => hx.1 e.symm)]
      rfl
    | false =>
      have hyx : lt y x = true := by
        cases hc : lt y x with
        | true => rfl
        | false => exact absurd (lt_total _ _ hxy hc) hx.1
      rw [if_neg (by simp), if_pos hyx, insK_row x h.2 hx.2]
      rfl
theorem foldK_row : ∀ (l acc : List Lab), Up acc → l.Nodup → (∀ x ∈ l, x ∉ acc) → (l.map row).foldl (fun acc x => insK labLt x acc) (acc.map row) = (l.foldl put acc).map row
  | [], _, _, _, _ => rfl
  | x :: l, acc, h, hn, hd => by
    rw [List.nodup_cons] at hn
    rw [List.map_cons, List.foldl_cons, List.foldl_cons, insK_row x h (hd x (List.mem_cons_self ..))]
    refine foldK_row l _ (put_up h) hn.2 fun z hz hm => ?_
    rcases mem_put.1 hm with hm | rfl
    · exact hd z (List.mem_cons_of_mem _ hz) hm
    · exact hn.1 hz
theorem sortK_row {l : List Lab} (hn : l.Nodup) : sortK labLt (l.map row) = (setOf l).map row := foldK_row l [] List.Pairwise.nil hn fun _ _ h => by cases h
theorem setOf_length {l : List Lab} (hn : l.Nodup) : (setOf l).length = l.length := by
  suffices ∀ (l acc : List Lab), l.Nodup → (∀ x ∈ l, x ∉ acc) → (l.foldl put acc).length = acc.length + l.length by
    have := this l [] hn (fun _ _ h => by cases h)
    simpa [setOf] using this
  intro l
  induction l with
  | nil => intro acc _ _; simp
  | cons x l ih =>
    intro acc hn hd
    rw [List.nodup_cons] at hn
    have hp : ∀ {m : List Lab}, x ∉ m → (put m x).length = m.length + 1 := by
      intro m
      induction m with
      | nil => intro _; rfl
      | cons y r ihr =>
        intro hx
        rw [List.mem_cons, not_or] at hx
        simp only [put]
        split
        · simp [ihr hx.2]
        · rw [if_neg (fun e => hx.1 e.symm)]; simp
    rw [List.foldl_cons, ih _ hn.2, hp (hd x (List.mem_cons_self ..)), List.length_cons]
    · omega
    · intro z hz hm
      rcases mem_put.1 hm with hm | rfl
      · exact hd z (List.mem_cons_of_mem _ hz) hm
      · exact hn.1 hz

/-! ### the keys of a map, as they came -/
def keyIn (l : List Lab) (x : Lab) : List Lab := if x ∈ l then l else l ++ [x]
def keys (l : List Lab) (xs : List Lab) : List Lab := xs.foldl keyIn l
theorem mem_keyIn {l : List Lab} {x z : Lab} : z ∈ keyIn l x ↔ z ∈ l ∨ z = x := by
  unfold keyIn
  split
  · rename_i h
    constructor
    · exact .inl
    · rintro (h' | rfl)
      · exact h'
      · exact h
  · simp
theorem keyIn_nodup {l : List Lab} {x : Lab} (h : l.Nodup) : (keyIn l x).Nodup := by
  unfold keyIn
  split
  · exact h
  · rename_i hx
    rw [List.nodup_append]
    refine ⟨h, by simp, ?_⟩
    intro a ha b hb e
    rw [List.mem_singleton] at hb
    subst hb; subst e
    exact hx ha
theorem mem_keys {z : Lab} : ∀ {xs l : List Lab}, z ∈ keys l xs ↔ z ∈ l ∨ z ∈ xs
  | [], l => by simp [keys]
  | x :: xs, l => by
    show z ∈ keys (keyIn l x) xs ↔ _
    rw [mem_keys, mem_keyIn, List.mem_cons, or_assoc]
theorem keys_nodup : ∀ {xs l : List Lab}, l.Nodup → (keys l xs).Nodup
  | [], _, h => h
  | _ :: xs, _, h => keys_nodup (xs := xs) (keyIn_nodup h)
theorem keys_length : ∀ {xs l : List Lab}, (keys l xs).length ≤ l.length + xs.length
  | [], l => by simp [keys]
  | x :: xs, l => by
    show (keys (keyIn l x) xs).length ≤ _
    have := keys_length (xs := xs) (l := keyIn l x)
    have h2 : (keyIn l x).length ≤ l.length + 1 := by unfold keyIn; split <;> simp
    simp only [List.length_cons]
    omega
/-- how many there are in all -/
theorem filter_count (p : Lab → Bool) : ∀ l : List Lab, (l.filter p).length + (l.filter fun x => !p x).length = l.length
  | [] => rfl
  | x :: l => by
    have := filter_count p l
    cases h : p x <;> simp [h] <;> omega
theorem same_length {l m : List Lab} (hl : l.Nodup) (hm : m.Nodup) (h : ∀ x, x ∈ l ↔ x ∈ m) : l.length = m.length := by
  rw [← setOf_length hl, ← setOf_length hm, setOf_congr h]
theorem count_law {p q u m : List Lab} (hp : p.Nodup) (hq : q.Nodup) (hu : u.Nodup) (hm : m.Nodup) (h1 : ∀ x, x ∈ u ↔ x ∈ p ∨ x ∈ q) (h2 : ∀ x, x ∈ m ↔ x ∈ p ∧ x ∈ q) : u.length + m.length = p.length + q.length := by
  have e1 : u.length = (p ++ q.filter fun x => !decide (x ∈ p)).length := by
    refine same_length hu ?_ fun x => ?_
    · rw [List.nodup_append]
      refine ⟨hp, hq.filter _, fun a ha b hb e => ?_⟩
      subst e
      rw [List.mem_filter] at hb
      simp [ha] at hb
    · rw [h1, List.mem_append, List.mem_filter]
      by_cases hx : x ∈ p <;> simp [hx]
  have e2 : m.length = (q.filter fun x => decide (x ∈ p)).length := by
    refine same_length hm (hq.filter _) fun x => ?_
    rw [h2, List.mem_filter]
    simp [and_comm]
  have := filter_count (fun x => decide (x ∈ p)) q
  rw [e1, e2, List.length_append]
  omega
end Go.AxS
end
section
set_option linter.unusedVariables false
set_option linter.unusedSimpArgs false
namespace Go.Proofs.YtmbhjdkbcgngiaaGreatDoor
open Go Go.Ax Go.AxS
structure LabE (E : Env) : Prop where
  ty3 : E.ty 3 = some { kd := .int .i64, size := 1, bytes := 8, zero := .int .i64 0 }
  ty4 : E.ty 4 = some { kd := .bool, size := 1, bytes := 1, zero := .bool false }
  ty9 : E.ty 9 = some { kd := .str, size := 1, bytes := 16, zero := .str [] }
  ty22 : E.ty 22 = some { kd := .sl 34, size := 1, bytes := 24, zero := .nils }
  ty25 : E.ty 25 = some { kd := .ptr 32, size := 1, bytes := 8, zero := .nilp }
  ty28 : E.ty 28 = some { kd := .map 34 4, size := 1, bytes := 8, zero := .nilm }
  ty30 : E.ty 30 = some { kd := .strct [(0, 28)], size := 1, bytes := 8, zero := .agg [.nilm] }
  ty32 : E.ty 32 = some { kd := .strct [(0, 30)], size := 1, bytes := 8, zero := .agg [.nilm] }
  ty34 : E.ty 34 = some { kd := .strct [(0, 4), (1, 9)], size := 2, bytes := 24, zero := .agg [.bool false, .str []] }
  ty61 : E.ty 61 = some { kd := .ptr 30, size := 1, bytes := 8, zero := .nilp }
  eq34 : E.eqs 34 = some [.bool, .str]
  hs53 : E.hspec 53 = some (hSortedLab 34 [95] [] 55)
  hs10 : E.hspec 10 = none
  sp10 : E.spec 10 = none
  fn10 : E.fn 10 = some (fnOf Tryz.f10)
  md10 : E.mode 10 = .iso
  hs15 : E.hspec 15 = none
  sp15 : E.spec 15 = none
  fn15 : E.fn 15 = some (fnOf Tryz.f15)
  md15 : E.mode 15 = .iso
  hs16 : E.hspec 16 = none
  sp16 : E.spec 16 = none
  fn16 : E.fn 16 = some (fnOf Tryz.f16)
  md16 : E.mode 16 = .iso
  hs11 : E.hspec 11 = none
  sp11 : E.spec 11 = none
  fn11 : E.fn 11 = some (fnOf Tryz.f11)
  md11 : E.mode 11 = .shared
  hs14 : E.hspec 14 = none
  sp14 : E.spec 14 = none
  fn14 : E.fn 14 = some (fnOf Tryz.f14)
  md14 : E.mode 14 = .shared
  hs56 : E.hspec 56 = none
  sp56 : E.spec 56 = none
  fn56 : E.fn 56 = some (fnOf Tryz.f56)
  md56 : E.mode 56 = .shared
  hs12 : E.hspec 12 = none
  sp12 : E.spec 12 = none
  fn12 : E.fn 12 = some (fnOf Tryz.f12)
  md12 : E.mode 12 = .shared
  hs19 : E.hspec 19 = none
  sp19 : E.spec 19 = none
  fn19 : E.fn 19 = some (fnOf Tryz.f19)
  md19 : E.mode 19 = .iso
  hs32 : E.hspec 32 = none
  sp32 : E.spec 32 = none
  fn32 : E.fn 32 = some (fnOf Tryz.f32)
  md32 : E.mode 32 = .iso
  hs68 : E.hspec 68 = none
  sp68 : E.spec 68 = none
  fn68 : E.fn 68 = some (fnOf Tryz.f68)
  md68 : E.mode 68 = .iso
  hs20 : E.hspec 20 = none
  sp20 : E.spec 20 = none
  fn20 : E.fn 20 = some (fnOf Tryz.f20)
  md20 : E.mode 20 = .iso
  hs21 : E.hspec 21 = none
  sp21 : E.spec 21 = none
  fn21 : E.fn 21 = some (fnOf Tryz.f21)
  md21 : E.mode 21 = .iso
  hs55 : E.hspec 55 = none
  sp55 : E.spec 55 = none
  fn55 : E.fn 55 = some (fnOf Tryz.f55)
  md55 : E.mode 55 = .iso
  hs96 : E.hspec 96 = none
  sp96 : E.spec 96 = none
  fn96 : E.fn 96 = some (fnOf Tryz.f96)
  md96 : E.mode 96 = .iso
  hs127 : E.hspec 127 = none
  sp127 : E.spec 127 = none
  fn127 : E.fn 127 = some (fnOf Tryz.f127)
  md127 : E.mode 127 = .iso
  hs54 : E.hspec 54 = none
  sp54 : E.spec 54 = none
  fn54 : E.fn 54 = some (fnOf Tryz.f54)
  md54 : E.mode 54 = .shared
  hs18 : E.hspec 18 = none
  sp18 : E.spec 18 = none
  fn18 : E.fn 18 = some (fnOf Tryz.f18)
  md18 : E.mode 18 = .iso
  hs30 : E.hspec 30 = none
  sp30 : E.spec 30 = none
  fn30 : E.fn 30 = some (fnOf Tryz.f30)
  md30 : E.mode 30 = .iso
  hs17 : E.hspec 17 = none
  sp17 : E.spec 17 = none
  fn17 : E.fn 17 = some (fnOf Tryz.f17)
  md17 : E.mode 17 = .iso
  hs27 : E.hspec 27 = none
  sp27 : E.spec 27 = none
  fn27 : E.fn 27 = some (fnOf Tryz.f27)
  md27 : E.mode 27 = .iso
  hs33 : E.hspec 33 = none
  sp33 : E.spec 33 = none
  fn33 : E.fn 33 = some (fnOf Tryz.f33)
  md33 : E.mode 33 = .iso
  hs34 : E.hspec 34 = none
  sp34 : E.spec 34 = none
  fn34 : E.fn 34 = some (fnOf Tryz.f34)
  md34 : E.mode 34 = .iso
  hs28 : E.hspec 28 = none
  sp28 : E.spec 28 = none
  fn28 : E.fn 28 = some (fnOf Tryz.f28)
  md28 : E.mode 28 = .iso
  hs67 : E.hspec 67 = none
  sp67 : E.spec 67 = none
  fn67 : E.fn 67 = some (fnOf Tryz.f67)
  md67 : E.mode 67 = .iso
  hs29 : E.hspec 29 = none
  sp29 : E.spec 29 = none
  fn29 : E.fn 29 = some (fnOf Tryz.f29)
  md29 : E.mode 29 = .iso
  hs31 : E.hspec 31 = none
  sp31 : E.spec 31 = none
  fn31 : E.fn 31 = some (fnOf Tryz.f31)
  md31 : E.mode 31 = .iso
  hs66 : E.hspec 66 = none
  sp66 : E.spec 66 = none
  fn66 : E.fn 66 = some (fnOf Tryz.f66)
  md66 : E.mode 66 = .shared
  hs80 : E.hspec 80 = none
  sp80 : E.spec 80 = none
  fn80 : E.fn 80 = some (fnOf Tryz.f80)
  md80 : E.mode 80 = .iso
  hs69 : E.hspec 69 = none
  sp69 : E.spec 69 = none
  fn69 : E.fn 69 = some (fnOf Tryz.f69)
  md69 : E.mode 69 = .iso
  d14_9 : isPlainDraw E (cutAt [1, 1, 1, 1, 0, 1, 2, 2, 1, 1, 0, 2, 1] (fnOf Tryz.f14).code) = true
  d19_1 : isPlainDraw E (cutAt [1, 0] (fnOf Tryz.f19).code) = true
  d68_1 : isPlainDraw E (cutAt [1, 0] (fnOf Tryz.f68).code) = true
  d30_2 : isPlainDraw E (cutAt [1, 1, 0, 2, 2, 0, 0] (fnOf Tryz.f30).code) = true
  d30_4 : isPlainDraw E (cutAt [1, 1, 1, 0, 0] (fnOf Tryz.f30).code) = true
  z30_6 : frzOf E (opsOf (cutAt [1, 1, 1, 1, 0] (fnOf Tryz.f30).code)) = true
  p30_6 : drawPlan E true (opsOf (cutAt [1, 1, 1, 1, 0] (fnOf Tryz.f30).code)) = some [⟨3, 4, true, false⟩, ⟨3, 9, true, false⟩, ⟨6, 9, true, false⟩]
  d17_6 : isPlainDraw E (cutAt [1, 1, 0, 1, 2, 2, 1, 0, 2, 0] (fnOf Tryz.f17).code) = true
  d27_4 : isPlainDraw E (cutAt [1, 0, 1, 2, 2, 1, 0, 2, 0] (fnOf Tryz.f27).code) = true
  d69_6 : isPlainDraw E (cutAt [1, 1, 0, 1, 2, 2, 1, 1, 0, 2, 1, 0] (fnOf Tryz.f69).code) = true
theorem le_lab : LabE LE := ⟨Lty3, Lty4, Lty9, Lty22, Lty25, Lty28, Lty30, Lty32, Lty34, Lty61, Leq34, Lhs53, Lhs10, Lsp10, Lfn10, Lmd10, Lhs15, Lsp15, Lfn15, Lmd15, Lhs16, Lsp16, Lfn16, Lmd16, Lhs11, Lsp11, Lfn11, Lmd11, Lhs14, Lsp14, Lfn14, Lmd14, Lhs56, Lsp56, Lfn56, Lmd56, Lhs12, Lsp12, Lfn12, Lmd12, Lhs19, Lsp19, Lfn19, Lmd19, Lhs32, Lsp32, Lfn32, Lmd32, Lhs68, Lsp68, Lfn68, Lmd68, Lhs20, Lsp20, Lfn20, Lmd20, Lhs21, Lsp21, Lfn21, Lmd21, Lhs55, Lsp55, Lfn55, Lmd55, Lhs96, Lsp96, Lfn96, Lmd96, Lhs127, Lsp127, Lfn127, Lmd127, Lhs54, Lsp54, Lfn54, Lmd54, Lhs18, Lsp18, Lfn18, Lmd18, Lhs30, Lsp30, Lfn30, Lmd30, Lhs17, Lsp17, Lfn17, Lmd17, Lhs27, Lsp27, Lfn27, Lmd27, Lhs33, Lsp33, Lfn33, Lmd33, Lhs34, Lsp34, Lfn34, Lmd34, Lhs28, Lsp28, Lfn28, Lmd28, Lhs67, Lsp67, Lfn67, Lmd67, Lhs29, Lsp29, Lfn29, Lmd29, Lhs31, Lsp31, Lfn31, Lmd31, Lhs66, Lsp66, Lfn66, Lmd66, Lhs80, Lsp80, Lfn80, Lmd80, Lhs69, Lsp69, Lfn69, Lmd69, by kernel_rfl, by kernel_rfl, by kernel_rfl, by kernel_rfl, by kernel_rfl, by kernel_rfl, by kernel_rfl, by kernel_rfl, by kernel_rfl, by kernel_rfl⟩

/-! ### slices of labels -/
/-- what stands in cells stays -/
def KeepC (σ σ' : Sg) : Prop := ∀ (b t : Nat) (cs : List V) (ex : Bool), σ[b]? = some (.cells t cs ex) → σ'[b]? = some (.cells t cs ex)
theorem KeepC.refl (σ : Sg) : KeepC σ σ := fun _ _ _ _ h => h
theorem KeepC.trans {σ τ ρ : Sg} (h : KeepC σ τ) (k : KeepC τ ρ) : KeepC σ ρ := fun b t cs ex e => k b t cs ex (h b t cs ex e)
theorem get_app {σ : Sg} {b : Nat} {o : O} (h : σ[b]? = some o) (τ : Sg) : (σ ++ τ)[b]? = some o := by
  rw [List.getElem?_append_left (List.getElem?_eq_some_iff.1 h).1]; exact h
theorem KeepC.app (σ τ : Sg) : KeepC σ (σ ++ τ) := fun _ _ _ _ h => get_app h τ
theorem KeepC.setMap {σ : Sg} {m : Nat} {es es' : List (V × V)} (h : σ[m]? = some (.map es)) : KeepC σ (σ.set m (.map es')) := fun b t cs ex e => by
  by_cases hb : m = b
  · subst hb; rw [h] at e; cases e
  · rw [List.getElem?_set_ne hb]; exact e
def SV (σ : Sg) (v : V) (l : List Lab) : Prop :=
  (v = .nils ∧ l = []) ∨ (∃ g full, v = .isl g (l.map row) full) ∨ ∃ b cs ex, v = .sl b 0 l.length none ∧ σ[b]? = some (.cells 34 cs ex) ∧ cs.take (l.length * 2) = l.flatMap row
def LV (v : V) (l : List Lab) : Prop := (v = .nils ∧ l = []) ∨ ∃ g full, v = .isl g (l.map row) full
theorem LV.sv {v : V} {l : List Lab} (h : LV v l) (σ : Sg) : SV σ v l := h.imp id .inl
theorem SV.keep {σ σ' : Sg} {v : V} {l : List Lab} (h : SV σ v l) (k : KeepC σ σ') : SV σ' v l := by
  rcases h with h | h | ⟨b, cs, ex, h1, h2, h3⟩
  · exact .inl h
  · exact .inr (.inl h)
  · exact .inr (.inr ⟨b, cs, ex, h1, k _ _ _ _ h2, h3⟩)
theorem flat_length : ∀ l : List Lab, (l.flatMap row).length = l.length * 2
  | [] => rfl
  | x :: l => by rw [List.flatMap_cons, List.length_append, flat_length l, List.length_cons]; show 2 + _ = _; omega
theorem flat_map (l : List Lab) : (l.map row).flatten = l.flatMap row := by rw [List.flatMap_def]
theorem rows_flat : ∀ l : List Lab, rows 2 l.length (l.flatMap row) = l.map row
  | [] => rfl
  | x :: l => by
    show ((row x ++ l.flatMap row).take 2) :: rows 2 l.length ((row x ++ l.flatMap row).drop 2) = _
    rw [show (row x ++ l.flatMap row).take 2 = row x from rfl, show (row x ++ l.flatMap row).drop 2 = l.flatMap row from rfl, rows_flat l]
    rfl
theorem flat_at : ∀ (l : List Lab) (i : Nat) (x : Lab), l[i]? = some x → ((l.flatMap row).drop (i * 2)).take 2 = row x
  | [], i, x, h => by simp at h
  | y :: l, 0, x, h => by cases h; rfl
  | y :: l, i + 1, x, h => by
    rw [show (i + 1) * 2 = i * 2 + 2 by omega]
    show ((row y ++ l.flatMap row).drop (i * 2 + 2)).take 2 = _
    rw [Nat.add_comm, ← List.drop_drop]
    exact flat_at l i x h
theorem mapO_id {f : V → Option V} : ∀ l : List V, (∀ x ∈ l, f x = some x) → mapO f l = some l
  | [], _ => rfl
  | x :: l, h => by
    rw [mapO, h x (List.mem_cons_self ..), mapO_id l fun y hy => h y (List.mem_cons_of_mem _ hy)]
theorem row_plain {l : List Lab} {v : V} (h : v ∈ l.flatMap row) : (∃ b, v = .bool b) ∨ ∃ s, v = .str s := by
  rw [List.mem_flatMap] at h
  obtain ⟨x, _, hx⟩ := h
  simp only [row, List.mem_cons, List.not_mem_nil, or_false] at hx
  rcases hx with rfl | rfl
  · exact .inl ⟨_, rfl⟩
  · exact .inr ⟨_, rfl⟩
section
variable {E : Env} {σ : Sg} {K : V → Sg → Prop}
theorem snap_sl (h : LabE E) (g : Bool) {b : Nat} {cs : List V} {ex : Bool} {l : List Lab} (hb : σ[b]? = some (.cells 34 cs ex)) (hc : cs.take (l.length * 2) = l.flatMap row) :
    ∃ full, snapV σ E.ty g (.sl b 0 l.length none) = some (.isl g (l.map row) full) := by
  have hlen : l.length * 2 ≤ cs.length := by
    have := congrArg List.length hc
    rw [List.length_take, flat_length] at this
    omega
  have hm : mapO (fun v => match snapC σ E.ty g 11 v with
      | some v => if tagOk g v then some v else no "snap: borrowed"
      | none => none) (l.flatMap row) = some (l.flatMap row) := by
    refine mapO_id _ fun x hx => ?_
    rcases row_plain hx with ⟨b, rfl⟩ | ⟨s, rfl⟩
    · cases g <;> rfl
    · cases g <;> rfl
  refine ⟨(match (none : Option Nat) with
    | some k => k == l.length
    | none => ex && decide (0 < 2) && (0 + l.length * 2 == cs.length)), ?_⟩
  have e : snapC σ E.ty g 12 (.sl b 0 l.length none) = some (.isl g (l.map row) (ex && decide (0 < 2) && (0 + l.length * 2 == cs.length))) := by
    rw [snapC]
    simp only [hb, h.ty34]
    rw [if_pos (by omega), List.drop_zero, hc]
    show (match mapO (fun v => match snapC σ E.ty g 11 v with
      | some v => if tagOk g v then some v else no "snap: borrowed"
      | none => none) (l.flatMap row) with
      | some l' => some (V.isl g (rows 2 l.length l') (ex && decide (0 < 2) && (0 + l.length * 2 == cs.length)))
      | none => none) = _
    rw [hm]
    simp only [rows_flat]
  show (match snapC σ E.ty g 12 (.sl b 0 l.length none) with
    | some v => if tagOk g v then some v else no "snap: borrowed"
    | none => none) = _
  rw [e]
  cases g <;> rfl
theorem snap_SV (h : LabE E) {v : V} {l : List Lab} (hv : SV σ v l) : ∃ v', snapV σ E.ty true v = some v' ∧ LV v' l := by
  rcases hv with ⟨rfl, rfl⟩ | ⟨g, full, rfl⟩ | ⟨b, cs, ex, rfl, hb, hc⟩
  · exact ⟨.nils, rfl, .inl ⟨rfl, rfl⟩⟩
  · exact ⟨_, rfl, .inr ⟨g, full, rfl⟩⟩
  · obtain ⟨full, e⟩ := snap_sl h true hb hc
    exact ⟨_, e, .inr ⟨true, full, rfl⟩⟩
/-- what a function hands back of a slice -/
theorem back_SV (h : LabE E) {v : V} {l : List Lab} (hv : (v = .nils ∧ l = []) ∨ (∃ full, v = .isl false (l.map row) full) ∨ ∃ b cs ex, v = .sl b 0 l.length none ∧ σ[b]? = some (.cells 34 cs ex) ∧ cs.take (l.length * 2) = l.flatMap row) :
    ∃ v', snapT σ E.ty false v = some v' ∧ ((v' = .nils ∧ l = []) ∨ ∃ full, v' = .isl false (l.map row) full) := by
  rcases hv with ⟨rfl, rfl⟩ | ⟨full, rfl⟩ | ⟨b, cs, ex, rfl, hb, hc⟩
  · exact ⟨.nils, rfl, .inl ⟨rfl, rfl⟩⟩
  · exact ⟨_, rfl, .inr ⟨full, rfl⟩⟩
  · obtain ⟨full, e⟩ := snap_sl h false hb hc
    exact ⟨_, e, .inr ⟨full, rfl⟩⟩
theorem len_SV (h : LabE E) {v : V} {l : List Lab} (hv : SV σ v l) : lenOf E σ 22 v = some l.length := by
  unfold lenOf
  rw [h.ty22]
  rcases hv with ⟨rfl, rfl⟩ | ⟨g, full, rfl⟩ | ⟨b, cs, ex, rfl, hb, hc⟩
  · rfl
  · simp
  · rfl
theorem elem_SV (h : LabE E) {v : V} {l : List Lab} (hv : SV σ v l) {i : Nat} {x : Lab} (hx : l[i]? = some x) :
    ∃ a, indexAddr E 22 v (.int .i64 (i : Int)) = some a ∧ ∀ σ', KeepC σ σ' → loadAt E σ' 34 a = some (.agg [.bool x.1, .str x.2]) := by
  have hi := (List.getElem?_eq_some_iff.1 hx).1
  rcases hv with ⟨rfl, rfl⟩ | ⟨g, full, rfl⟩ | ⟨b, cs, ex, rfl, hb, hc⟩
  · simp at hx
  · have hr : (l.map row)[((i : Nat) : Int).toNat]? = some (row x) := by
      rw [Int.toNat_natCast, List.getElem?_map, hx]; rfl
    refine ⟨.ipt g (row x), ?_, fun σ' _ => ?_⟩
    · unfold indexAddr
      simp only [h.ty22, h.ty34, hr]
      rw [if_neg (by omega)]
      rfl
    · unfold loadAt
      simp only [h.ty34]
      rfl
  · refine ⟨.ref b (0 + i * 2), ?_, fun σ' k => ?_⟩
    · unfold indexAddr
      simp only [h.ty22, h.ty34, Int.toNat_natCast]
      rw [if_neg (by omega), if_pos hi]
    · have hlen : l.length * 2 ≤ cs.length := by
        have := congrArg List.length hc
        rw [List.length_take, flat_length] at this
        omega
      unfold loadAt
      simp only [h.ty34, k _ _ _ _ hb]
      have e : (cs.drop (0 + i * 2)).take 2 = row x := by
        have := flat_at l i x hx
        rw [← hc, List.drop_take, List.take_take] at this
        rw [show min 2 (l.length * 2 - i * 2) = 2 by omega] at this
        rw [Nat.zero_add]
        exact this
      rw [show Ax.isAgg (Kd.strct [(0, 4), (1, 9)]) = true from rfl]
      simp only [if_true]
      rw [if_pos (by omega), e]
      rfl
end
end Go.Proofs.YtmbhjdkbcgngiaaGreatDoor
end
section
set_option linter.unusedVariables false
set_option maxRecDepth 100000
namespace Go.Proofs.YtmbhjdkbcgngiaaGreatDoor
open Go Go.Ax Go.ChangeShapes Go.WideShapes Go.ChangeAt Go.RowKit
section
variable {H : Type} {enc : TypeId × Value → H} {W : World} {base : Nat} {v : Value} {d : DataW H} {p : List MemPlace}
theorem arg_int (hv : Value.okWide Tryz.prog W .any base 3 v) : ∃ x : Int, v = .int .i64 x ∧ True := by
  have e2 : Tryz.prog.underlying 3 = some (.int .i64) := Tryz.underlying3
  unfold Value.okWide Cell.okWide Cell.ok at hv
  rw [e2] at hv
  cases v with
  | int k n => exact ⟨n, by rw [show k = IntKind.i64 from hv.1], trivial⟩
  | _ => exact hv.elim
theorem arg_bool (hv : Value.okWide Tryz.prog W .any base 4 v) : ∃ x : Bool, v = .bool x ∧ True := by
  have e2 : Tryz.prog.underlying 4 = some .bool := Tryz.underlying4
  unfold Value.okWide Cell.okWide Cell.ok at hv
  rw [e2] at hv
  cases v with
  | bool x => exact ⟨x, rfl, trivial⟩
  | _ => exact hv.elim
theorem bytes_length (s : ByteArray) : (Ax.bytes s).length = s.size := by
  unfold Ax.bytes
  rw [List.length_map]
  rfl
theorem arg_label (hv : Value.okWide Tryz.prog W .any base 34 v) (h : DataW.Trod enc Tryz.prog W 0 (fun _ => true) true 34 v d p) (hw : (DataW.weights Tryz.prog 34 d).all (· ≤ reachBytes) = true) :
    ∃ (x : Bool) (s : ByteArray), v = .agg #[.bool x, .string s] ∧ (Ax.bytes s).length ≤ 9223372036854775806 := by
  obtain ⟨cs, rfl⟩ : ∃ cs, v = .agg cs := by
    unfold Value.okWide at hv
    rw [Tryz.underlying34] at hv
    obtain ⟨cs, h1, _⟩ := hv
    exact ⟨cs, h1⟩
  obtain ⟨fuel, h⟩ := h
  obtain ⟨y0, y1, n, he, hl, u0, u1⟩ := trod_struct2 Tryz.underlying34 h
  have hl' : cs.toList.length = 2 := hl.trans (by kernel_rfl)
  obtain ⟨l⟩ := cs
  match l, hl' with
  | [c0, c1], _ =>
    obtain ⟨x, e0, _⟩ := DataW.trod_bool Tryz.underlying4 u0
    obtain ⟨s, e1, e1', _⟩ := DataW.trod_string Tryz.underlying9 u1
    have k0 : Tryz.prog.cellsOf 4 = 1 := by kernel_rfl
    have k1 : Tryz.prog.cellsOf 9 = 1 := by kernel_rfl
    have f0 : [c0] = [Value.bool x] := by rw [← e0]; rw [k0]; rfl
    have f1 : [c1] = [Value.string s] := by rw [← e1]; rw [k1]; rfl
    cases f0; cases f1
    refine ⟨x, s, rfl, ?_⟩
    have hd : d = .agg [y0.1, y1.1] := congrArg Prod.fst he
    rw [hd, e1'] at hw
    unfold DataW.weights at hw
    rw [Tryz.underlying34] at hw
    simp only [List.map_cons, List.map_nil, DataW.weightsEach, DataW.weights, List.all_append, Bool.and_eq_true, List.all_cons, decide_eq_true_eq] at hw
    have hs : s.data.toList.length ≤ reachBytes := hw.2.1.1
    rw [bytes_length]
    have : s.size = s.data.toList.length := rfl
    have e : reachBytes = 140737488351232 := by decide
    omega
end
/-! ### slices of labels -/
theorem mem_weightsAll {H : Type} {e w : Nat} {d : DataW H} : ∀ {l : List (DataW H)}, d ∈ l → w ∈ DataW.weights Tryz.prog e d → w ∈ DataW.weightsAll Tryz.prog e l
  | x :: l, hd, hw => by
    rw [DataW.weightsAll, List.mem_append]
    rcases List.mem_cons.1 hd with rfl | hd
    · exact .inl hw
    · exact .inr (mem_weightsAll hd hw)
def boolOfV : Value → Bool
  | .bool b => b
  | _ => false
def strOfV : Value → ByteArray
  | .string s => s
  | _ => ⟨#[]⟩
theorem rowsAt_of {W : World} {I : Bool → Nat → Prop} {blk off : Nat} (b : Nat → Bool) (s : Nat → ByteArray) : ∀ (n k : Nat), (∀ i, k ≤ i → i < k + n → W.cell? ⟨blk, off + i * 2, none⟩ = some (.bool (b i)) ∧ W.cell? ⟨blk, off + i * 2 + 1, none⟩ = some (.string (s i))) →
    RowsAt W I 2 ((List.range' k n).map fun i => Go.AxS.row (b i, Ax.bytes (s i))) blk (off + k * 2)
  | 0, k, _ => .nil
  | n + 1, k, h => by
    rw [List.range'_succ, List.map_cons]
    obtain ⟨h1, h2⟩ := h k (Nat.le_refl _) (by omega)
    refine .cons _ _ rfl (.cons _ _ _ h1 (.bool _) (.cons _ _ _ h2 (.str _) .nil)) ?_
    have := rowsAt_of (W := W) (I := I) (blk := blk) (off := off) b s n (k + 1) fun i hi hn => h i (by omega) (by omega)
    rw [show off + (k + 1) * 2 = off + k * 2 + 2 by omega] at this
    exact this
theorem arg_labels {H : Type} {enc : TypeId × Value → H} {W : World} {base : Nat} {v : Value} {d : DataW H} {p : List MemPlace} (hv : Value.okWide Tryz.prog W .any base 22 v) (h : DataW.Trod enc Tryz.prog W 0 (fun _ => true) true 22 v d p) (hw : (DataW.weights Tryz.prog 22 d).all (· ≤ reachBytes) = true) :
    ∃ (a : V) (l : List Go.AxS.Lab), LV a l ∧ (∀ k ∈ l, k.2.length ≤ 9223372036854775806) ∧ VR (topCx W) a v := by
  have e22 : Tryz.prog.underlying 22 = some (.slice 34) := Tryz.underlying22
  unfold Value.okWide at hv
  rw [e22] at hv
  have hv : Cell.okWide Tryz.prog W .any base 22 v := hv
  unfold Cell.okWide Cell.ok at hv
  rw [e22] at hv
  cases v with
  | slice q len cap =>
    obtain ⟨fuel, h⟩ := h
    have h' : DataW.trod enc Tryz.prog W 0 (fun _ => true) true fuel 22 [.slice q len cap] = some (d, p) := h
    rcases Go.Deep.open_slice_pairs e22 Tryz.underlying34 (by kernel_rfl) rfl rfl (by kernel_rfl) (by kernel_rfl) h' with ⟨hc, _⟩ | ⟨a, len', cap', m, n, V0, V1, D0, D1, P0, P1, hc, _, hlc, _, hm, hx, he⟩
    · cases hc
      exact ⟨.nils, [], .inl ⟨rfl, rfl⟩, fun k hk => (by cases hk), .inl .nils⟩
    · cases hc
      have hv : len ≤ cap ∧ (cap : Int) ≤ IntKind.i64.max ∧ W.has Tryz.prog .any base a 34 cap := hv
      obtain ⟨_, _, _, hsp, rw_, cl, hshape, _⟩ := hv
      obtain ⟨blk, off, sp⟩ := a
      have hsp : sp = none := hsp
      subst hsp
      have hm : m = cap := by rw [hm]; rfl
      subst hm
      have each : ∀ i, i < len → W.cell? ⟨blk, off + i * 2, none⟩ = some (.bool (boolOfV (V0 i))) ∧ W.cell? ⟨blk, off + i * 2 + 1, none⟩ = some (.string (strOfV (V1 i))) ∧ D1 i = .lit (.string (strOfV (V1 i)).data.toList) := by
        intro i hi
        obtain ⟨q0, q1, t0, t1⟩ := he i (by omega)
        obtain ⟨x, e0, _⟩ := DataW.trod_bool Tryz.underlying4 t0
        obtain ⟨s, e1, e1', _⟩ := DataW.trod_string Tryz.underlying9 t1
        have e0 : V0 i = .bool x := List.head_eq_of_cons_eq e0
        have e1 : V1 i = .string s := List.head_eq_of_cons_eq e1
        have e2 : D1 i = .lit (.string s.data.toList) := congrArg Prod.fst e1'
        rw [e0] at q0
        rw [e1] at q1
        have ea : ∀ k, (⟨blk, off, none⟩ : Addr).add k = ⟨blk, off + k, none⟩ := fun k => by unfold Addr.add; first | rfl | simp
        rw [ea] at q0 q1
        rw [← Nat.add_assoc] at q1
        refine ⟨by rw [e0]; exact q0, by rw [e1]; exact q1, by rw [e1]; exact e2⟩
      have hd : d = .slice ((List.range len).map fun i => .agg [D0 i, D1 i]) ((List.range (m - len)).map fun j => .agg [D0 (len + j), D1 (len + j)]) := congrArg Prod.fst hx
      have hlen : ∀ i, i < len → (strOfV (V1 i)).data.toList.length ≤ reachBytes := by
        intro i hi
        rw [hd, DataW.weights, e22] at hw
        simp only [List.all_cons, List.all_append, Bool.and_eq_true, List.all_eq_true, decide_eq_true_eq] at hw
        refine hw.2.1 _ (mem_weightsAll (List.mem_map.2 ⟨i, List.mem_range.2 hi, rfl⟩) ?_)
        rw [DataW.weights, Tryz.underlying34, (each i hi).2.2]
        simp [DataW.weightsEach, DataW.weights]
      have hblk : blk < W.heap.size := by
        rcases Nat.lt_or_ge blk W.heap.size with g | g
        · exact g
        · unfold World.shape? at hshape
          rw [Array.getElem?_eq_none g] at hshape
          cases hshape
      refine ⟨.isl true (((List.range' 0 len).map fun i => (boolOfV (V0 i), Ax.bytes (strOfV (V1 i)))).map Go.AxS.row) false, (List.range' 0 len).map fun i => (boolOfV (V0 i), Ax.bytes (strOfV (V1 i))), .inr ⟨true, false, rfl⟩, ?_, .inl ?_⟩
      · intro k hk
        obtain ⟨i, hi, rfl⟩ := List.mem_map.1 hk
        rw [List.mem_range'_1] at hi
        have := hlen i (by omega)
        show (Ax.bytes (strOfV (V1 i))).length ≤ _
        rw [bytes_length]
        have e1 : (strOfV (V1 i)).size = (strOfV (V1 i)).data.toList.length := rfl
        have e : reachBytes = 140737488351232 := by decide
        omega
      · refine .isl true _ false blk off len m 2 (top_imm W blk hblk) (by simp) hlc (fun h => by cases h) ?_
        rw [List.map_map]
        have := rowsAt_of (W := W) (I := Ax.sub true (topCx W).imm) (blk := blk) (off := off) (fun i => boolOfV (V0 i)) (fun i => strOfV (V1 i)) len 0 fun i _ hi => ⟨(each i (by omega)).1, (each i (by omega)).2.1⟩
        rw [Nat.zero_mul, Nat.add_zero] at this
        exact this
  | _ => exact hv.elim
theorem vr_label (W : World) (x : Bool) (s : ByteArray) : VR (topCx W) (.agg [.bool x, .str (Ax.bytes s)]) (.agg #[.bool x, .string s]) :=
  .agg _ [_, _] (.cons _ _ _ _ (.inl (.bool _)) (.cons _ _ _ _ (.inl (.str _)) .nil))
end Go.Proofs.YtmbhjdkbcgngiaaGreatDoor
end
section
set_option linter.unusedVariables false
set_option linter.unusedSimpArgs false
set_option maxHeartbeats 1000000
set_option maxRecDepth 10000
namespace Go.Proofs.YtmbhjdkbcgngiaaGreatDoor
open Go Go.Ax Go.AxS
def LVf (v : V) (l : List Lab) : Prop := (v = .nils ∧ l = []) ∨ ∃ full, v = .isl false (l.map row) full
theorem LVf.lv {v : V} {l : List Lab} (h : LVf v l) : LV v l := h.imp id fun ⟨full, e⟩ => ⟨false, full, e⟩
section
variable {E : Env} {σ : Sg} {K : V → Sg → Prop}
theorem min20 (n : Nat) : (if (20 : Int) < (n : Int) then (20 : Int) else (n : Int)) = ((min n 20 : Nat) : Int) := by
  split <;> omega
theorem szOk_rows (l : List Lab) : szOk 2 (l.map row) = true := by
  cases l with
  | nil => rfl
  | cons x l => rfl
theorem roomy_ok (n : Nat) (h : n ≤ 1000000000000) : roomy n 24 = true := by
  unfold roomy
  rw [decide_eq_true_eq]
  omega
theorem elems_isl (g full : Bool) (l : List Lab) : elems σ 2 (.isl g (l.map row) full) = some (l.flatMap row, l.length) := by
  show (if szOk 2 (l.map row) = true then some ((l.map row).flatten, (l.map row).length) else none) = _
  rw [szOk_rows, if_pos rfl, flat_map, List.length_map]
theorem b_few (h : LabE E) {v : V} {l : List Lab} (hv : SV σ v l) : WpCall E 10 [v] σ fun v' σ' => σ' = σ ∧ LVf v' (l.take 20) := by
  obtain ⟨v1, e1, hv1⟩ := snap_SV h hv
  rw [wpCall_iso h.hs10 h.sp10 h.fn10 h.md10 (args' := [v1]) (by simp only [mapO, e1]), enterF (by kernel_rfl)]
  rcases hv1 with ⟨rfl, rfl⟩ | ⟨g, full, rfl⟩
  · simp only [fnOf, Tryz.f10, KP, Ax.lenOf, Ax.loadAt, Ax.storeAt, ↓reduceIte, Nat.reduceEqDiff, Nat.reduceLT, Nat.reduceLeDiff, Nat.reduceAdd, Nat.reduceMul, Nat.reduceBEq, reduceCtorEq, Int.reduceEq, Int.reduceLT, Int.reduceLE, Int.reduceAdd, Int.reduceSub, Int.reduceNeg, h.ty3, h.ty4, h.ty9, h.ty34, h.ty22, h.eq34, Ax.minmax, Ax.slice, Ax.bound, Ax.append, Ax.elems, Ax.plainArg, Ax.isIntK]
    exact .inl ⟨rfl, rfl⟩
  · have hb1 : (0 : Int) ≤ ((min l.length 20 : Nat) : Int) := Int.natCast_nonneg _
    have hb2 : decide (((min l.length 20 : Nat) : Int) ≤ (l.length : Int)) = true := decide_eq_true (by omega)
    have hm : (l.map row).take (min l.length 20) = (l.take 20).map row := by
      rw [← List.map_take]
      congr 1
      rw [List.take_eq_take_iff]
      omega
    have hl : (l.take 20).length ≤ 20 := by simp; omega
    have hr := roomy_ok (l.take 20).length (by omega)
    by_cases hn : (l.take 20).length = 0
    · simp only [fnOf, Tryz.f10, KP, Ax.lenOf, Ax.loadAt, Ax.storeAt, ↓reduceIte, Nat.reduceEqDiff, Nat.reduceLT, Nat.reduceLeDiff, Nat.reduceAdd, Nat.reduceMul, Nat.reduceBEq, reduceCtorEq, Int.reduceEq, Int.reduceLT, Int.reduceLE, Int.reduceAdd, Int.reduceSub, Int.reduceNeg, h.ty3, h.ty4, h.ty9, h.ty34, h.ty22, h.eq34, Ax.minmax, Ax.slice, Ax.bound, Ax.append, Ax.plainArg, Ax.isIntK, List.length_map, min20, szOk_rows, hb2, Int.toNat_natCast, Nat.sub_zero, hm, elems_isl, hn]
      exact .inl ⟨rfl, List.length_eq_zero_iff.1 hn⟩
    · simp only [fnOf, Tryz.f10, KP, Ax.lenOf, Ax.loadAt, Ax.storeAt, ↓reduceIte, Nat.reduceEqDiff, Nat.reduceLT, Nat.reduceLeDiff, Nat.reduceAdd, Nat.reduceMul, Nat.reduceBEq, reduceCtorEq, Int.reduceEq, Int.reduceLT, Int.reduceLE, Int.reduceAdd, Int.reduceSub, Int.reduceNeg, h.ty3, h.ty4, h.ty9, h.ty34, h.ty22, h.eq34, Ax.minmax, Ax.slice, Ax.bound, Ax.append, Ax.plainArg, Ax.isIntK, List.length_map, min20, szOk_rows, hb2, Int.toNat_natCast, Nat.sub_zero, hm, elems_isl, hn, hr]
      obtain ⟨v', e, hv'⟩ := back_SV (σ := [.cells 34 ((l.take 20).flatMap row) false]) h (.inr (.inr ⟨0, _, _, rfl, rfl, List.take_of_length_le (by rw [flat_length]; omega)⟩))
      rw [e]
      exact hv'
end
end Go.Proofs.YtmbhjdkbcgngiaaGreatDoor
end
section
set_option linter.unusedVariables false
set_option linter.unusedSimpArgs false
set_option maxHeartbeats 1000000
set_option maxRecDepth 10000
namespace Go.Proofs.YtmbhjdkbcgngiaaGreatDoor
open Go Go.Ax Go.AxS
section
variable {E : Env} {σ : Sg} {K : V → Sg → Prop}
theorem wr_succ (n : Nat) (h : n ≤ 10000000000000) : wr .i64 ((n : Int) + 1) = ((n + 1 : Nat) : Int) := by
  rw [wr_old, if_pos]
  · rfl
  · rw [Bool.and_eq_true, decide_eq_true_eq, decide_eq_true_eq]
    exact ⟨show (-9223372036854775808 : Int) ≤ (n : Int) + 1 by omega, show (n : Int) + 1 ≤ (9223372036854775807 : Int) by omega⟩
theorem eqV_lab (h : LabE E) (c : Bool) (a b : Bool) (s t : List Nat) : Ax.eqV E 34 c (.agg [.bool a, .str s]) (.agg [.bool b, .str t]) = some (decide (((a, s) : Lab) = (b, t))) := by
  unfold Ax.eqV
  simp only [h.ty34, h.eq34, Ax.eqs]
  rw [seq_dec]
  cases a <;> cases b <;> simp
theorem b_rLess (h : LabE E) (a b : Bool) (s t : List Nat) : WpCall E 33 [.agg [.bool a, .str s], .agg [.bool b, .str t]] σ K = K (.bool (lt (a, s) (b, t))) σ := by
  refine WpCall.of ?_
  rw [wpCall_iso h.hs33 h.sp33 h.fn33 h.md33 (args' := [.agg [.bool a, .str s], .agg [.bool b, .str t]]) (rfl), enterF (by kernel_rfl)]
  cases a <;> cases b
  all_goals simp only [fnOf, Tryz.f33, KP, Ax.lenOf, Ax.loadAt, Ax.storeAt, ↓reduceIte, Nat.reduceEqDiff, Nat.reduceLT, Nat.reduceLeDiff, Nat.reduceAdd, Nat.reduceMul, Nat.reduceBEq, reduceCtorEq, Int.reduceEq, Int.reduceLT, Int.reduceLE, Int.reduceAdd, Int.reduceSub, Int.reduceNeg, h.ty3, h.ty4, h.ty9, h.ty34, h.ty22, h.eq34, Ax.eqV]
  all_goals exact rfl
theorem k_rLess (h : LabE E) {ops : Array Oper} {l : List Oper} {dst : Option Nat} {st : List Kont} {Q : Ax.X → Fr → Sg → Prop} {fr : Fr} (a b : Bool) (s t : List Nat) : CallK E 33 [.agg [.bool a, .str s], .agg [.bool b, .str t]] σ dst fr ops l st Q = RunK E ops l (some (putS fr dst (.bool (lt (a, s) (b, t))), σ)) st Q := callK_of fun _ => b_rLess h a b s t
theorem b_file (h : LabE E) (s : List Nat) : WpCall E 15 [.str s] σ K = K (.agg [.bool false, .str s]) σ := by
  refine WpCall.of ?_
  rw [wpCall_iso h.hs15 h.sp15 h.fn15 h.md15 (args' := [.str s]) (rfl), enterF (by kernel_rfl)]
  simp only [fnOf, Tryz.f15, KP, Ax.lenOf, Ax.loadAt, Ax.storeAt, ↓reduceIte, Nat.reduceEqDiff, Nat.reduceLT, Nat.reduceLeDiff, Nat.reduceAdd, Nat.reduceMul, Nat.reduceBEq, reduceCtorEq, Int.reduceEq, Int.reduceLT, Int.reduceLE, Int.reduceAdd, Int.reduceSub, Int.reduceNeg, h.ty3, h.ty4, h.ty9, h.ty34, h.ty22, h.eq34, Ax.fill, Ax.placeOf]
  exact rfl
theorem b_rule (h : LabE E) (s : List Nat) : WpCall E 16 [.str s] σ K = K (.agg [.bool true, .str s]) σ := by
  refine WpCall.of ?_
  rw [wpCall_iso h.hs16 h.sp16 h.fn16 h.md16 (args' := [.str s]) (rfl), enterF (by kernel_rfl)]
  simp only [fnOf, Tryz.f16, KP, Ax.lenOf, Ax.loadAt, Ax.storeAt, ↓reduceIte, Nat.reduceEqDiff, Nat.reduceLT, Nat.reduceLeDiff, Nat.reduceAdd, Nat.reduceMul, Nat.reduceBEq, reduceCtorEq, Int.reduceEq, Int.reduceLT, Int.reduceLE, Int.reduceAdd, Int.reduceSub, Int.reduceNeg, h.ty3, h.ty4, h.ty9, h.ty34, h.ty22, h.eq34, Ax.fill, Ax.placeOf]
  exact rfl
theorem rEq_loop (h : LabE E) {a b : V} {l m : List Lab} (ha : LV a l) (hb : LV b m) (hlen : l.length = m.length) (hsm : l.length ≤ 1000000000000) {s : List Kont} {Q : Ax.X → Fr → Sg → Prop}
    (hT : l = m → ∀ F', M E s .normal ⟨26, F'⟩ σ Q) (hF : l ≠ m → ∀ F' : FT, F'.get 4 = .bool false → M E s .ret ⟨26, F'⟩ σ Q) :
    ∀ (k i : Nat) (F : FT), i + k = l.length → l.take i = m.take i → F.get 0 = a → F.get 1 = b → F.get 5 = .int .i64 (i : Int) → R E (.loop (cutAt [1, 1, 0, 1, 2, 2] (fnOf Tryz.f17).code)) (.blk 0 :: s) ⟨26, F⟩ σ Q := by
  have la : lenOf E σ 22 a = some l.length := len_SV h (ha.sv σ)
  have d6 := h.d17_6
  simp only [fnOf, Tryz.f17, cutAt, Option.getD_some] at d6
  intro k
  induction k with
  | zero =>
    intro i F hi ht g0 g1 g5
    have hlt : decide ((i : Int) < (l.length : Int)) = false := decide_eq_false (by omega)
    rw [Ax.r_loop]
    simp only [fnOf, Tryz.f17, KP, Ax.storeAt, ↓reduceIte, Nat.reduceEqDiff, Nat.reduceLT, Nat.reduceLeDiff, Nat.reduceAdd, Nat.reduceMul, Nat.reduceBEq, reduceCtorEq, Int.reduceEq, Int.reduceLT, Int.reduceLE, Int.reduceAdd, Int.reduceSub, Int.reduceNeg, h.ty3, h.ty4, h.ty9, h.ty34, h.ty22, h.eq34, cutAt, g0, g1, g5, la, hlt]
    refine hT ?_ _
    rw [List.take_of_length_le (by omega), List.take_of_length_le (by omega)] at ht
    exact ht
  | succ k ih =>
    intro i F hi ht g0 g1 g5
    have hlt : decide ((i : Int) < (l.length : Int)) = true := decide_eq_true (by omega)
    obtain ⟨x, hx⟩ : ∃ x, l[i]? = some x := ⟨_, List.getElem?_eq_getElem (by omega)⟩
    obtain ⟨y, hy⟩ : ∃ y, m[i]? = some y := ⟨_, List.getElem?_eq_getElem (by omega)⟩
    obtain ⟨pa, e1, e2⟩ := elem_SV h (ha.sv σ) hx
    obtain ⟨pb, e3, e4⟩ := elem_SV h (hb.sv σ) hy
    have e2 := e2 σ (KeepC.refl σ)
    have e4 := e4 σ (KeepC.refl σ)
    have hadd := wr_succ i (by omega)
    have t1 : l.take (i + 1) = l.take i ++ [x] := by rw [List.take_add_one, hx]; rfl
    have t2 : m.take (i + 1) = m.take i ++ [y] := by rw [List.take_add_one, hy]; rfl
    rw [Ax.r_loop]
    by_cases hxy : x = y
    · have hd : decide (((x.1, x.2) : Lab) = (y.1, y.2)) = true := decide_eq_true hxy
      simp only [fnOf, Tryz.f17, KP, Ax.storeAt, ↓reduceIte, Nat.reduceEqDiff, Nat.reduceLT, Nat.reduceLeDiff, Nat.reduceAdd, Nat.reduceMul, Nat.reduceBEq, reduceCtorEq, Int.reduceEq, Int.reduceLT, Int.reduceLE, Int.reduceAdd, Int.reduceSub, Int.reduceNeg, h.ty3, h.ty4, h.ty9, h.ty34, h.ty22, h.eq34, cutAt, g0, g1, g5, la, hlt, Ax.r_undraw d6, Ax.undraw, e1, e2, e3, e4, eqV_lab h, hd, hadd]
      refine ih (i + 1) _ (by omega) (by rw [t1, t2, ht, hxy]) ?_ ?_ ?_ <;> simp only [Ax.FT.get_set, g0, g1, KP, ↓reduceIte, Nat.reduceEqDiff, Nat.reduceLT, Nat.reduceLeDiff, Nat.reduceAdd, Nat.reduceMul, Nat.reduceBEq, reduceCtorEq, Int.reduceEq, Int.reduceLT, Int.reduceLE, Int.reduceAdd, Int.reduceSub, Int.reduceNeg]
    · have hd : decide (((x.1, x.2) : Lab) = (y.1, y.2)) = false := decide_eq_false hxy
      simp only [fnOf, Tryz.f17, KP, Ax.storeAt, ↓reduceIte, Nat.reduceEqDiff, Nat.reduceLT, Nat.reduceLeDiff, Nat.reduceAdd, Nat.reduceMul, Nat.reduceBEq, reduceCtorEq, Int.reduceEq, Int.reduceLT, Int.reduceLE, Int.reduceAdd, Int.reduceSub, Int.reduceNeg, h.ty3, h.ty4, h.ty9, h.ty34, h.ty22, h.eq34, cutAt, g0, g1, g5, la, hlt, Ax.r_undraw d6, Ax.undraw, e1, e2, e3, e4, eqV_lab h, hd, hadd]
      refine hF (fun e => ?_) _ ?_
      · subst e
        rw [hx] at hy
        exact hxy (Option.some.inj hy)
      · simp only [Ax.FT.get_set, KP, ↓reduceIte, Nat.reduceEqDiff, Nat.reduceLT, Nat.reduceLeDiff, Nat.reduceAdd, Nat.reduceMul, Nat.reduceBEq, reduceCtorEq, Int.reduceEq, Int.reduceLT, Int.reduceLE, Int.reduceAdd, Int.reduceSub, Int.reduceNeg]
theorem b_rEq (h : LabE E) {v w : V} {l m : List Lab} (hv : SV σ v l) (hw : SV σ w m) (hsm : l.length ≤ 1000000000000) : WpCall E 17 [v, w] σ K = K (.bool (decide (l = m))) σ := by
  refine WpCall.of ?_
  obtain ⟨a, e1, ha⟩ := snap_SV h hv
  obtain ⟨b, e2, hb⟩ := snap_SV h hw
  rw [wpCall_iso h.hs17 h.sp17 h.fn17 h.md17 (args' := [a, b]) (by simp only [mapO, e1, e2]), enterF (by kernel_rfl)]
  have la : lenOf E [] 22 a = some l.length := len_SV h (ha.sv [])
  have lb : lenOf E [] 22 b = some m.length := len_SV h (hb.sv [])
  by_cases hlen : l.length = m.length
  · have hd : decide ((l.length : Int) = (m.length : Int)) = true := decide_eq_true (by omega)
    simp only [fnOf, Tryz.f17, KP, Ax.storeAt, ↓reduceIte, Nat.reduceEqDiff, Nat.reduceLT, Nat.reduceLeDiff, Nat.reduceAdd, Nat.reduceMul, Nat.reduceBEq, reduceCtorEq, Int.reduceEq, Int.reduceLT, Int.reduceLE, Int.reduceAdd, Int.reduceSub, Int.reduceNeg, h.ty3, h.ty4, h.ty9, h.ty34, h.ty22, h.eq34, la, lb, hd]
    refine rEq_loop h ha hb hlen hsm (fun e F' => ?_) (fun e F' g4 => ?_) l.length 0 _ (by omega) rfl ?_ ?_ ?_
    · simp only [fnOf, Tryz.f17, KP, Ax.storeAt, ↓reduceIte, Nat.reduceEqDiff, Nat.reduceLT, Nat.reduceLeDiff, Nat.reduceAdd, Nat.reduceMul, Nat.reduceBEq, reduceCtorEq, Int.reduceEq, Int.reduceLT, Int.reduceLE, Int.reduceAdd, Int.reduceSub, Int.reduceNeg, h.ty3, h.ty4, h.ty9, h.ty34, h.ty22, h.eq34]
      subst e
      rw [decide_eq_true rfl]
      exact rfl
    · simp only [fnOf, Tryz.f17, KP, Ax.storeAt, ↓reduceIte, Nat.reduceEqDiff, Nat.reduceLT, Nat.reduceLeDiff, Nat.reduceAdd, Nat.reduceMul, Nat.reduceBEq, reduceCtorEq, Int.reduceEq, Int.reduceLT, Int.reduceLE, Int.reduceAdd, Int.reduceSub, Int.reduceNeg, h.ty3, h.ty4, h.ty9, h.ty34, h.ty22, h.eq34, g4]
      rw [decide_eq_false e]
      exact rfl
    all_goals simp only [Ax.FT.fill, Ax.FT.get_set, KP, ↓reduceIte, Nat.reduceEqDiff, Nat.reduceLT, Nat.reduceLeDiff, Nat.reduceAdd, Nat.reduceMul, Nat.reduceBEq, reduceCtorEq, Int.reduceEq, Int.reduceLT, Int.reduceLE, Int.reduceAdd, Int.reduceSub, Int.reduceNeg]
    all_goals rfl
  · have hd : decide ((l.length : Int) = (m.length : Int)) = false := decide_eq_false (by omega)
    simp only [fnOf, Tryz.f17, KP, Ax.storeAt, ↓reduceIte, Nat.reduceEqDiff, Nat.reduceLT, Nat.reduceLeDiff, Nat.reduceAdd, Nat.reduceMul, Nat.reduceBEq, reduceCtorEq, Int.reduceEq, Int.reduceLT, Int.reduceLE, Int.reduceAdd, Int.reduceSub, Int.reduceNeg, h.ty3, h.ty4, h.ty9, h.ty34, h.ty22, h.eq34, la, lb, hd]
    rw [decide_eq_false (fun e => hlen (by rw [e]))]
    exact rfl
end
end Go.Proofs.YtmbhjdkbcgngiaaGreatDoor
end
section
set_option linter.unusedVariables false
set_option linter.unusedSimpArgs false
set_option maxHeartbeats 2000000
set_option maxRecDepth 10000
namespace Go.Proofs.YtmbhjdkbcgngiaaGreatDoor
open Go Go.Ax Go.AxS
def ents (ks : List Lab) : List (V × V) := ks.map fun k => (V.agg [.bool k.1, .str k.2], V.bool true)
/-- a set of labels: its block, its map's -/
structure SetAt (σ : Sg) (b m : Nat) (ks : List Lab) : Prop where
  obj : σ[b]? = some (.cells 32 [.mp m] true)
  map : σ[m]? = some (.map (ents ks))
  nodup : ks.Nodup
/-- all but one object stays -/
def Kp (σ σ' : Sg) (m : Nat) : Prop := ∀ (j : Nat) (o : O), j ≠ m → σ[j]? = some o → σ'[j]? = some o
def Kall (σ σ' : Sg) : Prop := ∀ (j : Nat) (o : O), σ[j]? = some o → σ'[j]? = some o
theorem Kall.refl (σ : Sg) : Kall σ σ := fun _ _ h => h
theorem Kall.trans {σ τ ρ : Sg} (h : Kall σ τ) (k : Kall τ ρ) : Kall σ ρ := fun j o e => k j o (h j o e)
theorem Kall.app (σ τ : Sg) : Kall σ (σ ++ τ) := fun _ _ h => get_app h τ
theorem Kall.keepC {σ σ' : Sg} (h : Kall σ σ') : KeepC σ σ' := fun b t cs ex e => h _ _ e
theorem Kp.refl (σ : Sg) (m : Nat) : Kp σ σ m := fun _ _ _ h => h
theorem Kp.trans {σ τ ρ : Sg} {m : Nat} (h : Kp σ τ m) (k : Kp τ ρ m) : Kp σ ρ m := fun j o hj e => k j o hj (h j o hj e)
theorem Kp.keepC {σ σ' : Sg} {m : Nat} {es : List (V × V)} (h : Kp σ σ' m) (hm : σ[m]? = some (.map es)) : KeepC σ σ' := fun b t cs ex e => h _ _ (fun hb => by subst hb; rw [hm] at e; cases e) e
theorem Kall.kp {σ σ' : Sg} (h : Kall σ σ') (m : Nat) : Kp σ σ' m := fun j o _ e => h j o e
theorem SetAt.ne {σ : Sg} {b m : Nat} {ks : List Lab} (h : SetAt σ b m ks) : b ≠ m := fun e => by
  subst e; have := h.obj; rw [h.map] at this; cases this
theorem SetAt.kall {σ σ' : Sg} {b m : Nat} {ks : List Lab} (h : SetAt σ b m ks) (k : Kall σ σ') : SetAt σ' b m ks := ⟨k _ _ h.obj, k _ _ h.map, h.nodup⟩
theorem SetAt.kp {σ σ' : Sg} {b m m' : Nat} {ks ks' : List Lab} {b' : Nat} (h : SetAt σ b m ks) (h' : SetAt σ b' m' ks') (hm : m ≠ m') (k : Kp σ σ' m') : SetAt σ' b m ks :=
  ⟨k _ _ (fun e => by subst e; have := h.obj; rw [h'.map] at this; cases this) h.obj, k _ _ hm h.map, h.nodup⟩
section
variable {E : Env} {σ : Sg} {K : V → Sg → Prop}
theorem eqKey_lab (h : LabE E) (a b : Bool) (s t : List Nat) : Ax.eqKey E 34 (.agg [.bool a, .str s]) (.agg [.bool b, .str t]) = some (decide (((a, s) : Lab) = (b, t))) := by
  unfold Ax.eqKey
  simp only [h.ty34, h.eq34, Ax.eqs]
  rw [seq_dec]
  cases a <;> cases b <;> simp
theorem keyOk_lab (h : LabE E) (a : Bool) (s : List Nat) : Ax.keyOk E 34 (.agg [.bool a, .str s]) = true := by
  unfold Ax.keyOk
  simp only [h.ty34, h.eq34, Ax.eqs]
  rfl
theorem keyIn_cons (y : Lab) (r : List Lab) (x : Lab) (hxy : x ≠ y) : keyIn (y :: r) x = y :: keyIn r x := by
  unfold keyIn
  by_cases hx : x ∈ r
  · rw [if_pos hx, if_pos (List.mem_cons_of_mem _ hx)]
  · rw [if_neg hx, if_neg (by simp [hxy, hx])]; rfl
theorem mput_ents (h : LabE E) (x : Lab) : ∀ ks : List Lab, mput (eqKey E 34) (.agg [.bool x.1, .str x.2]) (.bool true) (ents ks) = some (ents (keyIn ks x))
  | [] => rfl
  | y :: r => by
    show (match eqKey E 34 (.agg [.bool x.1, .str x.2]) (.agg [.bool y.1, .str y.2]) with
      | some true => some ((V.agg [.bool x.1, .str x.2], V.bool true) :: ents r)
      | some false => (match mput (eqKey E 34) (.agg [.bool x.1, .str x.2]) (.bool true) (ents r) with
        | some r' => some ((V.agg [.bool y.1, .str y.2], V.bool true) :: r')
        | none => none)
      | none => none) = _
    rw [eqKey_lab h, mput_ents h x r]
    by_cases hxy : x = y
    · rw [decide_eq_true (show ((x.1, x.2) : Lab) = (y.1, y.2) from hxy)]
      subst hxy
      unfold keyIn
      rw [if_pos (List.mem_cons_self ..)]
      rfl
    · rw [decide_eq_false (show ¬ ((x.1, x.2) : Lab) = (y.1, y.2) from hxy), keyIn_cons y r x hxy]
      rfl
theorem store_new (h : LabE E) (a : Bool) (s : List Nat) : storeAt E (σ ++ [.cells 34 [.bool false, .str []] true]) 34 (.ref σ.length 0) (.agg [.bool a, .str s]) = some (σ ++ [.cells 34 [.bool a, .str s] true]) := by
  unfold storeAt
  simp only [h.ty34]
  rw [List.getElem?_append_right (Nat.le_refl _), Nat.sub_self]
  refine (if_pos rfl).trans ?_
  rw [List.set_append_right _ _ (Nat.le_refl _), Nat.sub_self]
  rfl
theorem load_new (h : LabE E) (a : Bool) (s : List Nat) : loadAt E (σ ++ [.cells 34 [.bool a, .str s] true]) 34 (.ref σ.length 0) = some (.agg [.bool a, .str s]) := by
  unfold loadAt
  simp only [h.ty34]
  rw [List.getElem?_append_right (Nat.le_refl _), Nat.sub_self]
  rfl
theorem load_map (h : LabE E) {b m : Nat} (hb : σ[b]? = some (.cells 32 [.mp m] true)) : loadAt E σ 28 (.ref b 0) = some (.mp m) := by
  unfold loadAt
  simp only [h.ty28, hb]
  rfl
theorem put_map (h : LabE E) {m : Nat} {ks : List Lab} (hm : σ[m]? = some (.map (ents ks))) (x : Lab) : mapUpdate E σ 28 (.mp m) (.agg [.bool x.1, .str x.2]) (.bool true) = some (σ.set m (.map (ents (keyIn ks x)))) := by
  unfold mapUpdate
  simp only [h.ty28, keyOk_lab h, hm, mput_ents h]
  rfl
theorem len_map (h : LabE E) {m : Nat} {ks : List Lab} (hm : σ[m]? = some (.map (ents ks))) : lenOf E σ 28 (.mp m) = some ks.length := by
  unfold lenOf
  simp only [h.ty28, hm]
  simp [ents]
theorem Add_loop (h : LabE E) {b m : Nat} {ks l : List Lab} {v : V} {n0 : Int} (hsm : l.length ≤ 10000000000) {σ0 : Sg} {s : List Kont} {Q : Ax.X → Fr → Sg → Prop}
    (hQ : ∀ (F' : FT) (σ' : Sg), SetAt σ' b m (keys ks l) → Kp σ0 σ' m → F'.get 0 = .ref b 0 → F'.get 5 = .int .i64 n0 → M E s .normal ⟨48, F'⟩ σ' Q) :
    ∀ (k i : Nat) (F : FT) (σ' : Sg), i + k = l.length → SetAt σ' b m (keys ks (l.take i)) → SV σ' v l → Kp σ0 σ' m → F.get 0 = .ref b 0 → F.get 5 = .int .i64 n0 → F.get 27 = v → F.get 28 = .int .i64 (l.length : Int) → F.get 29 = .int .i64 (i : Int) →
      R E (.loop (cutAt [1, 1, 1, 1, 0, 1, 2, 2] (fnOf Tryz.f14).code)) (.blk 0 :: s) ⟨48, F⟩ σ' Q := by
  have d9 := h.d14_9
  simp only [fnOf, Tryz.f14, cutAt, Option.getD_some] at d9
  intro k
  induction k with
  | zero =>
    intro i F σ' hi hs hv hk g0 g5 g27 g28 g29
    have hlt : decide ((i : Int) < (l.length : Int)) = false := decide_eq_false (by omega)
    rw [Ax.r_loop]
    simp only [fnOf, Tryz.f14, KP, ↓reduceIte, Nat.reduceEqDiff, Nat.reduceLT, Nat.reduceLeDiff, Nat.reduceAdd, Nat.reduceMul, Nat.reduceBEq, reduceCtorEq, Int.reduceEq, Int.reduceLT, Int.reduceLE, Int.reduceAdd, Int.reduceSub, Int.reduceNeg, h.ty3, h.ty4, h.ty9, h.ty34, h.ty22, h.ty25, h.ty28, h.ty30, h.ty32, h.ty61, h.eq34, cutAt, g0, g5, g27, g28, g29, hlt]
    rw [List.take_of_length_le (by omega)] at hs
    refine hQ _ _ hs hk ?_ ?_ <;> simp only [Ax.FT.fill, Ax.FT.get_set, g0, g5, KP, ↓reduceIte, Nat.reduceEqDiff, Nat.reduceLT, Nat.reduceLeDiff, Nat.reduceAdd, Nat.reduceMul, Nat.reduceBEq, reduceCtorEq, Int.reduceEq, Int.reduceLT, Int.reduceLE, Int.reduceAdd, Int.reduceSub, Int.reduceNeg]
  | succ k ih =>
    intro i F σ' hi hs hv hk g0 g5 g27 g28 g29
    have hlt : decide ((i : Int) < (l.length : Int)) = true := decide_eq_true (by omega)
    obtain ⟨x, hx⟩ : ∃ x, l[i]? = some x := ⟨_, List.getElem?_eq_getElem (by omega)⟩
    obtain ⟨pa, e1, e2⟩ := elem_SV h hv hx
    have e2 := e2 _ (KeepC.refl _)
    have hadd := wr_succ i (by omega)
    have lm := load_map h (get_app hs.obj [.cells 34 [.bool x.1, .str x.2] true])
    have pm := put_map h (get_app hs.map [.cells 34 [.bool x.1, .str x.2] true]) x
    rw [Ax.r_loop]
    simp only [fnOf, Tryz.f14, KP, ↓reduceIte, Nat.reduceEqDiff, Nat.reduceLT, Nat.reduceLeDiff, Nat.reduceAdd, Nat.reduceMul, Nat.reduceBEq, reduceCtorEq, Int.reduceEq, Int.reduceLT, Int.reduceLE, Int.reduceAdd, Int.reduceSub, Int.reduceNeg, h.ty3, h.ty4, h.ty9, h.ty34, h.ty22, h.ty25, h.ty28, h.ty30, h.ty32, h.ty61, h.eq34, cutAt, g0, g5, g27, g28, g29, hlt, e1, e2, store_new h, load_new h, lm, pm, Ax.r_undraw d9, Ax.undraw, hadd]
    have hml := (List.getElem?_eq_some_iff.1 hs.map).1
    refine ih (i + 1) _ _ (by omega) ⟨?_, ?_, ?_⟩ ?_ ?_ ?_ ?_ ?_ ?_ ?_
    · rw [List.getElem?_set_ne hs.ne.symm]
      exact get_app hs.obj _
    · rw [List.getElem?_set_self (by rw [List.length_append]; omega)]
      rw [List.take_add_one, hx]
      show some (O.map (ents (keyIn (keys ks (l.take i)) x))) = some (O.map (ents (List.foldl keyIn ks (l.take i ++ [x]))))
      rw [List.foldl_append]
      rfl
    · rw [List.take_add_one, hx]
      show (List.foldl keyIn ks (l.take i ++ [x])).Nodup
      rw [List.foldl_append]
      exact keyIn_nodup hs.nodup
    · refine hv.keep fun j t cs ex e => ?_
      rw [List.getElem?_set_ne (fun hj => by subst hj; rw [hs.map] at e; cases e)]
      exact get_app e _
    · refine hk.trans fun j o hj e => ?_
      rw [List.getElem?_set_ne (fun h => hj h.symm)]
      exact get_app e _
    all_goals simp only [Ax.FT.fill, Ax.FT.get_set, g0, g5, g27, g28, KP, ↓reduceIte, Nat.reduceEqDiff, Nat.reduceLT, Nat.reduceLeDiff, Nat.reduceAdd, Nat.reduceMul, Nat.reduceBEq, reduceCtorEq, Int.reduceEq, Int.reduceLT, Int.reduceLE, Int.reduceAdd, Int.reduceSub, Int.reduceNeg]
theorem wr_sub (a b : Nat) (ha : a ≤ 1000000000000) (hb : b ≤ 1000000000000) : wr .i64 ((a : Int) - (b : Int)) = (a : Int) - (b : Int) := by
  rw [wr_old, if_pos]
  rw [Bool.and_eq_true, decide_eq_true_eq, decide_eq_true_eq]
  exact ⟨show (-9223372036854775808 : Int) ≤ _ by omega, show _ ≤ (9223372036854775807 : Int) by omega⟩
theorem b_Add (h : LabE E) {b m : Nat} {ks l : List Lab} {v : V} (hs : SetAt σ b m ks) (hv : SV σ v l) (hsm : l.length ≤ 10000000000) (hks : ks.length ≤ 10000000000) :
    WpCall E 14 [.ref b 0, v] σ fun r σ' => r = .int .i64 (((keys ks l).length : Int) - (ks.length : Int)) ∧ SetAt σ' b m (keys ks l) ∧ Kp σ σ' m := by
  rw [wpCall_shared h.hs14 h.sp14 h.fn14 h.md14, enterF (by kernel_rfl)]
  have lm := load_map h hs.obj
  have lk := len_map h hs.map
  have lv : lenOf E σ 22 v = some l.length := len_SV h hv
  simp only [fnOf, Tryz.f14, KP, ↓reduceIte, Nat.reduceEqDiff, Nat.reduceLT, Nat.reduceLeDiff, Nat.reduceAdd, Nat.reduceMul, Nat.reduceBEq, reduceCtorEq, Int.reduceEq, Int.reduceLT, Int.reduceLE, Int.reduceAdd, Int.reduceSub, Int.reduceNeg, h.ty3, h.ty4, h.ty9, h.ty34, h.ty22, h.ty25, h.ty28, h.ty30, h.ty32, h.ty61, h.eq34, lm, lk, lv, Ax.eqV]
  refine Add_loop h hsm (σ0 := σ) (n0 := (ks.length : Int)) (fun F' σ' hs' hk' g0 g5 => ?_) l.length 0 _ σ (by omega) hs hv (Kp.refl _ _) ?_ ?_ ?_ ?_ ?_
  · have lm2 := load_map h hs'.obj
    have lk2 := len_map h hs'.map
    have hl := keys_length (xs := l) (l := ks)
    have hsub := wr_sub (keys ks l).length ks.length (by omega) (by omega)
    simp only [fnOf, Tryz.f14, KP, ↓reduceIte, Nat.reduceEqDiff, Nat.reduceLT, Nat.reduceLeDiff, Nat.reduceAdd, Nat.reduceMul, Nat.reduceBEq, reduceCtorEq, Int.reduceEq, Int.reduceLT, Int.reduceLE, Int.reduceAdd, Int.reduceSub, Int.reduceNeg, h.ty3, h.ty4, h.ty9, h.ty34, h.ty22, h.ty25, h.ty28, h.ty30, h.ty32, h.ty61, h.eq34, lm2, lk2, g0, g5, hsub]
    exact ⟨hs', hk'⟩
  all_goals simp only [Ax.FT.fill, Ax.FT.get_set, KP, ↓reduceIte, Nat.reduceEqDiff, Nat.reduceLT, Nat.reduceLeDiff, Nat.reduceAdd, Nat.reduceMul, Nat.reduceBEq, reduceCtorEq, Int.reduceEq, Int.reduceLT, Int.reduceLE, Int.reduceAdd, Int.reduceSub, Int.reduceNeg]
  all_goals rfl
end
end Go.Proofs.YtmbhjdkbcgngiaaGreatDoor
end
section
set_option linter.unusedVariables false
set_option linter.unusedSimpArgs false
set_option maxHeartbeats 2000000
set_option maxRecDepth 10000
namespace Go.Proofs.YtmbhjdkbcgngiaaGreatDoor
open Go Go.Ax Go.AxS
section
variable {E : Env} {σ : Sg} {K : V → Sg → Prop}
theorem load_nil (h : LabE E) {b : Nat} (hb : σ[b]? = some (.cells 32 [.nilm] true)) : loadAt E σ 28 (.ref b 0) = some .nilm := by
  unfold loadAt
  simp only [h.ty28, hb]
  rfl
theorem store_map (h : LabE E) {b m : Nat} {u : V} (hb : σ[b]? = some (.cells 32 [u] true)) : storeAt E σ 28 (.ref b 0) (.mp m) = some (σ.set b (.cells 32 [.mp m] true)) := by
  unfold storeAt
  simp only [h.ty28, hb]
  rfl
theorem b_AddNil (h : LabE E) {b : Nat} {l : List Lab} {v : V} (hb : σ[b]? = some (.cells 32 [.nilm] true)) (hv : SV σ v l) (hsm : l.length ≤ 10000000000) :
    WpCall E 14 [.ref b 0, v] σ fun r σ' => ∃ m, SetAt σ' b m (keys [] l) ∧ σ.length ≤ m ∧ ∀ j o, j ≠ b → σ[j]? = some o → σ'[j]? = some o := by
  rw [wpCall_shared h.hs14 h.sp14 h.fn14 h.md14, enterF (by kernel_rfl)]
  have hbl := (List.getElem?_eq_some_iff.1 hb).1
  have ln := load_nil h hb
  have st := store_map h (m := σ.length) (get_app hb [.map []])
  have hs1 : SetAt ((σ ++ [O.map []]).set b (.cells 32 [.mp σ.length] true)) b σ.length [] := by
    refine ⟨List.getElem?_set_self (by rw [List.length_append]; omega), ?_, List.nodup_nil⟩
    rw [List.getElem?_set_ne (by omega), List.getElem?_append_right (Nat.le_refl _), Nat.sub_self]
    rfl
  have hk1 : ∀ j o, j ≠ b → σ[j]? = some o → ((σ ++ [O.map []]).set b (.cells 32 [.mp σ.length] true))[j]? = some o := fun j o hj e => by
    rw [List.getElem?_set_ne (fun e => hj e.symm)]
    exact get_app e _
  have hv1 : SV ((σ ++ [O.map []]).set b (.cells 32 [.mp σ.length] true)) v l := by
    rcases hv with hv | hv | ⟨j, cs, ex, e1, e2, e3⟩
    · exact .inl hv
    · exact .inr (.inl hv)
    · refine .inr (.inr ⟨j, cs, ex, e1, hk1 j _ (fun e => ?_) e2, e3⟩)
      subst e; rw [hb] at e2; cases e2
  have lm := load_map h hs1.obj
  have lk := len_map h hs1.map
  have lv : ∀ σ', lenOf E σ' 22 v = some l.length := fun σ' => by
    unfold lenOf
    rw [h.ty22]
    rcases hv with ⟨rfl, rfl⟩ | ⟨g, full, rfl⟩ | ⟨j, cs, ex, rfl, e2, e3⟩
    · rfl
    · simp
    · rfl
  simp only [fnOf, Tryz.f14, KP, ↓reduceIte, Nat.reduceEqDiff, Nat.reduceLT, Nat.reduceLeDiff, Nat.reduceAdd, Nat.reduceMul, Nat.reduceBEq, reduceCtorEq, Int.reduceEq, Int.reduceLT, Int.reduceLE, Int.reduceAdd, Int.reduceSub, Int.reduceNeg, h.ty3, h.ty4, h.ty9, h.ty34, h.ty22, h.ty25, h.ty28, h.ty30, h.ty32, h.ty61, h.eq34, ln, st, lm, lk, lv, Ax.eqV]
  refine Add_loop h hsm (σ0 := (σ ++ [O.map []]).set b (.cells 32 [.mp σ.length] true)) (n0 := 0) (fun F' σ' hs' hk' g0 g5 => ?_) l.length 0 _ _ (by omega) hs1 hv1 (Kp.refl _ _) ?_ ?_ ?_ ?_ ?_
  · have lm2 := load_map h hs'.obj
    have lk2 := len_map h hs'.map
    simp only [fnOf, Tryz.f14, KP, ↓reduceIte, Nat.reduceEqDiff, Nat.reduceLT, Nat.reduceLeDiff, Nat.reduceAdd, Nat.reduceMul, Nat.reduceBEq, reduceCtorEq, Int.reduceEq, Int.reduceLT, Int.reduceLE, Int.reduceAdd, Int.reduceSub, Int.reduceNeg, h.ty3, h.ty4, h.ty9, h.ty34, h.ty22, h.ty25, h.ty28, h.ty30, h.ty32, h.ty61, h.eq34, lm2, lk2, g0, g5]
    refine ⟨σ.length, hs', Nat.le_refl _, fun j o hj e => ?_⟩
    have hjl := (List.getElem?_eq_some_iff.1 e).1
    exact hk' j o (by omega) (hk1 j o hj e)
  all_goals simp only [Ax.FT.fill, Ax.FT.get_set, KP, ↓reduceIte, Nat.reduceEqDiff, Nat.reduceLT, Nat.reduceLeDiff, Nat.reduceAdd, Nat.reduceMul, Nat.reduceBEq, reduceCtorEq, Int.reduceEq, Int.reduceLT, Int.reduceLE, Int.reduceAdd, Int.reduceSub, Int.reduceNeg]
  all_goals rfl
theorem b_New (h : LabE E) {l : List Lab} {v : V} (hv : SV σ v l) (hsm : l.length ≤ 10000000000) :
    WpCall E 11 [v] σ fun r σ' => ∃ m, r = .ref σ.length 0 ∧ SetAt σ' σ.length m (keys [] l) ∧ σ.length < m ∧ Kall σ σ' := by
  rw [wpCall_shared h.hs11 h.sp11 h.fn11 h.md11, enterF (by kernel_rfl)]
  simp only [fnOf, Tryz.f11, KP, ↓reduceIte, Nat.reduceEqDiff, Nat.reduceLT, Nat.reduceLeDiff, Nat.reduceAdd, Nat.reduceMul, Nat.reduceBEq, reduceCtorEq, Int.reduceEq, Int.reduceLT, Int.reduceLE, Int.reduceAdd, Int.reduceSub, Int.reduceNeg, h.ty3, h.ty4, h.ty9, h.ty34, h.ty22, h.ty25, h.ty28, h.ty30, h.ty32, h.ty61, h.eq34, Ax.fill, Ax.placeOf]
  have hb : (σ ++ [O.cells 32 [.nilm] true])[σ.length]? = some (.cells 32 [.nilm] true) := by
    rw [List.getElem?_append_right (Nat.le_refl _), Nat.sub_self]; rfl
  refine callK_intro (b_AddNil h hb (hv.keep (KeepC.app _ _)) hsm) ?_
  rintro r σ' ⟨m, hs, hm, hk⟩
  simp only [fnOf, Tryz.f11, KP, ↓reduceIte, Nat.reduceEqDiff, Nat.reduceLT, Nat.reduceLeDiff, Nat.reduceAdd, Nat.reduceMul, Nat.reduceBEq, reduceCtorEq, Int.reduceEq, Int.reduceLT, Int.reduceLE, Int.reduceAdd, Int.reduceSub, Int.reduceNeg, h.ty3, h.ty4, h.ty9, h.ty34, h.ty22, h.ty25, h.ty28, h.ty30, h.ty32, h.ty61, h.eq34]
  rw [List.length_append] at hm
  refine ⟨m, hs, by simp at hm; omega, fun j o e => ?_⟩
  have hjl := (List.getElem?_eq_some_iff.1 e).1
  exact hk j o (by omega) (get_app e _)
theorem rows_ents (ks : List Lab) : (ents ks).map (fun (e : V × V) => rowOf e.1) = ks.map row := by
  unfold ents
  rw [List.map_map]
  rfl
theorem allRows_ks : ∀ ks : List Lab, (∀ k ∈ ks, k.2.length ≤ 9223372036854775807) → allRows labRow (ks.map row) = true
  | [], _ => rfl
  | k :: ks, hk => by
    show (match Nat.ble k.2.length 9223372036854775807 with
      | true => allRows labRow (ks.map row)
      | false => false) = true
    rw [Nat.ble_eq_true_of_le (hk k (List.mem_cons_self ..))]
    exact allRows_ks ks fun x hx => hk x (List.mem_cons_of_mem _ hx)
theorem sorted_hs {ks : List Lab} (hn : ks.Nodup) (hlen : ks.length ≤ 1000000) (hstr : ∀ k ∈ ks, k.2.length ≤ 9223372036854775807) {j m : Nat} (hj : σ[j]? = some (.cells 28 [.mp m] true)) (hm : σ[m]? = some (.map (ents ks))) :
    hSortedLab 34 [95] [] 55 [.fn 95 [] [.ref j 0], .fn 55 [] []] σ = some (if ks = [] then (.nils, σ) else (.sl σ.length 0 ks.length none, σ ++ [.cells 34 ((setOf ks).flatMap row) false])) := by
  have hk : keysOf σ [95] [] (.fn 95 [] [.ref j 0]) = some (ks.map row) := by
    unfold keysOf
    simp only [hj]
    show (match σ[m]? with
      | some (.map es) => some (es.map fun (e : V × V) => rowOf e.1)
      | _ => none) = _
    rw [hm]
    exact congrArg some (rows_ents ks)
  show hSorted 34 [95] [] labRow labLt (.fn 95 [] [.ref j 0]) σ = _
  unfold hSorted
  rw [hk]
  cases hks : ks with
  | nil => rfl
  | cons k r =>
    have ha := allRows_ks ks hstr
    have hs := sortK_row hn
    rw [hks] at ha hs hlen
    rw [List.map_cons] at ha hs ⊢
    rw [if_neg (by simp)]
    show (match allRows labRow (row k :: r.map row), Nat.ble (row k :: r.map row).length 1000000 with
      | true, true => some (V.sl σ.length 0 (row k :: r.map row).length none, σ ++ [O.cells 34 (sortK labLt (row k :: r.map row)).flatten false])
      | _, _ => none) = _
    rw [ha, Nat.ble_eq_true_of_le (by simpa using hlen), hs, flat_map]
    simp
theorem b_Keys (h : LabE E) {m : Nat} : WpCall E 54 [.mp m] σ K = K (.fn 95 [] [.ref σ.length 0]) (σ ++ [.cells 28 [.mp m] true]) := by
  refine WpCall.of ?_
  rw [wpCall_shared h.hs54 h.sp54 h.fn54 h.md54, enterF (by kernel_rfl)]
  simp only [fnOf, Tryz.f54, KP, Ax.lenOf, Ax.loadAt, Ax.storeAt, ↓reduceIte, Nat.reduceEqDiff, Nat.reduceLT, Nat.reduceLeDiff, Nat.reduceAdd, Nat.reduceMul, Nat.reduceBEq, reduceCtorEq, Int.reduceEq, Int.reduceLT, Int.reduceLE, Int.reduceAdd, Int.reduceSub, Int.reduceNeg, h.ty3, h.ty4, h.ty9, h.ty34, h.ty22, h.ty25, h.ty28, h.ty30, h.ty32, h.ty61, h.eq34]
theorem k_Keys (h : LabE E) {m : Nat} {ops : Array Oper} {l : List Oper} {dst : Option Nat} {st : List Kont} {Q : Ax.X → Fr → Sg → Prop} {fr : Fr} : CallK E 54 [.mp m] σ dst fr ops l st Q = RunK E ops l (some (putS fr dst (.fn 95 [] [.ref σ.length 0]), σ ++ [.cells 28 [.mp m] true])) st Q := callK_of fun _ => b_Keys h
/-- a list of labels that is the caller's own -/
def Own (σ σ' : Sg) (r : V) (l : List Lab) : Prop := (r = .nils ∧ l = []) ∨ ∃ j, σ.length ≤ j ∧ r = .sl j 0 l.length none ∧ σ'[j]? = some (.cells 34 (l.flatMap row) false)
theorem Own.sv {σ σ' : Sg} {r : V} {l : List Lab} (h : Own σ σ' r l) : SV σ' r l := by
  rcases h with h | ⟨j, _, h1, h2⟩
  · exact .inl h
  · exact .inr (.inr ⟨j, _, _, h1, h2, List.take_of_length_le (by rw [flat_length]; exact Nat.le_refl _)⟩)
theorem b_All (h : LabE E) {b m : Nat} {ks : List Lab} (hs : SetAt σ b m ks) (hlen : ks.length ≤ 1000000) (hstr : ∀ k ∈ ks, k.2.length ≤ 9223372036854775807) :
    WpCall E 12 [.ref b 0] σ fun r σ' => Own σ σ' r (setOf ks) ∧ Kall σ σ' := by
  rw [wpCall_shared h.hs12 h.sp12 h.fn12 h.md12, enterF (by kernel_rfl)]
  have lm := load_map h hs.obj
  simp only [fnOf, Tryz.f12, KP, ↓reduceIte, Nat.reduceEqDiff, Nat.reduceLT, Nat.reduceLeDiff, Nat.reduceAdd, Nat.reduceMul, Nat.reduceBEq, reduceCtorEq, Int.reduceEq, Int.reduceLT, Int.reduceLE, Int.reduceAdd, Int.reduceSub, Int.reduceNeg, h.ty3, h.ty4, h.ty9, h.ty34, h.ty22, h.ty25, h.ty28, h.ty30, h.ty32, h.ty61, h.eq34, lm, Ax.eqV, k_Keys h]
  have hj : (σ ++ [O.cells 28 [.mp m] true])[σ.length]? = some (.cells 28 [.mp m] true) := by
    rw [List.getElem?_append_right (Nat.le_refl _), Nat.sub_self]; rfl
  have hsk := sorted_hs hs.nodup hlen hstr hj (get_app hs.map _)
  unfold CallK
  rw [wpCall_hspec h.hs53, hsk]
  by_cases hks : ks = []
  · rw [if_pos hks, got_some]
    simp only [fnOf, Tryz.f12, KP, ↓reduceIte, Nat.reduceEqDiff, Nat.reduceLT, Nat.reduceLeDiff, Nat.reduceAdd, Nat.reduceMul, Nat.reduceBEq, reduceCtorEq, Int.reduceEq, Int.reduceLT, Int.reduceLE, Int.reduceAdd, Int.reduceSub, Int.reduceNeg, h.ty3, h.ty4, h.ty9, h.ty34, h.ty22, h.ty25, h.ty28, h.ty30, h.ty32, h.ty61, h.eq34]
    subst hks
    exact ⟨.inl ⟨rfl, rfl⟩, Kall.app _ _⟩
  · rw [if_neg hks, got_some]
    simp only [fnOf, Tryz.f12, KP, ↓reduceIte, Nat.reduceEqDiff, Nat.reduceLT, Nat.reduceLeDiff, Nat.reduceAdd, Nat.reduceMul, Nat.reduceBEq, reduceCtorEq, Int.reduceEq, Int.reduceLT, Int.reduceLE, Int.reduceAdd, Int.reduceSub, Int.reduceNeg, h.ty3, h.ty4, h.ty9, h.ty34, h.ty22, h.ty25, h.ty28, h.ty30, h.ty32, h.ty61, h.eq34]
    refine ⟨.inr ⟨_, ?_, by rw [setOf_length hs.nodup], ?_⟩, fun j o e => get_app (get_app e _) _⟩
    · rw [List.length_append]; omega
    · rw [List.getElem?_append_right (Nat.le_refl _), Nat.sub_self]; rfl
end
end Go.Proofs.YtmbhjdkbcgngiaaGreatDoor
end
section
set_option linter.unusedVariables false
set_option linter.unusedSimpArgs false
set_option maxHeartbeats 2000000
set_option maxRecDepth 10000
namespace Go.Proofs.YtmbhjdkbcgngiaaGreatDoor
open Go Go.Ax Go.AxS
section
variable {E : Env} {σ : Sg} {K : V → Sg → Prop}
theorem b_all (h : LabE E) {b m : Nat} {ks : List Lab} (hs : SetAt σ b m ks) (hlen : ks.length ≤ 1000000) (hstr : ∀ k ∈ ks, k.2.length ≤ 9223372036854775807) :
    WpCall E 56 [.ref b 0] σ fun r σ' => Own σ σ' r (setOf ks) ∧ Kall σ σ' := by
  rw [wpCall_shared h.hs56 h.sp56 h.fn56 h.md56, enterF (by kernel_rfl)]
  simp only [fnOf, Tryz.f56, KP, ↓reduceIte, Nat.reduceEqDiff, Nat.reduceLT, Nat.reduceLeDiff, Nat.reduceAdd, Nat.reduceMul, Nat.reduceBEq, reduceCtorEq, Int.reduceEq, Int.reduceLT, Int.reduceLE, Int.reduceAdd, Int.reduceSub, Int.reduceNeg, h.ty3, h.ty4, h.ty9, h.ty34, h.ty22, h.ty25, h.ty28, h.ty30, h.ty32, h.ty61, h.eq34, Ax.eqV]
  refine callK_intro (b_All h hs hlen hstr) ?_
  rintro r σ' ⟨h1, h2⟩
  simp only [fnOf, Tryz.f56, KP, ↓reduceIte, Nat.reduceEqDiff, Nat.reduceLT, Nat.reduceLeDiff, Nat.reduceAdd, Nat.reduceMul, Nat.reduceBEq, reduceCtorEq, Int.reduceEq, Int.reduceLT, Int.reduceLE, Int.reduceAdd, Int.reduceSub, Int.reduceNeg, h.ty3, h.ty4, h.ty9, h.ty34, h.ty22, h.ty25, h.ty28, h.ty30, h.ty32, h.ty61, h.eq34]
  exact ⟨h1, h2⟩
theorem mapO_idg {α : Type} {f : α → Option α} : ∀ l : List α, (∀ x ∈ l, f x = some x) → mapO f l = some l
  | [], _ => rfl
  | x :: l, h => by rw [mapO, h x (List.mem_cons_self ..), mapO_idg l fun y hy => h y (List.mem_cons_of_mem _ hy)]
theorem snap_set {b m : Nat} {ks : List Lab} (hs : SetAt σ b m ks) : snapV σ E.ty true (.ref b 0) = some (.ipt true [.imp true (ents ks)]) := by
  have e1 : snapC σ E.ty true 11 (.mp m) = some (.imp true (ents ks)) := by
    rw [snapC]
    simp only [hs.map]
    rw [mapO_idg (ents ks)]
    intro e he
    obtain ⟨k, _, rfl⟩ := List.mem_map.1 he
    rfl
  have e2 : snapC σ E.ty true 12 (.ref b 0) = some (.ipt true [.imp true (ents ks)]) := by
    rw [snapC]
    simp only [hs.obj, List.drop_zero]
    show (match mapO (fun v => match snapC σ E.ty true 11 v with
      | some v => if tagOk true v then some v else no "snap: borrowed"
      | none => none) [V.mp m] with
      | some l => some (V.ipt true l)
      | none => none) = _
    simp only [mapO, e1]
    rfl
  show (match snapC σ E.ty true 12 (.ref b 0) with
    | some v => if tagOk true v then some v else no "snap: borrowed"
    | none => none) = _
  rw [e2]
  rfl
theorem mfind_ents (h : LabE E) (x : Lab) : ∀ ks : List Lab, mfind (Ax.eqKey E 34) (.agg [.bool x.1, .str x.2]) (ents ks) = some (if x ∈ ks then some (.bool true) else none)
  | [] => rfl
  | y :: r => by
    show (match Ax.eqKey E 34 (.agg [.bool x.1, .str x.2]) (.agg [.bool y.1, .str y.2]) with
      | some true => some (some (V.bool true))
      | some false => mfind (Ax.eqKey E 34) (.agg [.bool x.1, .str x.2]) (ents r)
      | none => none) = _
    rw [eqKey_lab h, mfind_ents h x r]
    by_cases hxy : x = y
    · rw [decide_eq_true (show ((x.1, x.2) : Lab) = (y.1, y.2) from hxy)]
      show some (some (V.bool true)) = some (if x ∈ y :: r then some (V.bool true) else none)
      rw [if_pos (by rw [hxy]; exact List.mem_cons_self ..)]
    · rw [decide_eq_false (show ¬ ((x.1, x.2) : Lab) = (y.1, y.2) from hxy)]
      by_cases hx : x ∈ r
      · rw [if_pos hx, if_pos (List.mem_cons_of_mem _ hx)]
      · rw [if_neg hx, if_neg (by simp [hxy, hx])]
theorem b_Has (h : LabE E) {b m : Nat} {ks : List Lab} (hs : SetAt σ b m ks) (x : Lab) : WpCall E 19 [.ref b 0, .agg [.bool x.1, .str x.2]] σ K = K (.bool (decide (x ∈ ks))) σ := by
  refine WpCall.of ?_
  have e1 := snap_set (E := E) hs
  have e2 : snapV σ E.ty true (.agg [.bool x.1, .str x.2]) = some (.agg [.bool x.1, .str x.2]) := rfl
  have d1 := h.d19_1
  simp only [fnOf, Tryz.f19, cutAt, Option.getD_some] at d1
  rw [wpCall_iso h.hs19 h.sp19 h.fn19 h.md19 (args' := [.ipt true [.imp true (ents ks)], .agg [.bool x.1, .str x.2]]) (by simp only [mapO, e1, e2]), enterF (by kernel_rfl)]
  by_cases hx : x ∈ ks
  · simp only [fnOf, Tryz.f19, KP, ↓reduceIte, Nat.reduceEqDiff, Nat.reduceLT, Nat.reduceLeDiff, Nat.reduceAdd, Nat.reduceMul, Nat.reduceBEq, reduceCtorEq, Int.reduceEq, Int.reduceLT, Int.reduceLE, Int.reduceAdd, Int.reduceSub, Int.reduceNeg, h.ty3, h.ty4, h.ty9, h.ty34, h.ty22, h.ty25, h.ty28, h.ty30, h.ty32, h.ty61, h.eq34, Ax.eqV, Ax.r_undraw d1, Ax.undraw, Ax.lookup, keyOk_lab h, Ax.entriesOf, mfind_ents h, hx, Ax.loadAt]
    exact rfl
  · simp only [fnOf, Tryz.f19, KP, ↓reduceIte, Nat.reduceEqDiff, Nat.reduceLT, Nat.reduceLeDiff, Nat.reduceAdd, Nat.reduceMul, Nat.reduceBEq, reduceCtorEq, Int.reduceEq, Int.reduceLT, Int.reduceLE, Int.reduceAdd, Int.reduceSub, Int.reduceNeg, h.ty3, h.ty4, h.ty9, h.ty34, h.ty22, h.ty25, h.ty28, h.ty30, h.ty32, h.ty61, h.eq34, Ax.eqV, Ax.r_undraw d1, Ax.undraw, Ax.lookup, keyOk_lab h, Ax.entriesOf, mfind_ents h, hx, Ax.loadAt]
    exact rfl
/-- what a union, where it is shared, comes to -/
structure UnionE (E : Env) : Prop where
  hs : E.hspec 13 = none
  sp : E.spec 13 = none
  fn : E.fn 13 = some (fnOf Tryz.f13)
  md : E.mode 13 = .shared
theorem b_Union (h : LabE E) (u : UnionE E) {b m b2 m2 : Nat} {ks ks2 : List Lab} (hs : SetAt σ b m ks) (hs2 : SetAt σ b2 m2 ks2) (hlen : ks.length ≤ 1000000) (hlen2 : ks2.length ≤ 1000000)
    (hstr : ∀ k ∈ ks, k.2.length ≤ 9223372036854775807) (hstr2 : ∀ k ∈ ks2, k.2.length ≤ 9223372036854775807) :
    WpCall E 13 [.ref b 0, .ref b2 0] σ fun r σ' => ∃ bu mu, r = .ref bu 0 ∧ SetAt σ' bu mu (keys (keys [] (setOf ks)) (setOf ks2)) ∧ σ.length ≤ bu ∧ σ.length ≤ mu ∧ Kall σ σ' := by
  rw [wpCall_shared u.hs u.sp u.fn u.md, enterF (by kernel_rfl)]
  simp only [fnOf, Tryz.f13, KP, ↓reduceIte, Nat.reduceEqDiff, Nat.reduceLT, Nat.reduceLeDiff, Nat.reduceAdd, Nat.reduceMul, Nat.reduceBEq, reduceCtorEq, Int.reduceEq, Int.reduceLT, Int.reduceLE, Int.reduceAdd, Int.reduceSub, Int.reduceNeg, h.ty3, h.ty4, h.ty9, h.ty34, h.ty22, h.ty25, h.ty28, h.ty30, h.ty32, h.ty61, h.eq34]
  refine callK_intro (b_all h hs hlen hstr) ?_
  rintro r1 σ1 ⟨o1, k1⟩
  simp only [fnOf, Tryz.f13, KP, ↓reduceIte, Nat.reduceEqDiff, Nat.reduceLT, Nat.reduceLeDiff, Nat.reduceAdd, Nat.reduceMul, Nat.reduceBEq, reduceCtorEq, Int.reduceEq, Int.reduceLT, Int.reduceLE, Int.reduceAdd, Int.reduceSub, Int.reduceNeg, h.ty3, h.ty4, h.ty9, h.ty34, h.ty22, h.ty25, h.ty28, h.ty30, h.ty32, h.ty61, h.eq34]
  have l1 : (setOf ks).length = ks.length := setOf_length hs.nodup
  have l2 : (setOf ks2).length = ks2.length := setOf_length hs2.nodup
  refine callK_intro (b_New h o1.sv (by omega)) ?_
  rintro r2 σ2 ⟨m3, rfl, s3, hm3, k2⟩
  simp only [fnOf, Tryz.f13, KP, ↓reduceIte, Nat.reduceEqDiff, Nat.reduceLT, Nat.reduceLeDiff, Nat.reduceAdd, Nat.reduceMul, Nat.reduceBEq, reduceCtorEq, Int.reduceEq, Int.reduceLT, Int.reduceLE, Int.reduceAdd, Int.reduceSub, Int.reduceNeg, h.ty3, h.ty4, h.ty9, h.ty34, h.ty22, h.ty25, h.ty28, h.ty30, h.ty32, h.ty61, h.eq34]
  refine callK_intro (b_all h (hs2.kall (k1.trans k2)) hlen2 hstr2) ?_
  rintro r3 σ3 ⟨o3, k3⟩
  simp only [fnOf, Tryz.f13, KP, ↓reduceIte, Nat.reduceEqDiff, Nat.reduceLT, Nat.reduceLeDiff, Nat.reduceAdd, Nat.reduceMul, Nat.reduceBEq, reduceCtorEq, Int.reduceEq, Int.reduceLT, Int.reduceLE, Int.reduceAdd, Int.reduceSub, Int.reduceNeg, h.ty3, h.ty4, h.ty9, h.ty34, h.ty22, h.ty25, h.ty28, h.ty30, h.ty32, h.ty61, h.eq34]
  have l3 := keys_length (xs := setOf ks) (l := [])
  simp only [List.length_nil] at l3
  have s3' := s3.kall k3
  refine callK_intro (b_Add h s3' o3.sv (by omega) (by omega)) ?_
  rintro r4 σ4 ⟨e4, s4, k4⟩
  simp only [fnOf, Tryz.f13, KP, ↓reduceIte, Nat.reduceEqDiff, Nat.reduceLT, Nat.reduceLeDiff, Nat.reduceAdd, Nat.reduceMul, Nat.reduceBEq, reduceCtorEq, Int.reduceEq, Int.reduceLT, Int.reduceLE, Int.reduceAdd, Int.reduceSub, Int.reduceNeg, h.ty3, h.ty4, h.ty9, h.ty34, h.ty22, h.ty25, h.ty28, h.ty30, h.ty32, h.ty61, h.eq34]
  have g1 : σ.length ≤ σ1.length := by
    rcases Nat.lt_or_ge σ1.length σ.length with g | g
    · have := k1 σ1.length _ (List.getElem?_eq_getElem g)
      rw [List.getElem?_eq_none (Nat.le_refl _)] at this; cases this
    · exact g
  refine ⟨_, m3, rfl, s4, g1, by omega, fun j o e => ?_⟩
  have hj := (List.getElem?_eq_some_iff.1 e).1
  exact k4 j o (by omega) (k3 _ _ (k2 _ _ (k1 _ _ e)))
end
end Go.Proofs.YtmbhjdkbcgngiaaGreatDoor
end
section
set_option linter.unusedVariables false
set_option linter.unusedSimpArgs false
set_option maxHeartbeats 2000000
set_option maxRecDepth 10000
namespace Go.Proofs.YtmbhjdkbcgngiaaGreatDoor
open Go Go.Ax Go.AxS
/-- a set of labels: in memory, or as a value -/
def TV (σ : Sg) (v : V) (ks : List Lab) : Prop := ks.Nodup ∧ ((∃ b m, v = .ref b 0 ∧ SetAt σ b m ks) ∨ ∃ g g', v = .ipt g [.imp g' (ents ks)])
def IV (v : V) (ks : List Lab) : Prop := ks.Nodup ∧ ∃ g g', v = .ipt g [.imp g' (ents ks)]
def Small (ks : List Lab) : Prop := ks.length ≤ 1000 ∧ ∀ k ∈ ks, k.2.length ≤ 9223372036854775807
section
variable {E : Env} {σ : Sg} {K : V → Sg → Prop}
theorem IV.tv {v : V} {ks : List Lab} (h : IV v ks) (σ : Sg) : TV σ v ks := ⟨h.1, .inr h.2⟩
theorem snap_TV {v : V} {ks : List Lab} (hv : TV σ v ks) : ∃ v', snapV σ E.ty true v = some v' ∧ IV v' ks := by
  obtain ⟨hn, ⟨b, m, rfl, hs⟩ | ⟨g, g', rfl⟩⟩ := hv
  · exact ⟨_, snap_set hs, hn, _, _, rfl⟩
  · exact ⟨_, rfl, hn, _, _, rfl⟩
theorem snap_setF {b m : Nat} {ks : List Lab} (hs : SetAt σ b m ks) : snapT σ E.ty false (.ref b 0) = some (.ipt false [.imp false (ents ks)]) := by
  have e1 : snapC σ E.ty false 11 (.mp m) = some (.imp false (ents ks)) := by
    rw [snapC]
    simp only [hs.map]
    rw [mapO_idg (ents ks)]
    intro e he
    obtain ⟨k, _, rfl⟩ := List.mem_map.1 he
    rfl
  have e2 : snapC σ E.ty false 12 (.ref b 0) = some (.ipt false [.imp false (ents ks)]) := by
    rw [snapC]
    simp only [hs.obj, List.drop_zero]
    show (match mapO (fun v => match snapC σ E.ty false 11 v with
      | some v => if tagOk false v then some v else no "snap: borrowed"
      | none => none) [V.mp m] with
      | some l => some (V.ipt false l)
      | none => none) = _
    simp only [mapO, e1]
    rfl
  show (match snapC σ E.ty false 12 (.ref b 0) with
    | some v => if tagOk false v then some v else no "snap: borrowed"
    | none => none) = _
  rw [e2]
  rfl
theorem load_imm (h : LabE E) (g g' : Bool) (es : List (V × V)) : loadAt E σ 28 (.ipt g [.imp g' es]) = some (.imp g' es) := by
  unfold loadAt
  rw [h.ty28]
  rfl
theorem sorted_hsI {ks : List Lab} (hn : ks.Nodup) (hlen : ks.length ≤ 1000000) (hstr : ∀ k ∈ ks, k.2.length ≤ 9223372036854775807) {j : Nat} {g : Bool} (hj : σ[j]? = some (.cells 28 [.imp g (ents ks)] true)) :
    hSortedLab 34 [95] [] 55 [.fn 95 [] [.ref j 0], .fn 55 [] []] σ = some (if ks = [] then (.nils, σ) else (.sl σ.length 0 ks.length none, σ ++ [.cells 34 ((setOf ks).flatMap row) false])) := by
  have hk : keysOf σ [95] [] (.fn 95 [] [.ref j 0]) = some (ks.map row) := by
    unfold keysOf
    simp only [hj]
    exact congrArg some (rows_ents ks)
  show hSorted 34 [95] [] labRow labLt (.fn 95 [] [.ref j 0]) σ = _
  unfold hSorted
  rw [hk]
  cases hks : ks with
  | nil => rfl
  | cons k r =>
    have ha := allRows_ks ks hstr
    have hs := sortK_row hn
    rw [hks] at ha hs hlen
    rw [List.map_cons] at ha hs ⊢
    rw [if_neg (by simp)]
    show (match allRows labRow (row k :: r.map row), Nat.ble (row k :: r.map row).length 1000000 with
      | true, true => some (V.sl σ.length 0 (row k :: r.map row).length none, σ ++ [O.cells 34 (sortK labLt (row k :: r.map row)).flatten false])
      | _, _ => none) = _
    rw [ha, Nat.ble_eq_true_of_le (by simpa using hlen), hs, flat_map]
    simp
theorem b_KeysI (h : LabE E) {g : Bool} {es : List (V × V)} : WpCall E 54 [.imp g es] σ K = K (.fn 95 [] [.ref σ.length 0]) (σ ++ [.cells 28 [.imp g es] true]) := by
  refine WpCall.of ?_
  rw [wpCall_shared h.hs54 h.sp54 h.fn54 h.md54, enterF (by kernel_rfl)]
  simp only [fnOf, Tryz.f54, KP, Ax.lenOf, Ax.loadAt, Ax.storeAt, ↓reduceIte, Nat.reduceEqDiff, Nat.reduceLT, Nat.reduceLeDiff, Nat.reduceAdd, Nat.reduceMul, Nat.reduceBEq, reduceCtorEq, Int.reduceEq, Int.reduceLT, Int.reduceLE, Int.reduceAdd, Int.reduceSub, Int.reduceNeg, h.ty3, h.ty4, h.ty9, h.ty34, h.ty22, h.ty25, h.ty28, h.ty30, h.ty32, h.ty61, h.eq34]
theorem k_KeysI (h : LabE E) {g : Bool} {es : List (V × V)} {ops : Array Oper} {l : List Oper} {dst : Option Nat} {st : List Kont} {Q : Ax.X → Fr → Sg → Prop} {fr : Fr} : CallK E 54 [.imp g es] σ dst fr ops l st Q = RunK E ops l (some (putS fr dst (.fn 95 [] [.ref σ.length 0]), σ ++ [.cells 28 [.imp g es] true])) st Q := callK_of fun _ => b_KeysI h
theorem b_AllI (h : LabE E) {v : V} {ks : List Lab} (hv : IV v ks) (hsm : Small ks) : WpCall E 12 [v] σ fun r σ' => Own σ σ' r (setOf ks) ∧ Kall σ σ' := by
  obtain ⟨hn, g, g', rfl⟩ := hv
  rw [wpCall_shared h.hs12 h.sp12 h.fn12 h.md12, enterF (by kernel_rfl)]
  simp only [fnOf, Tryz.f12, KP, ↓reduceIte, Nat.reduceEqDiff, Nat.reduceLT, Nat.reduceLeDiff, Nat.reduceAdd, Nat.reduceMul, Nat.reduceBEq, reduceCtorEq, Int.reduceEq, Int.reduceLT, Int.reduceLE, Int.reduceAdd, Int.reduceSub, Int.reduceNeg, h.ty3, h.ty4, h.ty9, h.ty34, h.ty22, h.ty25, h.ty28, h.ty30, h.ty32, h.ty61, h.eq34, load_imm h, Ax.eqV, k_KeysI h]
  have hj : (σ ++ [O.cells 28 [.imp g' (ents ks)] true])[σ.length]? = some (.cells 28 [.imp g' (ents ks)] true) := by
    rw [List.getElem?_append_right (Nat.le_refl _), Nat.sub_self]; rfl
  have hsk := sorted_hsI hn (by have := hsm.1; omega) hsm.2 hj
  unfold CallK
  rw [wpCall_hspec h.hs53, hsk]
  by_cases hks : ks = []
  · rw [if_pos hks, got_some]
    simp only [fnOf, Tryz.f12, KP, ↓reduceIte, Nat.reduceEqDiff, Nat.reduceLT, Nat.reduceLeDiff, Nat.reduceAdd, Nat.reduceMul, Nat.reduceBEq, reduceCtorEq, Int.reduceEq, Int.reduceLT, Int.reduceLE, Int.reduceAdd, Int.reduceSub, Int.reduceNeg, h.ty3, h.ty4, h.ty9, h.ty34, h.ty22, h.ty25, h.ty28, h.ty30, h.ty32, h.ty61, h.eq34]
    subst hks
    exact ⟨.inl ⟨rfl, rfl⟩, Kall.app _ _⟩
  · rw [if_neg hks, got_some]
    simp only [fnOf, Tryz.f12, KP, ↓reduceIte, Nat.reduceEqDiff, Nat.reduceLT, Nat.reduceLeDiff, Nat.reduceAdd, Nat.reduceMul, Nat.reduceBEq, reduceCtorEq, Int.reduceEq, Int.reduceLT, Int.reduceLE, Int.reduceAdd, Int.reduceSub, Int.reduceNeg, h.ty3, h.ty4, h.ty9, h.ty34, h.ty22, h.ty25, h.ty28, h.ty30, h.ty32, h.ty61, h.eq34]
    refine ⟨.inr ⟨_, ?_, by rw [setOf_length hn], ?_⟩, fun j o e => get_app (get_app e _) _⟩
    · rw [List.length_append]; omega
    · rw [List.getElem?_append_right (Nat.le_refl _), Nat.sub_self]; rfl
theorem b_allI (h : LabE E) {v : V} {ks : List Lab} (hv : IV v ks) (hsm : Small ks) : WpCall E 56 [v] σ fun r σ' => Own σ σ' r (setOf ks) ∧ Kall σ σ' := by
  have hv0 := hv
  obtain ⟨hn, g, g', rfl⟩ := hv
  rw [wpCall_shared h.hs56 h.sp56 h.fn56 h.md56, enterF (by kernel_rfl)]
  simp only [fnOf, Tryz.f56, KP, ↓reduceIte, Nat.reduceEqDiff, Nat.reduceLT, Nat.reduceLeDiff, Nat.reduceAdd, Nat.reduceMul, Nat.reduceBEq, reduceCtorEq, Int.reduceEq, Int.reduceLT, Int.reduceLE, Int.reduceAdd, Int.reduceSub, Int.reduceNeg, h.ty3, h.ty4, h.ty9, h.ty34, h.ty22, h.ty25, h.ty28, h.ty30, h.ty32, h.ty61, h.eq34, Ax.eqV]
  refine callK_intro (b_AllI h hv0 hsm) ?_
  rintro r σ' ⟨h1, h2⟩
  simp only [fnOf, Tryz.f56, KP, ↓reduceIte, Nat.reduceEqDiff, Nat.reduceLT, Nat.reduceLeDiff, Nat.reduceAdd, Nat.reduceMul, Nat.reduceBEq, reduceCtorEq, Int.reduceEq, Int.reduceLT, Int.reduceLE, Int.reduceAdd, Int.reduceSub, Int.reduceNeg, h.ty3, h.ty4, h.ty9, h.ty34, h.ty22, h.ty25, h.ty28, h.ty30, h.ty32, h.ty61, h.eq34]
  exact ⟨h1, h2⟩
/-- what a union, where it runs in a heap of its own, comes to -/
structure UnionI (E : Env) : Prop where
  hs : E.hspec 13 = none
  sp : E.spec 13 = none
  fn : E.fn 13 = some (fnOf Tryz.f13)
  md : E.mode 13 = .iso
theorem b_UnionI (h : LabE E) (u : UnionI E) {v w : V} {ks ks2 : List Lab} (hv : TV σ v ks) (hw : TV σ w ks2) (sm : Small ks) (sm2 : Small ks2) :
    WpCall E 13 [v, w] σ fun r σ' => σ' = σ ∧ IV r (keys (keys [] (setOf ks)) (setOf ks2)) := by
  obtain ⟨a, e1, ha⟩ := snap_TV (E := E) hv
  obtain ⟨b, e2, hb⟩ := snap_TV (E := E) hw
  rw [wpCall_iso u.hs u.sp u.fn u.md (args' := [a, b]) (by simp only [mapO, e1, e2]), enterF (by kernel_rfl)]
  simp only [fnOf, Tryz.f13, KP, ↓reduceIte, Nat.reduceEqDiff, Nat.reduceLT, Nat.reduceLeDiff, Nat.reduceAdd, Nat.reduceMul, Nat.reduceBEq, reduceCtorEq, Int.reduceEq, Int.reduceLT, Int.reduceLE, Int.reduceAdd, Int.reduceSub, Int.reduceNeg, h.ty3, h.ty4, h.ty9, h.ty34, h.ty22, h.ty25, h.ty28, h.ty30, h.ty32, h.ty61, h.eq34]
  refine callK_intro (b_allI h ha sm) ?_
  rintro r1 σ1 ⟨o1, k1⟩
  simp only [fnOf, Tryz.f13, KP, ↓reduceIte, Nat.reduceEqDiff, Nat.reduceLT, Nat.reduceLeDiff, Nat.reduceAdd, Nat.reduceMul, Nat.reduceBEq, reduceCtorEq, Int.reduceEq, Int.reduceLT, Int.reduceLE, Int.reduceAdd, Int.reduceSub, Int.reduceNeg, h.ty3, h.ty4, h.ty9, h.ty34, h.ty22, h.ty25, h.ty28, h.ty30, h.ty32, h.ty61, h.eq34]
  have l1 : (setOf ks).length = ks.length := setOf_length ha.1
  have l2 : (setOf ks2).length = ks2.length := setOf_length hb.1
  have := sm.1
  have := sm2.1
  refine callK_intro (b_New h o1.sv (by omega)) ?_
  rintro r2 σ2 ⟨m3, rfl, s3, hm3, k2⟩
  simp only [fnOf, Tryz.f13, KP, ↓reduceIte, Nat.reduceEqDiff, Nat.reduceLT, Nat.reduceLeDiff, Nat.reduceAdd, Nat.reduceMul, Nat.reduceBEq, reduceCtorEq, Int.reduceEq, Int.reduceLT, Int.reduceLE, Int.reduceAdd, Int.reduceSub, Int.reduceNeg, h.ty3, h.ty4, h.ty9, h.ty34, h.ty22, h.ty25, h.ty28, h.ty30, h.ty32, h.ty61, h.eq34]
  refine callK_intro (b_allI h hb sm2) ?_
  rintro r3 σ3 ⟨o3, k3⟩
  simp only [fnOf, Tryz.f13, KP, ↓reduceIte, Nat.reduceEqDiff, Nat.reduceLT, Nat.reduceLeDiff, Nat.reduceAdd, Nat.reduceMul, Nat.reduceBEq, reduceCtorEq, Int.reduceEq, Int.reduceLT, Int.reduceLE, Int.reduceAdd, Int.reduceSub, Int.reduceNeg, h.ty3, h.ty4, h.ty9, h.ty34, h.ty22, h.ty25, h.ty28, h.ty30, h.ty32, h.ty61, h.eq34]
  have l3 := keys_length (xs := setOf ks) (l := [])
  simp only [List.length_nil] at l3
  have s3' := s3.kall k3
  refine callK_intro (b_Add h s3' o3.sv (by omega) (by omega)) ?_
  rintro r4 σ4 ⟨e4, s4, k4⟩
  simp only [fnOf, Tryz.f13, KP, ↓reduceIte, Nat.reduceEqDiff, Nat.reduceLT, Nat.reduceLeDiff, Nat.reduceAdd, Nat.reduceMul, Nat.reduceBEq, reduceCtorEq, Int.reduceEq, Int.reduceLT, Int.reduceLE, Int.reduceAdd, Int.reduceSub, Int.reduceNeg, h.ty3, h.ty4, h.ty9, h.ty34, h.ty22, h.ty25, h.ty28, h.ty30, h.ty32, h.ty61, h.eq34]
  rw [snap_setF s4]
  exact ⟨s4.nodup, _, _, rfl⟩
end
end Go.Proofs.YtmbhjdkbcgngiaaGreatDoor
end
section
set_option linter.unusedVariables false
set_option linter.unusedSimpArgs false
set_option maxHeartbeats 2000000
set_option maxRecDepth 10000
namespace Go.Proofs.YtmbhjdkbcgngiaaGreatDoor
open Go Go.Ax Go.AxS
section
variable {E : Env} {σ : Sg} {K : V → Sg → Prop}
theorem Equal_loop (h : LabE E) {a b : V} {l m : List Lab} (ha : LV a l) (hb : LV b m) (hlen : l.length = m.length) (hsm : l.length ≤ 1000000000000) {s : List Kont} {Q : Ax.X → Fr → Sg → Prop}
    (hT : l = m → ∀ F', M E s .normal ⟨26, F'⟩ σ Q) (hF : l ≠ m → ∀ F' : FT, F'.get 4 = .bool false → M E s .ret ⟨26, F'⟩ σ Q) :
    ∀ (k i : Nat) (F : FT), i + k = l.length → l.take i = m.take i → F.get 0 = a → F.get 1 = b → F.get 12 = .int .i64 (l.length : Int) → F.get 13 = .int .i64 (i : Int) → R E (.loop (cutAt [1, 1, 0, 1, 2, 2] (fnOf Tryz.f69).code)) (.blk 0 :: s) ⟨26, F⟩ σ Q := by
  have d6 := h.d69_6
  simp only [fnOf, Tryz.f69, cutAt, Option.getD_some] at d6
  intro k
  induction k with
  | zero =>
    intro i F hi ht g0 g1 g12 g13
    have hlt : decide ((i : Int) < (l.length : Int)) = false := decide_eq_false (by omega)
    rw [Ax.r_loop]
    simp only [fnOf, Tryz.f69, KP, ↓reduceIte, Nat.reduceEqDiff, Nat.reduceLT, Nat.reduceLeDiff, Nat.reduceAdd, Nat.reduceMul, Nat.reduceBEq, reduceCtorEq, Int.reduceEq, Int.reduceLT, Int.reduceLE, Int.reduceAdd, Int.reduceSub, Int.reduceNeg, h.ty3, h.ty4, h.ty9, h.ty34, h.ty22, h.ty25, h.ty28, h.ty30, h.ty32, h.ty61, h.eq34, cutAt, g0, g1, g12, g13, hlt]
    refine hT ?_ _
    rw [List.take_of_length_le (by omega), List.take_of_length_le (by omega)] at ht
    exact ht
  | succ k ih =>
    intro i F hi ht g0 g1 g12 g13
    have hlt : decide ((i : Int) < (l.length : Int)) = true := decide_eq_true (by omega)
    obtain ⟨x, hx⟩ : ∃ x, l[i]? = some x := ⟨_, List.getElem?_eq_getElem (by omega)⟩
    obtain ⟨y, hy⟩ : ∃ y, m[i]? = some y := ⟨_, List.getElem?_eq_getElem (by omega)⟩
    obtain ⟨pa, e1, e2⟩ := elem_SV h (ha.sv σ) hx
    obtain ⟨pb, e3, e4⟩ := elem_SV h (hb.sv σ) hy
    have e2 := e2 σ (KeepC.refl σ)
    have e4 := e4 σ (KeepC.refl σ)
    have hadd := wr_succ i (by omega)
    have t1 : l.take (i + 1) = l.take i ++ [x] := by rw [List.take_add_one, hx]; rfl
    have t2 : m.take (i + 1) = m.take i ++ [y] := by rw [List.take_add_one, hy]; rfl
    rw [Ax.r_loop]
    by_cases hxy : x = y
    · have hd : decide (((x.1, x.2) : Lab) = (y.1, y.2)) = true := decide_eq_true hxy
      simp only [fnOf, Tryz.f69, KP, ↓reduceIte, Nat.reduceEqDiff, Nat.reduceLT, Nat.reduceLeDiff, Nat.reduceAdd, Nat.reduceMul, Nat.reduceBEq, reduceCtorEq, Int.reduceEq, Int.reduceLT, Int.reduceLE, Int.reduceAdd, Int.reduceSub, Int.reduceNeg, h.ty3, h.ty4, h.ty9, h.ty34, h.ty22, h.ty25, h.ty28, h.ty30, h.ty32, h.ty61, h.eq34, cutAt, g0, g1, g12, g13, hlt, Ax.r_undraw d6, Ax.undraw, e1, e2, e3, e4, eqV_lab h, hd, hadd]
      refine ih (i + 1) _ (by omega) (by rw [t1, t2, ht, hxy]) ?_ ?_ ?_ ?_ <;> simp only [Ax.FT.fill, Ax.FT.get_set, g0, g1, g12, KP, ↓reduceIte, Nat.reduceEqDiff, Nat.reduceLT, Nat.reduceLeDiff, Nat.reduceAdd, Nat.reduceMul, Nat.reduceBEq, reduceCtorEq, Int.reduceEq, Int.reduceLT, Int.reduceLE, Int.reduceAdd, Int.reduceSub, Int.reduceNeg]
    · have hd : decide (((x.1, x.2) : Lab) = (y.1, y.2)) = false := decide_eq_false hxy
      simp only [fnOf, Tryz.f69, KP, ↓reduceIte, Nat.reduceEqDiff, Nat.reduceLT, Nat.reduceLeDiff, Nat.reduceAdd, Nat.reduceMul, Nat.reduceBEq, reduceCtorEq, Int.reduceEq, Int.reduceLT, Int.reduceLE, Int.reduceAdd, Int.reduceSub, Int.reduceNeg, h.ty3, h.ty4, h.ty9, h.ty34, h.ty22, h.ty25, h.ty28, h.ty30, h.ty32, h.ty61, h.eq34, cutAt, g0, g1, g12, g13, hlt, Ax.r_undraw d6, Ax.undraw, e1, e2, e3, e4, eqV_lab h, hd, hadd]
      refine hF (fun e => ?_) _ ?_
      · subst e
        rw [hx] at hy
        exact hxy (Option.some.inj hy)
      · simp only [Ax.FT.fill, Ax.FT.get_set, KP, ↓reduceIte, Nat.reduceEqDiff, Nat.reduceLT, Nat.reduceLeDiff, Nat.reduceAdd, Nat.reduceMul, Nat.reduceBEq, reduceCtorEq, Int.reduceEq, Int.reduceLT, Int.reduceLE, Int.reduceAdd, Int.reduceSub, Int.reduceNeg]
theorem b_Equal (h : LabE E) {v w : V} {l m : List Lab} (hv : SV σ v l) (hw : SV σ w m) (hsm : l.length ≤ 1000000000000) : WpCall E 69 [v, w] σ K = K (.bool (decide (l = m))) σ := by
  refine WpCall.of ?_
  obtain ⟨a, e1, ha⟩ := snap_SV h hv
  obtain ⟨b, e2, hb⟩ := snap_SV h hw
  rw [wpCall_iso h.hs69 h.sp69 h.fn69 h.md69 (args' := [a, b]) (by simp only [mapO, e1, e2]), enterF (by kernel_rfl)]
  have la : lenOf E [] 22 a = some l.length := len_SV h (ha.sv [])
  have lb : lenOf E [] 22 b = some m.length := len_SV h (hb.sv [])
  by_cases hlen : l.length = m.length
  · have hd : decide ((l.length : Int) = (m.length : Int)) = true := decide_eq_true (by omega)
    simp only [fnOf, Tryz.f69, KP, ↓reduceIte, Nat.reduceEqDiff, Nat.reduceLT, Nat.reduceLeDiff, Nat.reduceAdd, Nat.reduceMul, Nat.reduceBEq, reduceCtorEq, Int.reduceEq, Int.reduceLT, Int.reduceLE, Int.reduceAdd, Int.reduceSub, Int.reduceNeg, h.ty3, h.ty4, h.ty9, h.ty34, h.ty22, h.ty25, h.ty28, h.ty30, h.ty32, h.ty61, h.eq34, la, lb, hd]
    refine Equal_loop h ha hb hlen hsm (fun e F' => ?_) (fun e F' g4 => ?_) l.length 0 _ (by omega) rfl ?_ ?_ ?_ ?_
    · simp only [fnOf, Tryz.f69, KP, ↓reduceIte, Nat.reduceEqDiff, Nat.reduceLT, Nat.reduceLeDiff, Nat.reduceAdd, Nat.reduceMul, Nat.reduceBEq, reduceCtorEq, Int.reduceEq, Int.reduceLT, Int.reduceLE, Int.reduceAdd, Int.reduceSub, Int.reduceNeg, h.ty3, h.ty4, h.ty9, h.ty34, h.ty22, h.ty25, h.ty28, h.ty30, h.ty32, h.ty61, h.eq34]
      subst e
      rw [decide_eq_true rfl]
      exact rfl
    · simp only [fnOf, Tryz.f69, KP, ↓reduceIte, Nat.reduceEqDiff, Nat.reduceLT, Nat.reduceLeDiff, Nat.reduceAdd, Nat.reduceMul, Nat.reduceBEq, reduceCtorEq, Int.reduceEq, Int.reduceLT, Int.reduceLE, Int.reduceAdd, Int.reduceSub, Int.reduceNeg, h.ty3, h.ty4, h.ty9, h.ty34, h.ty22, h.ty25, h.ty28, h.ty30, h.ty32, h.ty61, h.eq34, g4]
      rw [decide_eq_false e]
      exact rfl
    all_goals simp only [Ax.FT.fill, Ax.FT.get_set, KP, ↓reduceIte, Nat.reduceEqDiff, Nat.reduceLT, Nat.reduceLeDiff, Nat.reduceAdd, Nat.reduceMul, Nat.reduceBEq, reduceCtorEq, Int.reduceEq, Int.reduceLT, Int.reduceLE, Int.reduceAdd, Int.reduceSub, Int.reduceNeg]
    all_goals rfl
  · have hd : decide ((l.length : Int) = (m.length : Int)) = false := decide_eq_false (by omega)
    simp only [fnOf, Tryz.f69, KP, ↓reduceIte, Nat.reduceEqDiff, Nat.reduceLT, Nat.reduceLeDiff, Nat.reduceAdd, Nat.reduceMul, Nat.reduceBEq, reduceCtorEq, Int.reduceEq, Int.reduceLT, Int.reduceLE, Int.reduceAdd, Int.reduceSub, Int.reduceNeg, h.ty3, h.ty4, h.ty9, h.ty34, h.ty22, h.ty25, h.ty28, h.ty30, h.ty32, h.ty61, h.eq34, la, lb, hd]
    rw [decide_eq_false (fun e => hlen (by rw [e]))]
    exact rfl
theorem b_SEq (h : LabE E) {v w : V} {ks ks2 : List Lab} (hv : TV σ v ks) (hw : TV σ w ks2) (sm : Small ks) (sm2 : Small ks2) : WpCall E 31 [v, w] σ K = K (.bool (decide (setOf ks = setOf ks2))) σ := by
  refine WpCall.of ?_
  obtain ⟨a, e1, ha⟩ := snap_TV (E := E) hv
  obtain ⟨b, e2, hb⟩ := snap_TV (E := E) hw
  rw [wpCall_iso h.hs31 h.sp31 h.fn31 h.md31 (args' := [a, b]) (by simp only [mapO, e1, e2]), enterF (by kernel_rfl)]
  simp only [fnOf, Tryz.f31, KP, ↓reduceIte, Nat.reduceEqDiff, Nat.reduceLT, Nat.reduceLeDiff, Nat.reduceAdd, Nat.reduceMul, Nat.reduceBEq, reduceCtorEq, Int.reduceEq, Int.reduceLT, Int.reduceLE, Int.reduceAdd, Int.reduceSub, Int.reduceNeg, h.ty3, h.ty4, h.ty9, h.ty34, h.ty22, h.ty25, h.ty28, h.ty30, h.ty32, h.ty61, h.eq34]
  refine callK_intro (b_allI h ha sm) ?_
  rintro r1 σ1 ⟨o1, k1⟩
  simp only [fnOf, Tryz.f31, KP, ↓reduceIte, Nat.reduceEqDiff, Nat.reduceLT, Nat.reduceLeDiff, Nat.reduceAdd, Nat.reduceMul, Nat.reduceBEq, reduceCtorEq, Int.reduceEq, Int.reduceLT, Int.reduceLE, Int.reduceAdd, Int.reduceSub, Int.reduceNeg, h.ty3, h.ty4, h.ty9, h.ty34, h.ty22, h.ty25, h.ty28, h.ty30, h.ty32, h.ty61, h.eq34]
  refine callK_intro (b_allI h hb sm2) ?_
  rintro r2 σ2 ⟨o2, k2⟩
  simp only [fnOf, Tryz.f31, KP, ↓reduceIte, Nat.reduceEqDiff, Nat.reduceLT, Nat.reduceLeDiff, Nat.reduceAdd, Nat.reduceMul, Nat.reduceBEq, reduceCtorEq, Int.reduceEq, Int.reduceLT, Int.reduceLE, Int.reduceAdd, Int.reduceSub, Int.reduceNeg, h.ty3, h.ty4, h.ty9, h.ty34, h.ty22, h.ty25, h.ty28, h.ty30, h.ty32, h.ty61, h.eq34]
  have l1 : (setOf ks).length = ks.length := setOf_length ha.1
  have := sm.1
  have q := fun K => b_Equal (K := K) h (o1.sv.keep k2.keepC) o2.sv (by omega)
  rw [callK_of q]
  simp only [fnOf, Tryz.f31, KP, ↓reduceIte, Nat.reduceEqDiff, Nat.reduceLT, Nat.reduceLeDiff, Nat.reduceAdd, Nat.reduceMul, Nat.reduceBEq, reduceCtorEq, Int.reduceEq, Int.reduceLT, Int.reduceLE, Int.reduceAdd, Int.reduceSub, Int.reduceNeg, h.ty3, h.ty4, h.ty9, h.ty34, h.ty22, h.ty25, h.ty28, h.ty30, h.ty32, h.ty61, h.eq34]
  exact rfl
theorem b_Len (h : LabE E) {v : V} {ks : List Lab} (hv : TV σ v ks) : WpCall E 32 [v] σ K = K (.int .i64 (ks.length : Int)) σ := by
  refine WpCall.of ?_
  obtain ⟨a, e1, hn, g, g', rfl⟩ := snap_TV (E := E) hv
  rw [wpCall_iso h.hs32 h.sp32 h.fn32 h.md32 (args' := [.ipt g [.imp g' (ents ks)]]) (by simp only [mapO, e1]), enterF (by kernel_rfl)]
  have ll : lenOf E [] 28 (.imp g' (ents ks)) = some ks.length := by
    unfold lenOf
    rw [h.ty28]
    simp [ents]
  simp only [fnOf, Tryz.f32, KP, ↓reduceIte, Nat.reduceEqDiff, Nat.reduceLT, Nat.reduceLeDiff, Nat.reduceAdd, Nat.reduceMul, Nat.reduceBEq, reduceCtorEq, Int.reduceEq, Int.reduceLT, Int.reduceLE, Int.reduceAdd, Int.reduceSub, Int.reduceNeg, h.ty3, h.ty4, h.ty9, h.ty34, h.ty22, h.ty25, h.ty28, h.ty30, h.ty32, h.ty61, h.eq34, load_imm h, Ax.eqV, ll]
  exact rfl
end
end Go.Proofs.YtmbhjdkbcgngiaaGreatDoor
end
section
set_option linter.unusedVariables false
set_option linter.unusedSimpArgs false
set_option maxHeartbeats 2000000
set_option maxRecDepth 10000
namespace Go.Proofs.YtmbhjdkbcgngiaaGreatDoor
open Go Go.Ax Go.AxS
section
variable {E : Env} {σ : Sg} {K : V → Sg → Prop}
theorem load_bx (h : LabE E) (a : Bool) (s : List Nat) (ex : Bool) (τ : Sg) : loadAt E (.cells 34 [.bool a, .str s] ex :: τ) 34 (.ref 0 0) = some (.agg [.bool a, .str s]) := by
  unfold loadAt
  rw [h.ty34]
  rfl
theorem b_HasT (h : LabE E) {v : V} {ks : List Lab} (hv : TV σ v ks) (x : Lab) : WpCall E 19 [v, .agg [.bool x.1, .str x.2]] σ K = K (.bool (decide (x ∈ ks))) σ := by
  refine WpCall.of ?_
  obtain ⟨a, e1, hn, g, g', rfl⟩ := snap_TV (E := E) hv
  have e2 : snapV σ E.ty true (.agg [.bool x.1, .str x.2]) = some (.agg [.bool x.1, .str x.2]) := rfl
  have d1 := h.d19_1
  simp only [fnOf, Tryz.f19, cutAt, Option.getD_some] at d1
  rw [wpCall_iso h.hs19 h.sp19 h.fn19 h.md19 (args' := [.ipt g [.imp g' (ents ks)], .agg [.bool x.1, .str x.2]]) (by simp only [mapO, e1, e2]), enterF (by kernel_rfl)]
  by_cases hx : x ∈ ks
  · simp only [fnOf, Tryz.f19, KP, ↓reduceIte, Nat.reduceEqDiff, Nat.reduceLT, Nat.reduceLeDiff, Nat.reduceAdd, Nat.reduceMul, Nat.reduceBEq, reduceCtorEq, Int.reduceEq, Int.reduceLT, Int.reduceLE, Int.reduceAdd, Int.reduceSub, Int.reduceNeg, h.ty3, h.ty4, h.ty9, h.ty34, h.ty22, h.ty25, h.ty28, h.ty30, h.ty32, h.ty61, h.eq34, Ax.eqV, Ax.r_undraw d1, Ax.undraw, Ax.lookup, keyOk_lab h, Ax.entriesOf, mfind_ents h, hx, Ax.loadAt]
    exact rfl
  · simp only [fnOf, Tryz.f19, KP, ↓reduceIte, Nat.reduceEqDiff, Nat.reduceLT, Nat.reduceLeDiff, Nat.reduceAdd, Nat.reduceMul, Nat.reduceBEq, reduceCtorEq, Int.reduceEq, Int.reduceLT, Int.reduceLE, Int.reduceAdd, Int.reduceSub, Int.reduceNeg, h.ty3, h.ty4, h.ty9, h.ty34, h.ty22, h.ty25, h.ty28, h.ty30, h.ty32, h.ty61, h.eq34, Ax.eqV, Ax.r_undraw d1, Ax.undraw, Ax.lookup, keyOk_lab h, Ax.entriesOf, mfind_ents h, hx, Ax.loadAt]
    exact rfl
theorem b_has (h : LabE E) {v : V} {ks : List Lab} (hv : TV σ v ks) (x : Lab) : WpCall E 68 [v, .agg [.bool x.1, .str x.2]] σ K = K (.bool (decide (x ∈ ks))) σ := by
  refine WpCall.of ?_
  obtain ⟨a, e1, hn, g, g', rfl⟩ := snap_TV (E := E) hv
  have e2 : snapV σ E.ty true (.agg [.bool x.1, .str x.2]) = some (.agg [.bool x.1, .str x.2]) := rfl
  have d1 := h.d68_1
  simp only [fnOf, Tryz.f68, cutAt, Option.getD_some] at d1
  rw [wpCall_iso h.hs68 h.sp68 h.fn68 h.md68 (args' := [.ipt g [.imp g' (ents ks)], .agg [.bool x.1, .str x.2]]) (by simp only [mapO, e1, e2]), enterF (by kernel_rfl)]
  simp only [fnOf, Tryz.f68, KP, ↓reduceIte, Nat.reduceEqDiff, Nat.reduceLT, Nat.reduceLeDiff, Nat.reduceAdd, Nat.reduceMul, Nat.reduceBEq, reduceCtorEq, Int.reduceEq, Int.reduceLT, Int.reduceLE, Int.reduceAdd, Int.reduceSub, Int.reduceNeg, h.ty3, h.ty4, h.ty9, h.ty34, h.ty22, h.ty25, h.ty28, h.ty30, h.ty32, h.ty61, h.eq34, Ax.eqV, Ax.r_undraw d1, Ax.undraw, load_bx h]
  have q := fun K => b_HasT (σ := [O.cells 34 [.bool x.1, .str x.2] true]) (K := K) h (v := .ipt g [.imp g' (ents ks)]) ⟨hn, .inr ⟨g, g', rfl⟩⟩ x
  rw [callK_of q]
  simp only [fnOf, Tryz.f68, KP, ↓reduceIte, Nat.reduceEqDiff, Nat.reduceLT, Nat.reduceLeDiff, Nat.reduceAdd, Nat.reduceMul, Nat.reduceBEq, reduceCtorEq, Int.reduceEq, Int.reduceLT, Int.reduceLE, Int.reduceAdd, Int.reduceSub, Int.reduceNeg, h.ty3, h.ty4, h.ty9, h.ty34, h.ty22, h.ty25, h.ty28, h.ty30, h.ty32, h.ty61, h.eq34]
  exact rfl
theorem b_Meet1 (h : LabE E) {c sv : V} {g0 : Bool} {ks : List Lab} (hc : snapV σ E.ty true c = some (.ipt g0 [sv])) (hs : IV sv ks) (x : Lab) : WpCall E 67 [.agg [.bool x.1, .str x.2], c] σ K = K (.bool (!decide (x ∈ ks))) σ := by
  refine WpCall.of ?_
  have e2 : snapV σ E.ty true (.agg [.bool x.1, .str x.2]) = some (.agg [.bool x.1, .str x.2]) := rfl
  have lp : ∀ τ, loadAt E τ 25 (.ipt g0 [sv]) = some sv := fun τ => by
    unfold loadAt
    rw [h.ty25]
    rfl
  rw [wpCall_iso h.hs67 h.sp67 h.fn67 h.md67 (args' := [.agg [.bool x.1, .str x.2], .ipt g0 [sv]]) (by simp only [mapO, hc, e2]), enterF (by kernel_rfl)]
  simp only [fnOf, Tryz.f67, KP, ↓reduceIte, Nat.reduceEqDiff, Nat.reduceLT, Nat.reduceLeDiff, Nat.reduceAdd, Nat.reduceMul, Nat.reduceBEq, reduceCtorEq, Int.reduceEq, Int.reduceLT, Int.reduceLE, Int.reduceAdd, Int.reduceSub, Int.reduceNeg, h.ty3, h.ty4, h.ty9, h.ty34, h.ty22, h.ty25, h.ty28, h.ty30, h.ty32, h.ty61, h.eq34, lp, load_bx h]
  have q := fun K => b_has (σ := [O.cells 34 [.bool x.1, .str x.2] true]) (K := K) h (hs.tv _) x
  rw [callK_of q]
  simp only [fnOf, Tryz.f67, KP, ↓reduceIte, Nat.reduceEqDiff, Nat.reduceLT, Nat.reduceLeDiff, Nat.reduceAdd, Nat.reduceMul, Nat.reduceBEq, reduceCtorEq, Int.reduceEq, Int.reduceLT, Int.reduceLE, Int.reduceAdd, Int.reduceSub, Int.reduceNeg, h.ty3, h.ty4, h.ty9, h.ty34, h.ty22, h.ty25, h.ty28, h.ty30, h.ty32, h.ty61, h.eq34]
  exact rfl
/-- the first place at which something holds -/
def idx (p : Lab → Bool) : List Lab → Nat → Int
  | [], _ => -1
  | x :: l, k => if p x = true then (k : Int) else idx p l (k + 1)
theorem idx_drop (p : Lab → Bool) (l : List Lab) (i : Nat) (x : Lab) (hx : l[i]? = some x) : idx p (l.drop i) i = if p x = true then (i : Int) else idx p (l.drop (i + 1)) (i + 1) := by
  have hi := (List.getElem?_eq_some_iff.1 hx).1
  rw [List.drop_eq_getElem_cons hi, idx]
  have : l[i] = x := (List.getElem?_eq_some_iff.1 hx).2
  rw [this]
theorem Index_loop (h : LabE E) {f : Nat} {first cap : List V} {p : Lab → Bool} (hp : ∀ (x : Lab) (K : V → Sg → Prop), WpCall E f (first ++ [.agg [.bool x.1, .str x.2]] ++ cap) [] K = K (.bool (p x)) [])
    {a : V} {l : List Lab} (ha : LV a l) (hsm : l.length ≤ 1000000000000) {s : List Kont} {Q : Ax.X → Fr → Sg → Prop}
    (hN : idx p l 0 = -1 → ∀ F', M E s .normal ⟨19, F'⟩ [] Q) (hR : ∀ (i : Nat) (F' : FT), idx p l 0 = (i : Int) → F'.get 4 = .int .i64 (i : Int) → M E s .ret ⟨19, F'⟩ [] Q) :
    ∀ (k i : Nat) (F : FT), i + k = l.length → idx p l 0 = idx p (l.drop i) i → F.get 0 = a → F.get 1 = .fn f first cap → F.get 7 = .int .i64 (l.length : Int) → F.get 8 = .int .i64 (i : Int) → R E (.loop (cutAt [1, 0, 1, 2, 2] (fnOf Tryz.f80).code)) (.blk 0 :: s) ⟨19, F⟩ [] Q := by
  intro k
  induction k with
  | zero =>
    intro i F hi hd g0 g1 g7 g8
    have hlt : decide ((i : Int) < (l.length : Int)) = false := decide_eq_false (by omega)
    rw [Ax.r_loop]
    simp only [fnOf, Tryz.f80, KP, ↓reduceIte, Nat.reduceEqDiff, Nat.reduceLT, Nat.reduceLeDiff, Nat.reduceAdd, Nat.reduceMul, Nat.reduceBEq, reduceCtorEq, Int.reduceEq, Int.reduceLT, Int.reduceLE, Int.reduceAdd, Int.reduceSub, Int.reduceNeg, h.ty3, h.ty4, h.ty9, h.ty34, h.ty22, h.ty25, h.ty28, h.ty30, h.ty32, h.ty61, h.eq34, cutAt, g0, g1, g7, g8, hlt]
    refine hN ?_ _
    rw [hd, List.drop_of_length_le (by omega)]
    rfl
  | succ k ih =>
    intro i F hi hd g0 g1 g7 g8
    have hlt : decide ((i : Int) < (l.length : Int)) = true := decide_eq_true (by omega)
    obtain ⟨x, hx⟩ : ∃ x, l[i]? = some x := ⟨_, List.getElem?_eq_getElem (by omega)⟩
    obtain ⟨pa, e1, e2⟩ := elem_SV h (ha.sv []) hx
    have e2 := e2 [] (KeepC.refl [])
    have hadd := wr_succ i (by omega)
    rw [idx_drop p l i x hx] at hd
    rw [Ax.r_loop]
    simp only [fnOf, Tryz.f80, KP, ↓reduceIte, Nat.reduceEqDiff, Nat.reduceLT, Nat.reduceLeDiff, Nat.reduceAdd, Nat.reduceMul, Nat.reduceBEq, reduceCtorEq, Int.reduceEq, Int.reduceLT, Int.reduceLE, Int.reduceAdd, Int.reduceSub, Int.reduceNeg, h.ty3, h.ty4, h.ty9, h.ty34, h.ty22, h.ty25, h.ty28, h.ty30, h.ty32, h.ty61, h.eq34, cutAt, g0, g1, g7, g8, hlt, e1, e2]
    rw [callK_of (hp x)]
    cases hpx : p x with
    | true =>
      rw [if_pos hpx] at hd
      simp only [fnOf, Tryz.f80, KP, ↓reduceIte, Nat.reduceEqDiff, Nat.reduceLT, Nat.reduceLeDiff, Nat.reduceAdd, Nat.reduceMul, Nat.reduceBEq, reduceCtorEq, Int.reduceEq, Int.reduceLT, Int.reduceLE, Int.reduceAdd, Int.reduceSub, Int.reduceNeg, h.ty3, h.ty4, h.ty9, h.ty34, h.ty22, h.ty25, h.ty28, h.ty30, h.ty32, h.ty61, h.eq34, cutAt, g0, g1, g7, g8, hlt, e1, e2, hpx]
      refine hR i _ hd ?_
      simp only [Ax.FT.fill, Ax.FT.get_set, KP, ↓reduceIte, Nat.reduceEqDiff, Nat.reduceLT, Nat.reduceLeDiff, Nat.reduceAdd, Nat.reduceMul, Nat.reduceBEq, reduceCtorEq, Int.reduceEq, Int.reduceLT, Int.reduceLE, Int.reduceAdd, Int.reduceSub, Int.reduceNeg]
    | false =>
      rw [if_neg (by rw [hpx]; simp)] at hd
      simp only [fnOf, Tryz.f80, KP, ↓reduceIte, Nat.reduceEqDiff, Nat.reduceLT, Nat.reduceLeDiff, Nat.reduceAdd, Nat.reduceMul, Nat.reduceBEq, reduceCtorEq, Int.reduceEq, Int.reduceLT, Int.reduceLE, Int.reduceAdd, Int.reduceSub, Int.reduceNeg, h.ty3, h.ty4, h.ty9, h.ty34, h.ty22, h.ty25, h.ty28, h.ty30, h.ty32, h.ty61, h.eq34, cutAt, g0, g1, g7, g8, hlt, e1, e2, hpx, hadd]
      refine ih (i + 1) _ (by omega) hd ?_ ?_ ?_ ?_ <;> simp only [Ax.FT.fill, Ax.FT.get_set, g0, g1, g7, KP, ↓reduceIte, Nat.reduceEqDiff, Nat.reduceLT, Nat.reduceLeDiff, Nat.reduceAdd, Nat.reduceMul, Nat.reduceBEq, reduceCtorEq, Int.reduceEq, Int.reduceLT, Int.reduceLE, Int.reduceAdd, Int.reduceSub, Int.reduceNeg]
theorem b_Index (h : LabE E) {f : Nat} {first cap first' cap' : List V} {p : Lab → Bool} (hs : snapV σ E.ty true (.fn f first cap) = some (.fn f first' cap'))
    (hp : ∀ (x : Lab) (K : V → Sg → Prop), WpCall E f (first' ++ [.agg [.bool x.1, .str x.2]] ++ cap') [] K = K (.bool (p x)) []) {v : V} {l : List Lab} (hv : SV σ v l) (hsm : l.length ≤ 1000000000000) :
    WpCall E 80 [v, .fn f first cap] σ K = K (.int .i64 (idx p l 0)) σ := by
  refine WpCall.of ?_
  obtain ⟨a, e1, ha⟩ := snap_SV h hv
  rw [wpCall_iso h.hs80 h.sp80 h.fn80 h.md80 (args' := [a, .fn f first' cap']) (by simp only [mapO, e1, hs]), enterF (by kernel_rfl)]
  have la : lenOf E [] 22 a = some l.length := len_SV h (ha.sv [])
  simp only [fnOf, Tryz.f80, KP, ↓reduceIte, Nat.reduceEqDiff, Nat.reduceLT, Nat.reduceLeDiff, Nat.reduceAdd, Nat.reduceMul, Nat.reduceBEq, reduceCtorEq, Int.reduceEq, Int.reduceLT, Int.reduceLE, Int.reduceAdd, Int.reduceSub, Int.reduceNeg, h.ty3, h.ty4, h.ty9, h.ty34, h.ty22, h.ty25, h.ty28, h.ty30, h.ty32, h.ty61, h.eq34, la]
  refine Index_loop h hp ha hsm (fun e F' => ?_) (fun i F' e g4 => ?_) l.length 0 _ (by omega) rfl ?_ ?_ ?_ ?_
  · simp only [fnOf, Tryz.f80, KP, ↓reduceIte, Nat.reduceEqDiff, Nat.reduceLT, Nat.reduceLeDiff, Nat.reduceAdd, Nat.reduceMul, Nat.reduceBEq, reduceCtorEq, Int.reduceEq, Int.reduceLT, Int.reduceLE, Int.reduceAdd, Int.reduceSub, Int.reduceNeg, h.ty3, h.ty4, h.ty9, h.ty34, h.ty22, h.ty25, h.ty28, h.ty30, h.ty32, h.ty61, h.eq34]
    rw [e]
    exact rfl
  · simp only [fnOf, Tryz.f80, KP, ↓reduceIte, Nat.reduceEqDiff, Nat.reduceLT, Nat.reduceLeDiff, Nat.reduceAdd, Nat.reduceMul, Nat.reduceBEq, reduceCtorEq, Int.reduceEq, Int.reduceLT, Int.reduceLE, Int.reduceAdd, Int.reduceSub, Int.reduceNeg, h.ty3, h.ty4, h.ty9, h.ty34, h.ty22, h.ty25, h.ty28, h.ty30, h.ty32, h.ty61, h.eq34, g4]
    rw [e]
    exact rfl
  all_goals simp only [Ax.FT.fill, Ax.FT.get_set, KP, ↓reduceIte, Nat.reduceEqDiff, Nat.reduceLT, Nat.reduceLeDiff, Nat.reduceAdd, Nat.reduceMul, Nat.reduceBEq, reduceCtorEq, Int.reduceEq, Int.reduceLT, Int.reduceLE, Int.reduceAdd, Int.reduceSub, Int.reduceNeg]
  all_goals rfl
end
end Go.Proofs.YtmbhjdkbcgngiaaGreatDoor
end
section
set_option linter.unusedVariables false
set_option linter.unusedSimpArgs false
set_option maxHeartbeats 2000000
set_option maxRecDepth 10000
namespace Go.Proofs.YtmbhjdkbcgngiaaGreatDoor
open Go Go.Ax Go.AxS
section
variable {E : Env} {σ : Sg} {K : V → Sg → Prop}
theorem index_own (h : LabE E) {j n i : Nat} (hi : i < n) : indexAddr E 22 (.sl j 0 n none) (.int .i64 (i : Int)) = some (.ref j (i * 2)) := by
  unfold indexAddr
  simp only [h.ty22, h.ty34, Int.toNat_natCast]
  rw [if_neg (by omega), if_pos hi, Nat.zero_add]
theorem load_own (h : LabE E) {j o : Nat} {cs : List V} {ex : Bool} {x : Lab} (hj : σ[j]? = some (.cells 34 cs ex)) (ho : o + 2 ≤ cs.length) (hx : (cs.drop o).take 2 = row x) : loadAt E σ 34 (.ref j o) = some (.agg [.bool x.1, .str x.2]) := by
  unfold loadAt
  simp only [h.ty34, hj]
  rw [show Ax.isAgg (Kd.strct [(0, 4), (1, 9)]) = true from rfl]
  simp only [if_true]
  rw [if_pos ho, hx]
  rfl
theorem store_own (h : LabE E) {j o : Nat} {cs : List V} {ex : Bool} (hj : σ[j]? = some (.cells 34 cs ex)) (ho : o + 2 ≤ cs.length) (a : Bool) (s : List Nat) : storeAt E σ 34 (.ref j o) (.agg [.bool a, .str s]) = some (σ.set j (.cells 34 (setCells cs o [.bool a, .str s]) ex)) := by
  unfold storeAt
  simp only [h.ty34, hj]
  refine (if_pos ?_).trans rfl
  rw [decide_eq_true ho]; rfl
/-- the state in the midst of a deletion -/
structure Del (σ σ' : Sg) (j n : Nat) (l : List Lab) (p : Lab → Bool) (i jj : Nat) (cs : List V) : Prop where
  at_ : σ'[j]? = some (.cells 34 cs false)
  len : cs.length = n * 2
  lt : i < jj
  le : jj ≤ n
  cnt : ((l.take jj).filter fun x => !p x).length = i
  left : cs.take (i * 2) = ((l.take jj).filter fun x => !p x).flatMap row
  right : cs.drop (jj * 2) = (l.drop jj).flatMap row
  kp : ∀ j' o, j' ≠ j → σ[j']? = some o → σ'[j']? = some o
theorem Delete_loop (h : LabE E) {f : Nat} {first cap : List V} {p : Lab → Bool} {j : Nat} {l : List Lab} (hsm : l.length ≤ 1000000000000)
    (hp : ∀ (σ' : Sg) (x : Lab) (K : V → Sg → Prop), (∀ j' o, j' ≠ j → σ[j']? = some o → σ'[j']? = some o) → WpCall E f (first ++ [.agg [.bool x.1, .str x.2]] ++ cap) σ' K = K (.bool (p x)) σ')
    {s : List Kont} {Q : Ax.X → Fr → Sg → Prop} (hQ : ∀ (F' : FT) (σ' : Sg) (i : Nat) (cs : List V), Del σ σ' j l.length l p i l.length cs → F'.get 0 = .sl j 0 l.length none → F'.get 5 = .int .i64 (i : Int) → M E s .normal ⟨42, F'⟩ σ' Q) :
    ∀ (k jj : Nat) (F : FT) (σ' : Sg) (i : Nat) (cs : List V), jj + k = l.length → Del σ σ' j l.length l p i jj cs → F.get 0 = .sl j 0 l.length none → F.get 1 = .fn f first cap → F.get 5 = .int .i64 (i : Int) → F.get 6 = .int .i64 (jj : Int) →
      R E (.loop (cutAt [1, 1, 1, 0, 1, 2, 2] (fnOf Tryz.f66).code)) (.blk 0 :: s) ⟨42, F⟩ σ' Q := by
  have la : ∀ σ, lenOf E σ 22 (.sl j 0 l.length none) = some l.length := fun σ => by
    unfold lenOf
    rw [h.ty22]
  intro k
  induction k with
  | zero =>
    intro jj F σ' i cs hi hd g0 g1 g5 g6
    have e : jj = l.length := by omega
    subst e
    have hlt : decide ((l.length : Int) < (l.length : Int)) = false := decide_eq_false (by omega)
    rw [Ax.r_loop]
    simp only [fnOf, Tryz.f66, KP, ↓reduceIte, Nat.reduceEqDiff, Nat.reduceLT, Nat.reduceLeDiff, Nat.reduceAdd, Nat.reduceMul, Nat.reduceBEq, reduceCtorEq, Int.reduceEq, Int.reduceLT, Int.reduceLE, Int.reduceAdd, Int.reduceSub, Int.reduceNeg, h.ty3, h.ty4, h.ty9, h.ty34, h.ty22, h.ty25, h.ty28, h.ty30, h.ty32, h.ty61, h.eq34, cutAt, g0, g1, g5, g6, la, hlt]
    refine hQ _ _ i cs hd ?_ ?_ <;> simp only [Ax.FT.fill, Ax.FT.get_set, g0, g5, KP, ↓reduceIte, Nat.reduceEqDiff, Nat.reduceLT, Nat.reduceLeDiff, Nat.reduceAdd, Nat.reduceMul, Nat.reduceBEq, reduceCtorEq, Int.reduceEq, Int.reduceLT, Int.reduceLE, Int.reduceAdd, Int.reduceSub, Int.reduceNeg]
  | succ k ih =>
    intro jj F σ' i cs hi hd g0 g1 g5 g6
    have hlt : decide ((jj : Int) < (l.length : Int)) = true := decide_eq_true (by omega)
    obtain ⟨x, hx⟩ : ∃ x, l[jj]? = some x := ⟨_, List.getElem?_eq_getElem (by omega)⟩
    have hjl := (List.getElem?_eq_some_iff.1 hd.at_).1
    have hlen := hd.len
    have hij := hd.lt
    have e1 := index_own h (j := j) (show jj < l.length by omega)
    have e2 := load_own h (o := jj * 2) (x := x) hd.at_ (by omega) (by rw [hd.right]; have := flat_at l jj x hx; rw [List.drop_eq_getElem_cons (List.getElem?_eq_some_iff.1 hx).1, List.flatMap_cons, (List.getElem?_eq_some_iff.1 hx).2]; rfl)
    have hadd := wr_succ jj (by omega)
    have haddi := wr_succ i (by omega)
    have kp1 : ∀ j' o, j' ≠ j → σ[j']? = some o → (σ' ++ [O.cells 34 [.bool x.1, .str x.2] true])[j']? = some o := fun j' o hj' e => get_app (hd.kp j' o hj' e) _
    have t1 : l.take (jj + 1) = l.take jj ++ [x] := by rw [List.take_add_one, hx]; rfl
    have dr : cs.drop ((jj + 1) * 2) = (l.drop (jj + 1)).flatMap row := by
      rw [show (jj + 1) * 2 = jj * 2 + 2 by omega, ← List.drop_drop, hd.right, List.drop_eq_getElem_cons (List.getElem?_eq_some_iff.1 hx).1, List.flatMap_cons]
      rfl
    rw [Ax.r_loop]
    simp only [fnOf, Tryz.f66, KP, ↓reduceIte, Nat.reduceEqDiff, Nat.reduceLT, Nat.reduceLeDiff, Nat.reduceAdd, Nat.reduceMul, Nat.reduceBEq, reduceCtorEq, Int.reduceEq, Int.reduceLT, Int.reduceLE, Int.reduceAdd, Int.reduceSub, Int.reduceNeg, h.ty3, h.ty4, h.ty9, h.ty34, h.ty22, h.ty25, h.ty28, h.ty30, h.ty32, h.ty61, h.eq34, cutAt, g0, g1, g5, g6, la, hlt, e1, e2, store_new h, load_new h]
    rw [callK_of (fun K => hp _ x K kp1)]
    cases hpx : p x with
    | true =>
      simp only [fnOf, Tryz.f66, KP, ↓reduceIte, Nat.reduceEqDiff, Nat.reduceLT, Nat.reduceLeDiff, Nat.reduceAdd, Nat.reduceMul, Nat.reduceBEq, reduceCtorEq, Int.reduceEq, Int.reduceLT, Int.reduceLE, Int.reduceAdd, Int.reduceSub, Int.reduceNeg, h.ty3, h.ty4, h.ty9, h.ty34, h.ty22, h.ty25, h.ty28, h.ty30, h.ty32, h.ty61, h.eq34, cutAt, g0, g1, g5, g6, la, hlt, hadd]
      refine ih (jj + 1) _ _ i cs (by omega) ⟨get_app hd.at_ _, hd.len, by omega, by omega, ?_, ?_, dr, kp1⟩ ?_ ?_ ?_ ?_
      · rw [t1, List.filter_append, List.length_append, hd.cnt]; simp [hpx]
      · rw [t1, List.filter_append, hd.left]; simp [hpx]
      all_goals simp only [Ax.FT.fill, Ax.FT.get_set, g0, g1, g5, KP, ↓reduceIte, Nat.reduceEqDiff, Nat.reduceLT, Nat.reduceLeDiff, Nat.reduceAdd, Nat.reduceMul, Nat.reduceBEq, reduceCtorEq, Int.reduceEq, Int.reduceLT, Int.reduceLE, Int.reduceAdd, Int.reduceSub, Int.reduceNeg]
    | false =>
      have e3 := index_own h (j := j) (show i < l.length by omega)
      have hat1 : (σ' ++ [O.cells 34 [.bool x.1, .str x.2] true])[j]? = some (.cells 34 cs false) := get_app hd.at_ _
      have e4 := store_own h (o := i * 2) hat1 (by omega) x.1 x.2
      simp only [fnOf, Tryz.f66, KP, ↓reduceIte, Nat.reduceEqDiff, Nat.reduceLT, Nat.reduceLeDiff, Nat.reduceAdd, Nat.reduceMul, Nat.reduceBEq, reduceCtorEq, Int.reduceEq, Int.reduceLT, Int.reduceLE, Int.reduceAdd, Int.reduceSub, Int.reduceNeg, h.ty3, h.ty4, h.ty9, h.ty34, h.ty22, h.ty25, h.ty28, h.ty30, h.ty32, h.ty61, h.eq34, cutAt, g0, g1, g5, g6, la, hlt, hadd, haddi, e3, e4, load_new h]
      have el : (cs.take (i * 2)).length = i * 2 := by rw [List.length_take]; omega
      have en : (setCells cs (i * 2) [V.bool x.1, .str x.2]).length = l.length * 2 := by
        unfold setCells
        simp only [List.length_append, List.length_take, List.length_drop, List.length_cons, List.length_nil]
        omega
      refine ih (jj + 1) _ _ (i + 1) (setCells cs (i * 2) [V.bool x.1, .str x.2]) (by omega) ⟨?_, en, by omega, by omega, ?_, ?_, ?_, ?_⟩ ?_ ?_ ?_ ?_
      · rw [List.getElem?_set_self (by rw [List.length_append]; omega)]; rfl
      · rw [t1, List.filter_append, List.length_append, hd.cnt]; simp [hpx]
      · rw [t1, List.filter_append, List.flatMap_append, ← hd.left]
        unfold setCells
        rw [List.take_append_of_le_length (by simp only [List.length_append, el, List.length_cons, List.length_nil]; omega), List.take_of_length_le (by simp only [List.length_append, el, List.length_cons, List.length_nil]; omega)]
        simp [hpx, row]
      · rw [← dr]
        unfold setCells
        rw [List.drop_append, List.drop_of_length_le (by simp only [List.length_append, el, List.length_cons, List.length_nil]; omega), List.nil_append, List.drop_drop]
        congr 1
        simp only [List.length_append, el, List.length_cons, List.length_nil]
        omega
      · intro j' o hj' e
        rw [List.getElem?_set_ne (fun h => hj' h.symm)]
        exact kp1 j' o hj' e
      all_goals simp only [Ax.FT.fill, Ax.FT.get_set, g0, g1, KP, ↓reduceIte, Nat.reduceEqDiff, Nat.reduceLT, Nat.reduceLeDiff, Nat.reduceAdd, Nat.reduceMul, Nat.reduceBEq, reduceCtorEq, Int.reduceEq, Int.reduceLT, Int.reduceLE, Int.reduceAdd, Int.reduceSub, Int.reduceNeg]
end
end Go.Proofs.YtmbhjdkbcgngiaaGreatDoor
end
section
set_option linter.unusedVariables false
set_option linter.unusedSimpArgs false
set_option maxHeartbeats 2000000
set_option maxRecDepth 10000
namespace Go.Proofs.YtmbhjdkbcgngiaaGreatDoor
open Go Go.Ax Go.AxS
theorem idx_cases (p : Lab → Bool) : ∀ (l : List Lab) (k : Nat), (idx p l k = -1 ∧ ∀ y ∈ l, p y = false) ∨ ∃ a x b, l = a ++ x :: b ∧ idx p l k = ((k + a.length : Nat) : Int) ∧ p x = true ∧ ∀ y ∈ a, p y = false
  | [], k => .inl ⟨rfl, fun _ h => nomatch h⟩
  | x :: l, k => by
    cases hx : p x with
    | true => exact .inr ⟨[], x, l, rfl, by rw [idx, if_pos hx]; rfl, hx, fun _ h => nomatch h⟩
    | false =>
      rw [idx, if_neg (by rw [hx]; exact Bool.false_ne_true)]
      rcases idx_cases p l (k + 1) with ⟨h1, h2⟩ | ⟨a, y, b, rfl, h1, h2, h3⟩
      · refine .inl ⟨h1, fun y hy => ?_⟩
        rcases List.mem_cons.1 hy with rfl | hy
        · exact hx
        · exact h2 y hy
      · refine .inr ⟨x :: a, y, b, rfl, by rw [h1, List.length_cons]; congr 1; omega, h2, fun z hz => ?_⟩
        rcases List.mem_cons.1 hz with rfl | hz
        · exact hx
        · exact h3 z hz
theorem filter_id {p : Lab → Bool} {l : List Lab} (h : ∀ y ∈ l, p y = false) : (l.filter fun x => !p x) = l := List.filter_eq_self.2 fun y hy => by rw [h y hy]; rfl
theorem flat_take : ∀ (l : List Lab) (k : Nat), (l.flatMap row).take (k * 2) = (l.take k).flatMap row
  | [], k => by rw [List.take_nil]; exact List.take_nil
  | x :: l, 0 => rfl
  | x :: l, k + 1 => by
    rw [show (k + 1) * 2 = k * 2 + 1 + 1 by omega, List.take_succ_cons, List.flatMap_cons, List.flatMap_cons, ← flat_take l k]
    rfl
theorem flat_drop : ∀ (l : List Lab) (k : Nat), (l.flatMap row).drop (k * 2) = (l.drop k).flatMap row
  | [], k => by rw [List.drop_nil]; exact List.drop_nil
  | x :: l, 0 => rfl
  | x :: l, k + 1 => by
    rw [show (k + 1) * 2 = k * 2 + 1 + 1 by omega, List.drop_succ_cons, List.flatMap_cons, ← flat_drop l k]
    rfl
theorem reps_length (a b : V) : ∀ n, (reps n [a, b]).length = n * 2
  | 0 => rfl
  | n + 1 => by
    show ([a, b] ++ reps n [a, b]).length = _
    rw [List.length_append, reps_length a b n]
    show 2 + n * 2 = _
    omega
section
variable {E : Env} {σ : Sg} {K : V → Sg → Prop}
theorem slice_lo (h : LabE E) {j n i : Nat} {cs : List V} (hj : σ[j]? = some (.cells 34 cs false)) (hl : cs.length = n * 2) (hi : i < n) : slice E σ 22 (.sl j 0 n none) (some (.int .i64 (i : Int))) none none = some (.sl j (i * 2) (n - i) none) := by
  unfold slice
  have t : topOf cs.length 0 2 none = n := by unfold topOf; show (cs.length - 0) / 2 = n; omega
  have b1 : bound n none n = some n := rfl
  have b2 : bound n (some (.int .i64 (i : Int))) 0 = some i := by
    show (if decide ((0 : Int) ≤ (i : Int)) && decide ((i : Int) ≤ (n : Int)) then some (i : Int).toNat else none) = some i
    rw [decide_eq_true (by omega), decide_eq_true (by omega)]
    rfl
  have c : (0 + i * 2 < cs.length) := by omega
  simp only [h.ty22, h.ty34, hj, Option.isSome_none, Bool.false_and, t, b1, b2, Nat.zero_add, BEq.rfl, Bool.not_true, Bool.false_eq_true, if_false, Nat.reduceEqDiff]
  rw [if_pos (by omega)]
theorem slice_hi (h : LabE E) {j n i : Nat} {cs : List V} (hj : σ[j]? = some (.cells 34 cs false)) (hl : cs.length = n * 2) (hi : i < n) : slice E σ 22 (.sl j 0 n none) none (some (.int .i64 (i : Int))) none = some (.sl j 0 i none) := by
  unfold slice
  have t : topOf cs.length 0 2 none = n := by unfold topOf; show (cs.length - 0) / 2 = n; omega
  have b1 : bound i none 0 = some 0 := rfl
  have b2 : bound n (some (.int .i64 (i : Int))) n = some i := by
    show (if decide ((0 : Int) ≤ (i : Int)) && decide ((i : Int) ≤ (n : Int)) then some (i : Int).toNat else none) = some i
    rw [decide_eq_true (by omega), decide_eq_true (by omega)]
    rfl
  simp only [h.ty22, h.ty34, hj, Option.isSome_none, Bool.false_and, t, b1, b2, Nat.zero_add, Nat.zero_mul, BEq.rfl, Bool.not_true, Bool.false_eq_true, if_false, Nat.reduceEqDiff, Nat.sub_zero]
  rw [if_pos (by omega)]
theorem b_Delete (h : LabE E) {f : Nat} {first cap first' cap' : List V} {p : Lab → Bool} (hs : snapV σ E.ty true (.fn f first cap) = some (.fn f first' cap'))
    (hp1 : ∀ (x : Lab) (K : V → Sg → Prop), WpCall E f (first' ++ [.agg [.bool x.1, .str x.2]] ++ cap') [] K = K (.bool (p x)) []) {v : V} {l : List Lab} {σ0 : Sg} (hv : Own σ0 σ v l) (hsm : l.length ≤ 1000000000000)
    (hp : ∀ (σ' : Sg) (x : Lab) (K : V → Sg → Prop), (∀ j' o, j' < σ0.length → σ[j']? = some o → σ'[j']? = some o) → WpCall E f (first ++ [.agg [.bool x.1, .str x.2]] ++ cap) σ' K = K (.bool (p x)) σ') :
    WpCall E 66 [v, .fn f first cap] σ fun r σ' => SV σ' r (l.filter fun x => !p x) ∧ ∀ j' o, j' < σ0.length → σ[j']? = some o → σ'[j']? = some o := by
  rw [wpCall_shared h.hs66 h.sp66 h.fn66 h.md66, enterF (by kernel_rfl)]
  rcases idx_cases p l 0 with ⟨hi, hall⟩ | ⟨a, x, b, hl, hi, hx, ha⟩
  · simp only [fnOf, Tryz.f66, KP, ↓reduceIte, Nat.reduceEqDiff, Nat.reduceLT, Nat.reduceLeDiff, Nat.reduceAdd, Nat.reduceMul, Nat.reduceBEq, reduceCtorEq, Int.reduceEq, Int.reduceLT, Int.reduceLE, Int.reduceAdd, Int.reduceSub, Int.reduceNeg, h.ty3, h.ty4, h.ty9, h.ty34, h.ty22, h.ty25, h.ty28, h.ty30, h.ty32, h.ty61, h.eq34]
    rw [callK_of fun K => b_Index h hs hp1 hv.sv hsm]
    simp only [fnOf, Tryz.f66, KP, ↓reduceIte, Nat.reduceEqDiff, Nat.reduceLT, Nat.reduceLeDiff, Nat.reduceAdd, Nat.reduceMul, Nat.reduceBEq, reduceCtorEq, Int.reduceEq, Int.reduceLT, Int.reduceLE, Int.reduceAdd, Int.reduceSub, Int.reduceNeg, h.ty3, h.ty4, h.ty9, h.ty34, h.ty22, h.ty25, h.ty28, h.ty30, h.ty32, h.ty61, h.eq34, hi]
    rw [filter_id hall]
    exact ⟨hv.sv, fun _ _ _ e => e⟩
  · rcases hv with ⟨-, hl2⟩ | ⟨j, hj0, rfl, hj⟩
    · rw [hl2] at hl; cases a <;> cases hl
    have hlen : l.length = a.length + 1 + b.length := by rw [hl, List.length_append, List.length_cons]; omega
    have hv : SV σ (.sl j 0 l.length none) l := .inr (.inr ⟨j, _, _, rfl, hj, List.take_of_length_le (by rw [flat_length]; exact Nat.le_refl _)⟩)
    simp only [fnOf, Tryz.f66, KP, ↓reduceIte, Nat.reduceEqDiff, Nat.reduceLT, Nat.reduceLeDiff, Nat.reduceAdd, Nat.reduceMul, Nat.reduceBEq, reduceCtorEq, Int.reduceEq, Int.reduceLT, Int.reduceLE, Int.reduceAdd, Int.reduceSub, Int.reduceNeg, h.ty3, h.ty4, h.ty9, h.ty34, h.ty22, h.ty25, h.ty28, h.ty30, h.ty32, h.ty61, h.eq34]
    rw [callK_of fun K => b_Index h hs hp1 hv hsm]
    rw [Nat.zero_add] at hi
    have hne : ((a.length : Int) = -1) = False := eq_false (by omega)
    have hadd := wr_succ a.length (by omega)
    have t1 : l.take (a.length + 1) = a ++ [x] := by rw [hl, List.take_append, List.take_of_length_le (by omega), show a.length + 1 - a.length = 1 by omega]; rfl
    have t2 : l.take a.length = a := by rw [hl, List.take_append, List.take_of_length_le (by omega), Nat.sub_self, List.take_zero, List.append_nil]
    have ff : ((l.take (a.length + 1)).filter fun y => !p y) = a := by
      rw [t1, List.filter_append, filter_id ha]
      simp [hx]
    have ne : ∀ j' o, j' ≠ j → σ[j']? = some o → σ[j']? = some o := fun _ _ _ e => e
    simp only [fnOf, Tryz.f66, KP, ↓reduceIte, Nat.reduceEqDiff, Nat.reduceLT, Nat.reduceLeDiff, Nat.reduceAdd, Nat.reduceMul, Nat.reduceBEq, reduceCtorEq, Int.reduceEq, Int.reduceLT, Int.reduceLE, Int.reduceAdd, Int.reduceSub, Int.reduceNeg, h.ty3, h.ty4, h.ty9, h.ty34, h.ty22, h.ty25, h.ty28, h.ty30, h.ty32, h.ty61, h.eq34, hi, hne, hadd]
    refine Delete_loop h (p := p) (j := j) (l := l) hsm (fun σ' y K k => hp σ' y K fun j' o hj' e => k j' o (by omega) e) (fun F' σ' i cs hd g0 g5 => ?_) (l.length - (a.length + 1)) (a.length + 1) _ σ a.length (l.flatMap row) (by omega) ⟨hj, flat_length l, by omega, by omega, by rw [ff], by rw [ff, flat_take, t2], flat_drop _ _, ne⟩ ?_ ?_ ?_ ?_
    · have cl := hd.len
      have il := hd.lt
      have hjl := (List.getElem?_eq_some_iff.1 hd.at_).1
      have s1 := slice_lo h hd.at_ cl il
      obtain ⟨cc, hcc⟩ : ∃ c, List.take (i * 2) cs ++ reps (l.length - i) [V.bool false, .str []] ++ List.drop (i * 2 + (reps (l.length - i) [V.bool false, .str []]).length) cs = c := ⟨_, rfl⟩
      have en : cc.length = l.length * 2 := by
        rw [← hcc]
        simp only [List.length_append, List.length_take, List.length_drop, reps_length]
        omega
      have s2 := slice_hi (i := i) (n := l.length) h (σ := σ'.set j (.cells 34 cc false)) (List.getElem?_set_self hjl) en il
      have c1 : (l.length - i = 0) = False := eq_false (by omega)
      have c2 : decide (i * 2 + (l.length - i) * 2 ≤ cs.length) = true := decide_eq_true (by omega)
      have at1 := hd.at_
      simp only [fnOf, Tryz.f66, KP, ↓reduceIte, Nat.reduceEqDiff, Nat.reduceLT, Nat.reduceLeDiff, Nat.reduceAdd, Nat.reduceMul, Nat.reduceBEq, reduceCtorEq, Int.reduceEq, Int.reduceLT, Int.reduceLE, Int.reduceAdd, Int.reduceSub, Int.reduceNeg, h.ty3, h.ty4, h.ty9, h.ty34, h.ty22, h.ty25, h.ty28, h.ty30, h.ty32, h.ty61, h.eq34, g0, g5, s1, s2, c1, c2, at1, hcc]
      refine ⟨.inr (.inr ⟨j, _, _, ?_, List.getElem?_set_self hjl, ?_⟩), fun j' o hj' e => ?_⟩
      · have := hd.cnt
        rw [List.take_length] at this
        rw [this]
      · have := hd.cnt
        have hlft := hd.left
        rw [List.take_length] at this hlft
        rw [this, ← hlft]
        rw [← hcc, List.append_assoc, List.take_append_of_le_length (by rw [List.length_take]; omega), List.take_of_length_le (by rw [List.length_take]; omega)]
      · rw [List.getElem?_set_ne (by omega)]
        exact hd.kp j' o (by omega) e
    all_goals simp only [Ax.FT.fill, Ax.FT.get_set, KP, ↓reduceIte, Nat.reduceEqDiff, Nat.reduceLT, Nat.reduceLeDiff, Nat.reduceAdd, Nat.reduceMul, Nat.reduceBEq, reduceCtorEq, Int.reduceEq, Int.reduceLT, Int.reduceLE, Int.reduceAdd, Int.reduceSub, Int.reduceNeg]
    all_goals rfl
end
end Go.Proofs.YtmbhjdkbcgngiaaGreatDoor
end
section
set_option linter.unusedVariables false
set_option linter.unusedSimpArgs false
set_option maxHeartbeats 2000000
set_option maxRecDepth 10000
namespace Go.Proofs.YtmbhjdkbcgngiaaGreatDoor
open Go Go.Ax Go.AxS
section
variable {E : Env} {σ : Sg} {K : V → Sg → Prop}
theorem snap_box {b : Nat} {w : V} {ks : List Lab} {ex : Bool} (hw : IV w ks) (hb : σ[b]? = some (.cells 25 [w] ex)) : snapV σ E.ty true (.ref b 0) = some (.ipt true [w]) := by
  obtain ⟨hn, g, g', rfl⟩ := hw
  have e2 : snapC σ E.ty true 12 (.ref b 0) = some (.ipt true [.ipt g [.imp g' (ents ks)]]) := by
    rw [snapC]
    simp only [hb]
    rfl
  show (match snapC σ E.ty true 12 (.ref b 0) with
    | some v => if tagOk true v then some v else no "snap: borrowed"
    | none => none) = _
  rw [e2]
  rfl
theorem snap_fbox {f b : Nat} {w : V} {ks : List Lab} {ex : Bool} (hw : IV w ks) (hb : σ[b]? = some (.cells 25 [w] ex)) : snapV σ E.ty true (.fn f [] [.ref b 0]) = some (.fn f [] [.ipt true [w]]) := by
  have e := snap_box (E := E) hw hb
  have e' : snapV.one σ E.ty true (.ref b 0) = some (.ipt true [w]) := e
  unfold snapV
  simp only [mapO, e']
theorem snap_fval {f : Nat} {w : V} {ks : List Lab} (hw : IV w ks) : snapV σ E.ty true (.fn f [w] []) = some (.fn f [w] []) := by
  obtain ⟨hn, g, g', rfl⟩ := hw
  rfl
theorem b_Meet (h : LabE E) {v w : V} {ks ks2 : List Lab} (hv : TV σ v ks) (hw : TV σ w ks2) (sm : Small ks) :
    WpCall E 28 [v, w] σ fun r σ' => σ' = σ ∧ IV r (keys [] ((setOf ks).filter fun x => decide (x ∈ ks2))) := by
  obtain ⟨a, e1, ha⟩ := snap_TV (E := E) hv
  obtain ⟨b, e2, hb⟩ := snap_TV (E := E) hw
  rw [wpCall_iso h.hs28 h.sp28 h.fn28 h.md28 (args' := [a, b]) (by simp only [mapO, e1, e2]), enterF (by kernel_rfl)]
  have cb : b.cells = [b] := by obtain ⟨_, _, _, rfl⟩ := hb; rfl
  have ob : V.okCell b = true := by obtain ⟨_, _, _, rfl⟩ := hb; rfl
  simp only [fnOf, Tryz.f28, KP, ↓reduceIte, Nat.reduceEqDiff, Nat.reduceLT, Nat.reduceLeDiff, Nat.reduceAdd, Nat.reduceMul, Nat.reduceBEq, reduceCtorEq, Int.reduceEq, Int.reduceLT, Int.reduceLE, Int.reduceAdd, Int.reduceSub, Int.reduceNeg, h.ty3, h.ty4, h.ty9, h.ty34, h.ty22, h.ty25, h.ty28, h.ty30, h.ty32, h.ty61, h.eq34, cb, ob]
  refine callK_intro (b_allI h ha sm) ?_
  have hlen1 : (setOf ks).length = ks.length := setOf_length ha.1
  have := sm.1
  rintro r1 σ1 ⟨o1, k1⟩
  simp only [fnOf, Tryz.f28, KP, ↓reduceIte, Nat.reduceEqDiff, Nat.reduceLT, Nat.reduceLeDiff, Nat.reduceAdd, Nat.reduceMul, Nat.reduceBEq, reduceCtorEq, Int.reduceEq, Int.reduceLT, Int.reduceLE, Int.reduceAdd, Int.reduceSub, Int.reduceNeg, h.ty3, h.ty4, h.ty9, h.ty34, h.ty22, h.ty25, h.ty28, h.ty30, h.ty32, h.ty61, h.eq34]
  have b0 : σ1[0]? = some (.cells 25 [b] true) := k1 0 _ rfl
  have q := b_Delete h (f := 67) (first := []) (cap := [.ref 0 0]) (p := fun x => !decide (x ∈ ks2)) (snap_fbox hb b0) (fun x K => b_Meet1 h (show snapV [] E.ty true (.ipt true [b]) = some (.ipt true [b]) by obtain ⟨_, _, _, rfl⟩ := hb; rfl) hb x) o1 (by omega)
    (fun σ' x K k => b_Meet1 h (snap_box hb (k 0 _ (by show 0 < 1; omega) b0)) hb x)
  refine callK_intro q ?_
  rintro r2 σ2 ⟨s2, -⟩
  simp only [fnOf, Tryz.f28, KP, ↓reduceIte, Nat.reduceEqDiff, Nat.reduceLT, Nat.reduceLeDiff, Nat.reduceAdd, Nat.reduceMul, Nat.reduceBEq, reduceCtorEq, Int.reduceEq, Int.reduceLT, Int.reduceLE, Int.reduceAdd, Int.reduceSub, Int.reduceNeg, h.ty3, h.ty4, h.ty9, h.ty34, h.ty22, h.ty25, h.ty28, h.ty30, h.ty32, h.ty61, h.eq34]
  have ef : ((setOf ks).filter fun x => !(!decide (x ∈ ks2))) = (setOf ks).filter fun x => decide (x ∈ ks2) := by
    congr 1
    funext x
    exact Bool.not_not _
  rw [ef] at s2
  have hl := List.length_filter_le (fun x => decide (x ∈ ks2)) (setOf ks)
  refine callK_intro (b_New h s2 (by omega)) ?_
  rintro r3 σ3 ⟨m3, rfl, s3, -, -⟩
  simp only [fnOf, Tryz.f28, KP, ↓reduceIte, Nat.reduceEqDiff, Nat.reduceLT, Nat.reduceLeDiff, Nat.reduceAdd, Nat.reduceMul, Nat.reduceBEq, reduceCtorEq, Int.reduceEq, Int.reduceLT, Int.reduceLE, Int.reduceAdd, Int.reduceSub, Int.reduceNeg, h.ty3, h.ty4, h.ty9, h.ty34, h.ty22, h.ty25, h.ty28, h.ty30, h.ty32, h.ty61, h.eq34]
  rw [snap_setF s3]
  exact ⟨s3.nodup, _, _, rfl⟩
theorem b_But (h : LabE E) {v w : V} {ks ks2 : List Lab} (hv : TV σ v ks) (hw : TV σ w ks2) (sm : Small ks) :
    WpCall E 29 [v, w] σ fun r σ' => σ' = σ ∧ IV r (keys [] ((setOf ks).filter fun x => !decide (x ∈ ks2))) := by
  obtain ⟨a, e1, ha⟩ := snap_TV (E := E) hv
  obtain ⟨b, e2, hb⟩ := snap_TV (E := E) hw
  rw [wpCall_iso h.hs29 h.sp29 h.fn29 h.md29 (args' := [a, b]) (by simp only [mapO, e1, e2]), enterF (by kernel_rfl)]
  simp only [fnOf, Tryz.f29, KP, ↓reduceIte, Nat.reduceEqDiff, Nat.reduceLT, Nat.reduceLeDiff, Nat.reduceAdd, Nat.reduceMul, Nat.reduceBEq, reduceCtorEq, Int.reduceEq, Int.reduceLT, Int.reduceLE, Int.reduceAdd, Int.reduceSub, Int.reduceNeg, h.ty3, h.ty4, h.ty9, h.ty34, h.ty22, h.ty25, h.ty28, h.ty30, h.ty32, h.ty61, h.eq34]
  refine callK_intro (b_allI h ha sm) ?_
  have hlen1 : (setOf ks).length = ks.length := setOf_length ha.1
  have := sm.1
  rintro r1 σ1 ⟨o1, k1⟩
  simp only [fnOf, Tryz.f29, KP, ↓reduceIte, Nat.reduceEqDiff, Nat.reduceLT, Nat.reduceLeDiff, Nat.reduceAdd, Nat.reduceMul, Nat.reduceBEq, reduceCtorEq, Int.reduceEq, Int.reduceLT, Int.reduceLE, Int.reduceAdd, Int.reduceSub, Int.reduceNeg, h.ty3, h.ty4, h.ty9, h.ty34, h.ty22, h.ty25, h.ty28, h.ty30, h.ty32, h.ty61, h.eq34]
  have q := b_Delete h (f := 68) (first := [b]) (cap := []) (p := fun x => decide (x ∈ ks2)) (snap_fval hb) (fun x K => b_has h (hb.tv _) x) o1 (by omega)
    (fun σ' x K k => b_has h (hb.tv _) x)
  refine callK_intro q ?_
  rintro r2 σ2 ⟨s2, -⟩
  simp only [fnOf, Tryz.f29, KP, ↓reduceIte, Nat.reduceEqDiff, Nat.reduceLT, Nat.reduceLeDiff, Nat.reduceAdd, Nat.reduceMul, Nat.reduceBEq, reduceCtorEq, Int.reduceEq, Int.reduceLT, Int.reduceLE, Int.reduceAdd, Int.reduceSub, Int.reduceNeg, h.ty3, h.ty4, h.ty9, h.ty34, h.ty22, h.ty25, h.ty28, h.ty30, h.ty32, h.ty61, h.eq34]
  have hl := List.length_filter_le (fun x => !decide (x ∈ ks2)) (setOf ks)
  refine callK_intro (b_New h s2 (by omega)) ?_
  rintro r3 σ3 ⟨m3, rfl, s3, -, -⟩
  simp only [fnOf, Tryz.f29, KP, ↓reduceIte, Nat.reduceEqDiff, Nat.reduceLT, Nat.reduceLeDiff, Nat.reduceAdd, Nat.reduceMul, Nat.reduceBEq, reduceCtorEq, Int.reduceEq, Int.reduceLT, Int.reduceLE, Int.reduceAdd, Int.reduceSub, Int.reduceNeg, h.ty3, h.ty4, h.ty9, h.ty34, h.ty22, h.ty25, h.ty28, h.ty30, h.ty32, h.ty61, h.eq34]
  rw [snap_setF s3]
  exact ⟨s3.nodup, _, _, rfl⟩
end
end Go.Proofs.YtmbhjdkbcgngiaaGreatDoor
end
section
set_option linter.unusedVariables false
set_option linter.unusedSimpArgs false
set_option maxHeartbeats 4000000
set_option maxRecDepth 10000
namespace Go.Proofs.YtmbhjdkbcgngiaaGreatDoor
open Go Go.Ax Go.AxS
/-- few labels, of names that may be joined to one sign more -/
def UB (U : List Lab) : Prop := U.length ≤ 500 ∧ ∀ k ∈ U, k.2.length ≤ 9223372036854775806
structure TZ (U : List Lab) (σ : Sg) (v : V) (ks : List Lab) (φ : Lab → Prop) : Prop where
  tv : TV σ v ks
  mem : ∀ x, x ∈ ks ↔ φ x
  sub : ∀ x, φ x → x ∈ U
theorem sub_length {U ks : List Lab} (hn : ks.Nodup) (h : ∀ x ∈ ks, x ∈ U) : ks.length ≤ U.length := by
  have e : ks.length = ((keys [] U).filter fun x => decide (x ∈ ks)).length := same_length hn ((keys_nodup List.Pairwise.nil).filter _) fun x => by
    rw [List.mem_filter, mem_keys]
    constructor
    · exact fun hx => ⟨.inr (h x hx), decide_eq_true hx⟩
    · exact fun hx => of_decide_eq_true hx.2
  have := List.length_filter_le (fun x => decide (x ∈ ks)) (keys [] U)
  have := keys_length (xs := U) (l := [])
  simp only [List.length_nil] at this
  omega
section
variable {E : Env} {σ : Sg} {K : V → Sg → Prop} {U ks ks2 : List Lab} {v w : V} {φ ψ : Lab → Prop}
theorem TZ.small (ub : UB U) (hv : TZ U σ v ks φ) : Small ks :=
  ⟨Nat.le_trans (sub_length hv.tv.1 fun x hx => hv.sub x ((hv.mem x).1 hx)) (by have := ub.1; omega), fun k hk => Nat.le_succ_of_le (ub.2 k (hv.sub k ((hv.mem k).1 hk)))⟩
theorem c_Union (h : LabE E) (u : UnionI E) (ub : UB U) (hv : TZ U σ v ks φ) (hw : TZ U σ w ks2 ψ) :
    WpCall E 13 [v, w] σ fun r σ' => σ' = σ ∧ ∃ g g' kr, r = .ipt g [.imp g' (ents kr)] ∧ ∀ σ, TZ U σ r kr (fun x => φ x ∨ ψ x) :=
  (b_UnionI h u hv.tv hw.tv (hv.small ub) (hw.small ub)).mono fun r σ' ⟨e, hn, g, g', hr⟩ => ⟨e, g, g', _, hr, fun _ => ⟨⟨hn, .inr ⟨g, g', hr⟩⟩, fun x => by
    rw [mem_keys, mem_keys, mem_setOf, mem_setOf, hv.mem, hw.mem]; simp, fun x hx => hx.elim (hv.sub x) (hw.sub x)⟩⟩
theorem c_Meet (h : LabE E) (ub : UB U) (hv : TZ U σ v ks φ) (hw : TZ U σ w ks2 ψ) :
    WpCall E 28 [v, w] σ fun r σ' => σ' = σ ∧ ∃ g g' kr, r = .ipt g [.imp g' (ents kr)] ∧ ∀ σ, TZ U σ r kr (fun x => φ x ∧ ψ x) :=
  (b_Meet h hv.tv hw.tv (hv.small ub)).mono fun r σ' ⟨e, hn, g, g', hr⟩ => ⟨e, g, g', _, hr, fun _ => ⟨⟨hn, .inr ⟨g, g', hr⟩⟩, fun x => by
    rw [mem_keys, List.mem_filter, mem_setOf, hv.mem, decide_eq_true_iff, hw.mem]; simp, fun x hx => hv.sub x hx.1⟩⟩
theorem c_But (h : LabE E) (ub : UB U) (hv : TZ U σ v ks φ) (hw : TZ U σ w ks2 ψ) :
    WpCall E 29 [v, w] σ fun r σ' => σ' = σ ∧ ∃ g g' kr, r = .ipt g [.imp g' (ents kr)] ∧ ∀ σ, TZ U σ r kr (fun x => φ x ∧ ¬ψ x) :=
  (b_But h hv.tv hw.tv (hv.small ub)).mono fun r σ' ⟨e, hn, g, g', hr⟩ => ⟨e, g, g', _, hr, fun _ => ⟨⟨hn, .inr ⟨g, g', hr⟩⟩, fun x => by
    rw [mem_keys, List.mem_filter, mem_setOf, hv.mem, ← hw.mem]; simp, fun x hx => hv.sub x hx.1⟩⟩
theorem c_Eq (h : LabE E) (ub : UB U) (hv : TZ U σ v ks φ) (hw : TZ U σ w ks2 ψ) (e : ∀ x, φ x ↔ ψ x) : WpCall E 31 [v, w] σ K = K (.bool true) σ := by
  rw [b_SEq h hv.tv hw.tv (hv.small ub) (hw.small ub), decide_eq_true (setOf_congr fun x => by rw [hv.mem, hw.mem, e])]
theorem TZ.ofSet {b m : Nat} {l : List Lab} (hs : SetAt σ b m (keys [] l)) (hl : ∀ x ∈ l, x ∈ U) : TZ U σ (.ref b 0) (keys [] l) (· ∈ l) :=
  ⟨⟨hs.nodup, .inl ⟨b, m, rfl, hs⟩⟩, fun x => by rw [mem_keys]; simp, hl⟩
end
end Go.Proofs.YtmbhjdkbcgngiaaGreatDoor
end
