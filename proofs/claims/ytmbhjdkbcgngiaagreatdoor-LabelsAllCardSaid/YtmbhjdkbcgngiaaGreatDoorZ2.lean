/- AX: regions, control. -/
/- AX: a region whose order is drawn comes to what the text's order comes to. -/
/- AX: any order that the edges allow comes to what the text's order comes to. -/
/- AX: the drawn orders; code is sound. -/
/- AX: tables. -/
/- AX: structs of scalars: equality, keys. -/
import Derived.Test.YtmbhjdkbcgngiaaGreatDoorZ1
section
namespace Go.Ax
open Go
set_option linter.unusedVariables false
set_option linter.unusedSimpArgs false

/-- a run along a list of numbers -/
def evL (E : Env) (ev : Run) (dr : Bool) (ops : Array Oper) : List Nat → Fr → Sg → Option (Fr × Sg)
  | [], fr, σ => some (fr, σ)
  | i :: rest, fr, σ => match ops[i]? with
    | none => evL E ev dr ops rest fr σ
    | some o => match stepO E ev dr ops o fr σ with
      | some (fr, σ) => evL E ev dr ops rest fr σ
      | none => none

section
variable {P : Program} {E : Env} {ev : Run}

theorem yielded_eq {c : Cx} {fr : Fr} {tmps : Array Value} (h : FR c fr tmps) (ops : Array Oper) (j : Nat) : Go.yielded ops tmps j = Ax.yielded ops fr j := by
  unfold Go.yielded Ax.yielded
  cases hd : (ops[j]?).bind (·.dst) with
  | none => rfl
  | some d =>
    simp only [Option.bind_some]
    cases hf : fr.get d with
    | none =>
      have : tmps[d]? = none := by
        unfold Fr.get at hf
        split at hf
        · cases hf
        · rename_i g
          have := blt_false g
          rw [h.1] at this
          simp; omega
      rw [this]
    | some v =>
      obtain ⟨x, hx, hr⟩ := h.2 d v hf
      rw [hx]
      cases hr with
      | inl h => cases h <;> rfl
      | _ => rfl
theorem wants_eq {c : Cx} {fr : Fr} {tmps : Array Value} (h : FR c fr tmps) (ops : Array Oper) (o : Oper) : Region.wanted o (Go.yielded ops tmps) = wants ops o fr := by
  unfold Region.wanted wants
  cases hg : o.guard with
  | none => rfl
  | some p => simp only [yielded_eq h]
theorem FR.put {c : Cx} {fr : Fr} {a : Act} (h : FR c fr a.tmps) {v : V} {x : Value} (hv : VR c v x) (dst : Option Nat) : FR c (putS fr dst v) (a.put dst x).tmps := by
  cases dst with
  | none => exact h
  | some d =>
    exact FR.set h hv d
theorem put_defers (a : Act) (dst : Option Nat) (x : Value) : (a.put dst x).defers = a.defers := by cases dst <;> rfl

theorem rows_all {sz : Nat} : ∀ (n : Nat) (l : List V), ∀ r ∈ rows sz n l, ∀ v ∈ r, v ∈ l
  | 0, _, r, hr, _, _ => by cases hr
  | n + 1, l, r, hr, v, hv => by
    simp only [rows, List.mem_cons] at hr
    rcases hr with rfl | hr
    · exact List.mem_of_mem_take hv
    · exact List.mem_of_mem_drop (rows_all n _ r hr v hv)

theorem lit_sound (he : EnvOk P E) {c : Cx} (hs : SR E c) {fr : Fr} {a : Act} (hf : FR c fr a.tmps) {t len : Nat} {parts : Array (Nat × Operand)} {v : V} (h : litOp E fr t len parts.toList = some v) :
    GoodV E c ((Instr.buildSlice t len (parts.map fun (i, x) => (i, a.eval x))).run P c.w) v c.σ := by
  unfold litOp at h
  split at h
  case h_2 => cases h
  rename_i e _ _ _ ps hi hps
  split at h
  case h_2 => cases h
  rename_i i hei
  split at h
  case isFalse => cases h
  rename_i hle
  split at h
  case h_2 => cases h
  rename_i cs hcs
  split at h
  case isFalse => cases h
  rename_i htag
  injection h with h; subst h
  have ht := he.ty e i hei
  obtain ⟨d, hd, hkd⟩ := (he.ty t _ hi).kd
  simp only [KdR] at hkd
  subst hkd
  obtain ⟨z, hz, hr, hzs⟩ := ht.zero
  have hv : VR c i.zero z := (hr _ _).vr
  have hbase : VRs c (reps len i.zero.cells) (((Array.range (len * i.size)).map ((if len * i.size = 0 then #[] else z.cells)[· % (if len * i.size = 0 then #[] else z.cells).size]!))).toList := by
    rw [made_cells _ _ hzs]
    exact reps_vrs hv.cells len
  have hp : PR c ps (parts.map fun (i, x) => (i, a.eval x)).toList := by simpa using evalPs_sound hf hps
  obtain ⟨arr, r1, r2, r3⟩ := fill_sound (c := c) _ hp hbase hcs
  have hasz : arr.size = len * i.size := by rw [r3]; simp
  obtain ⟨k1, k2⟩ := grow_ok hs (w := { c.w with heap := c.w.heap.push (.cells arr e (0, 0)) }) (by simp) (fun k hk => by simp [Array.getElem?_push, Nat.ne_of_lt hk]) rfl rfl rfl
  refine ⟨c.outer { c.w with heap := c.w.heap.push (.cells arr e (0, 0)) }, .slice (some ⟨c.w.heap.size, 0, none⟩) len len, ?_, rfl, k1, k2, ?_⟩
  · unfold Instr.buildSlice
    simp only [Sem.run_bind, run_underlying hd, Result.andThen_ok, ht.size]
    rw [Sem.run_ite, if_neg (by omega)]
    by_cases h0 : len * i.size = 0
    · simp only [h0, if_true] at r1 ⊢
      simp only [Sem.run_bind, Sem.run_pure, Result.andThen_ok]
      rw [r1]
      simp [newRow, Cx.outer]
    · simp only [h0, if_false] at r1 ⊢
      simp only [Sem.run_bind, Sem.run_pure, hz, Result.andThen_ok]
      rw [r1]
      simp [newRow, Cx.outer]
  · refine .inl (.isl false _ true _ 0 len len i.size ⟨by simp [Cx.outer], fun ho => ?_, fun _ ha => ?_⟩ (rows_len _ _ _).symm (Nat.le_refl _) (fun _ => rfl) (rows_ir len 0 cs (by have := r2.len; simp at this; omega) (.of_get fun j v hj => ?_)))
    · have := hs.own_lt (k := c.w.heap.size) ho
      omega
    · have := hs.ancLt _ ha
      omega
    · obtain ⟨x, hx, hxr⟩ := r2.get j v hj
      refine ⟨x, ?_, ?_⟩
      · simp only [Array.getElem?_toList] at hx
        rw [cell_at (arr := arr) (t := e) (fr := (0, 0)) (by
          show (c.w.heap.push _)[c.w.heap.size]? = _
          simp)]
        simpa using hx
      · have htv : tagOk false v = true := List.all_eq_true.1 htag v (List.mem_of_getElem? hj)
        have base : IR c.w (sub false c.imm) v x := by
          cases hxr with
          | inl h => exact tag_ir h htv fun _ _ h => h
          | fn f a b xs ys ha hb =>
            cases a with
            | cons => cases htv
            | nil => cases b with
              | cons => cases htv
              | nil => cases ha; cases hb; exact .fn _
          | _ => cases htv
        exact base.mono (k1.wider.sub false)

theorem op_sound (he : EnvOk P E) (hfs : FnsOk P E) (hev : RunOk P E ev) {c : Cx} (hs : SR E c) {fr : Fr} {a : Act} (hf : FR c fr a.tmps) {dr : Bool} {o : Oper} {v : V} {σ' : Sg} (h : opV E ev dr o.op fr c.σ = some (v, σ'))
    {next : Act → World → Prop} {Q : Exit → Act → World → Prop} (hn : ∀ x w', Back E c v σ' x w' → next (a.put o.dst x) w') : o.wp P a c.w next Q := by
  have plain : plainOp E fr c.σ o.op = some (v, σ') → o.wp P a c.w next Q := fun h => by
    obtain ⟨c', x, h1, h2, h3, h4, h5⟩ := plainOp_sound he hs hf h
    unfold Oper.wp
    rcases h1 with h1 | ⟨h1, rfl⟩
    · rw [h1]
      exact hn _ _ ⟨c', rfl, h2, h3, h4, h5⟩
    · rw [h1]
      exact hn _ _ ⟨c', rfl, h2, h3, h4, h5⟩
  unfold opV at h
  split at h
  · rename_i f args ats hop
    split at h
    case h_2 => cases h
    rename_i k first cap l hk hl
    have hfv := evalO_sound hf hk
    obtain ⟨xs, ys, hx, h1, h2⟩ := hfv.fn_inv
    have h3 := evalOs_sound hf hl
    have hrun := callF_sound he hfs hev hs ((h1.append h3).append h2) h
    have hex : (execOp a.eval o).run P c.w = (callFunc k (xs ++ List.map a.eval args.toList ++ ys).toArray).run P c.w := by
      have e : xs.toArray ++ Array.map a.eval args ++ ys.toArray = (xs ++ List.map a.eval args.toList ++ ys).toArray := by apply Array.ext'; simp
      simp only [execOp, hop, resolve, hx, Deferred.ofValue, invoke, Sem.run_bind, Sem.run_pure, Result.andThen_ok, e]
    unfold Oper.wp
    rw [hex]
    rcases hrun with ⟨r1, r2⟩ | ⟨x, w', r1, r2⟩
    · rw [r1, Oper.upon_enter]
      refine r2.mono ?_
      rintro e w' ⟨x, rfl, hb⟩
      exact hn _ _ hb
    · rw [r1]
      exact hn _ _ r2
  · rename_i t len parts hop
    split at h
    · cases hl : litOp E fr t len parts.toList with
      | none => rw [hl] at h; cases h
      | some u =>
        rw [hl] at h; injection h with h; injection h with e1 e2; subst e1 e2
        obtain ⟨c', x, h1, h2, h3, h4, h5⟩ := lit_sound he hs hf hl
        unfold Oper.wp
        have hex : (execOp a.eval o).run P c.w = .ok (.value x) c'.w := by
          simp only [execOp, hop, Sem.run_bind, Sem.run_pure]
          rw [h1]; rfl
        rw [hex]
        exact hn _ _ ⟨c', rfl, h2, h3, h4, h5⟩
    · rename_i hd
      exact plain h
  · exact plain h

theorem evL_sound (he : EnvOk P E) (hfs : FnsOk P E) (hev : RunOk P E ev) {ops : Array Oper} {dr : Bool} : ∀ (l : List Nat) {c : Cx} {fr : Fr} {a : Act} {fr' : Fr} {σ' : Sg}, SR E c → FR c fr a.tmps → a.defers = [] →
    evL E ev dr ops l fr c.σ = some (fr', σ') → ∀ (c0 : Cx), Ext c0 c → wpOps P ops (Post E c0 .normal fr' σ') l a c.w
  | [], c, fr, a, fr', σ', hs, hf, hd, h, c0, hx => by
    simp only [evL] at h
    injection h with h; injection h with h1 h2; subst h1 h2
    exact ⟨rfl, hd, c, rfl, rfl, hx, hs, hf⟩
  | i :: l, c, fr, a, fr', σ', hs, hf, hd, h, c0, hx => by
    simp only [evL] at h
    simp only [wpOps]
    cases ho : ops[i]? with
    | none =>
      rw [ho] at h
      exact evL_sound he hfs hev l hs hf hd h c0 hx
    | some o =>
      rw [ho] at h
      dsimp only at h ⊢
      rw [wants_eq hf]
      split at h
      case h_2 => cases h
      rename_i fr1 σ1 hst
      unfold stepO at hst
      simp only [opW_eq] at hst
      split at hst
      · rename_i hw
        rw [if_pos hw]
        left
        split at hst
        case h_2 => cases hst
        rename_i v σ2 hop
        injection hst with hst; injection hst with e1 e2; subst e1 e2
        refine op_sound he hfs hev hs hf hop ?_
        rintro x w' ⟨c', rfl, rfl, k1, k2, k3⟩
        exact evL_sound he hfs hev l k2 (FR.put (FR.mono k1 hf) k3 o.dst) (by rw [put_defers]; exact hd) h c0 (hx.trans k1)
      · rename_i hw
        rw [if_neg hw]
        injection hst with hst; injection hst with e1 e2; subst e1 e2
        exact evL_sound he hfs hev l hs (hf.put .undef o.dst) (by rw [put_defers]; exact hd) h c0 hx

theorem evOps_evL {ops : Array Oper} {dr : Bool} : ∀ (rest : List Oper) (k : Nat) (fr : Fr) (σ : Sg), ops.toList.drop k = rest → evOps E ev dr ops rest fr σ = evL E ev dr ops (List.range' k rest.length) fr σ
  | [], k, fr, σ, _ => rfl
  | o :: rest, k, fr, σ, h => by
    have ho : ops[k]? = some o := by
      have : (ops.toList.drop k)[0]? = some o := by rw [h]; rfl
      simpa using this
    have hr : ops.toList.drop (k + 1) = rest := by
      have := congrArg List.tail h
      simpa using this
    simp only [evOps, List.length_cons, List.range'_succ, evL, ho]
    cases stepO E ev dr ops o fr σ with
    | none => rfl
    | some r => exact evOps_evL rest (k + 1) _ _ hr
end
end Go.Ax
end
section
namespace Go.Ax
open Go
set_option linter.unusedVariables false
set_option linter.unusedSimpArgs false

theorem all2_eq {α : Type} {f : α → α → Bool} (hf : ∀ a b, f a b = true → a = b) : ∀ {x y : List α}, all2 f x y = true → x = y
  | [], [], _ => rfl
  | a :: x, b :: y, h => by
    simp only [all2, Bool.and_eq_true] at h
    rw [hf a b h.1, all2_eq hf h.2]
  | [], _ :: _, h => by cases h
  | _ :: _, [], h => by cases h
theorem seq_eq' : ∀ {a b : List Nat}, seq a b = true → a = b
  | [], [], _ => rfl
  | x :: a, y :: b, h => by
    simp only [seq_cons, Bool.and_eq_true, decide_eq_true_eq] at h
    rw [h.1, seq_eq' h.2]
  | [], _ :: _, h => by cases h
  | _ :: _, [], h => by cases h
theorem veq_eq : ∀ (n : Nat) {u v : V}, veq n u v = true → u = v
  | 0, _, _, h => by cases h
  | n + 1, u, v, h => by
    have ih := fun a b => veq_eq n (u := a) (v := b)
    unfold veq at h
    split at h <;> try rfl
    · have := eq_of_beq h; subst this; rfl
    · simp only [Bool.and_eq_true, decide_eq_true_eq] at h; rw [h.1, h.2]
    · rw [seq_eq' h]
    · simp only [Bool.and_eq_true, beq_iff_eq] at h
      rw [h.1.1, h.2, all2_eq (fun a b h => all2_eq ih h) h.1.2]
    · simp only [Bool.and_eq_true, beq_iff_eq] at h
      rw [h.1, all2_eq ih h.2]
    · simp only [Bool.and_eq_true, beq_iff_eq] at h
      rw [h.1, all2_eq (fun a b h => by
        simp only [Bool.and_eq_true] at h
        exact Prod.ext (ih _ _ h.1) (ih _ _ h.2)) h.2]
    · simp only [Bool.and_eq_true, decide_eq_true_eq] at h; rw [h.1, h.2]
    · simp only [Bool.and_eq_true, decide_eq_true_eq] at h; rw [h.1.1, h.1.2, h.2]
    · simp only [Bool.and_eq_true, decide_eq_true_eq] at h; rw [h.1.1.1, h.1.1.2, h.1.2, h.2]
    · simp only [decide_eq_true_eq] at h; rw [h]
    · simp only [Bool.and_eq_true, decide_eq_true_eq] at h; rw [h.1.1, all2_eq ih h.1.2, all2_eq ih h.2]
    · rw [all2_eq ih h]
    · rw [all2_eq ih h]
    · cases h

/-! ### what an operation names -/
def Same (fr fr' : Fr) (l : List Nat) : Prop := ∀ t ∈ l, fr.get t = fr'.get t
theorem evalO_congr {fr fr' : Fr} {o : Operand} {l : List Operand} (h : Same fr fr' (tmpsOf l)) (ho : o ∈ l) : evalO fr o = evalO fr' o := by
  cases o with
  | tmp t =>
    simp only [evalO]
    refine h t ?_
    induction l with
    | nil => cases ho
    | cons x l ih =>
      rcases List.mem_cons.1 ho with rfl | ho'
      · simp [tmpsOf]
      · cases x with
        | tmp u => simp only [tmpsOf, List.mem_cons]; exact .inr (ih (fun t ht => h t (by simp [tmpsOf, ht])) ho')
        | _ => exact ih h ho'
  | _ => rfl
theorem evalOs_congr {fr fr' : Fr} {l : List Operand} (h : Same fr fr' (tmpsOf l)) : ∀ {os : List Operand}, (∀ o ∈ os, o ∈ l) → evalOs fr os = evalOs fr' os
  | [], _ => rfl
  | o :: os, ho => by
    simp only [evalOs, evalO_congr h (ho o (by simp)), evalOs_congr h (os := os) (fun x hx => ho x (by simp [hx]))]
theorem evalPs_congr {fr fr' : Fr} {l : List Operand} (h : Same fr fr' (tmpsOf l)) : ∀ {os : List (Nat × Operand)}, (∀ o ∈ os, o.2 ∈ l) → evalPs fr os = evalPs fr' os
  | [], _ => rfl
  | (i, o) :: os, ho => by
    simp only [evalPs, evalO_congr h (ho (i, o) (by simp)), evalPs_congr h (os := os) (fun x hx => ho x (by simp [hx]))]
theorem evalX_congr {fr fr' : Fr} {l : List Operand} (h : Same fr fr' (tmpsOf l)) {o : Option Operand} (ho : ∀ x, o = some x → x ∈ l) : evalX fr o = evalX fr' o := by
  cases o with
  | none => rfl
  | some x => simp only [evalX, evalO_congr h (ho x rfl)]

theorem opV_congr {E : Env} {ev : Run} {dr : Bool} {op : Op} {fr fr' : Fr} {σ : Sg} (h : Same fr fr' (tmpsOf op.operands.toList)) : opV E ev dr op fr σ = opV E ev dr op fr' σ := by
  have e1 : ∀ {o : Operand}, o ∈ op.operands.toList → evalO fr o = evalO fr' o := fun ho => evalO_congr h ho
  have es : ∀ {os : List Operand}, (∀ o ∈ os, o ∈ op.operands.toList) → evalOs fr os = evalOs fr' os := fun ho => evalOs_congr h ho
  have ep : ∀ {os : List (Nat × Operand)}, (∀ o ∈ os, o.2 ∈ op.operands.toList) → evalPs fr os = evalPs fr' os := fun ho => evalPs_congr h ho
  have ex : ∀ {o : Option Operand}, (∀ x, o = some x → x ∈ op.operands.toList) → evalX fr o = evalX fr' o := fun ho => evalX_congr h ho
  cases op with
  | call cl =>
    obtain ⟨callee, args, ats⟩ := cl
    cases callee with
    | value f =>
      simp only [opV]
      rw [e1 (o := f) (by simp [Op.operands, Call.operands]), es (os := args.toList) (fun o ho => by simp [Op.operands, Call.operands]; simp at ho; exact .inr ho)]
    | builtin b =>
      simp only [opV, plainOp, oPick, oAlloc, oBox, oBuild, oBuildSlice, oLoad, oStore, oNilCheck, oBinOp, oUnOp, oConvert, oRange, oNext, oMakeInterface, oMakeFunc, oMakeMap, oMakeSlice, oSlice, oFieldAddr, oField, oIndexAddr, oIndex, oLookup, oMapUpdate, oExtract, oBuiltin]
      rw [es (os := args.toList) (fun o ho => by simp [Op.operands, Call.operands]; simpa using ho)]
    | invoke r nm => rfl
  | build t ps =>
    simp only [opV, plainOp, oPick, oAlloc, oBox, oBuild, oBuildSlice, oLoad, oStore, oNilCheck, oBinOp, oUnOp, oConvert, oRange, oNext, oMakeInterface, oMakeFunc, oMakeMap, oMakeSlice, oSlice, oFieldAddr, oField, oIndexAddr, oIndex, oLookup, oMapUpdate, oExtract, oBuiltin]
    rw [ep (os := ps.toList) (fun o ho => by simp only [Op.operands]; simp; simp at ho; exact ⟨_, ho⟩)]
  | buildSlice t len ps =>
    simp only [opV, plainOp, oBuildSlice, litOp]
    rw [ep (os := ps.toList) (fun o ho => by simp only [Op.operands]; simp; simp at ho; exact ⟨_, ho⟩)]
  | makeFunc f a b =>
    cases f with
    | func f =>
      simp only [opV, plainOp, oPick, oAlloc, oBox, oBuild, oBuildSlice, oLoad, oStore, oNilCheck, oBinOp, oUnOp, oConvert, oRange, oNext, oMakeInterface, oMakeFunc, oMakeMap, oMakeSlice, oSlice, oFieldAddr, oField, oIndexAddr, oIndex, oLookup, oMapUpdate, oExtract, oBuiltin]
      rw [es (os := a.toList) (fun o ho => by simp [Op.operands]; simp at ho; exact .inl ho), es (os := b.toList) (fun o ho => by simp [Op.operands]; simp at ho; exact .inr ho)]
    | _ => rfl
  | makeMap t r =>
    simp only [opV, plainOp, oPick, oAlloc, oBox, oBuild, oBuildSlice, oLoad, oStore, oNilCheck, oBinOp, oUnOp, oConvert, oRange, oNext, oMakeInterface, oMakeFunc, oMakeMap, oMakeSlice, oSlice, oFieldAddr, oField, oIndexAddr, oIndex, oLookup, oMapUpdate, oExtract, oBuiltin]
    rw [ex (o := r) (fun x hx => by simp [Op.operands, hx])]
  | slice t x a b m =>
    simp only [opV, plainOp, oPick, oAlloc, oBox, oBuild, oBuildSlice, oLoad, oStore, oNilCheck, oBinOp, oUnOp, oConvert, oRange, oNext, oMakeInterface, oMakeFunc, oMakeMap, oMakeSlice, oSlice, oFieldAddr, oField, oIndexAddr, oIndex, oLookup, oMapUpdate, oExtract, oBuiltin]
    rw [e1 (o := x) (by simp [Op.operands]), ex (o := a) (fun x hx => by simp [Op.operands, hx]), ex (o := b) (fun x hx => by simp [Op.operands, hx]), ex (o := m) (fun x hx => by simp [Op.operands, hx])]
  | pick x y z => simp only [opV, plainOp, oPick, oAlloc, oBox, oBuild, oBuildSlice, oLoad, oStore, oNilCheck, oBinOp, oUnOp, oConvert, oRange, oNext, oMakeInterface, oMakeFunc, oMakeMap, oMakeSlice, oSlice, oFieldAddr, oField, oIndexAddr, oIndex, oLookup, oMapUpdate, oExtract, oBuiltin]; rw [e1 (o := x) (by simp [Op.operands]), e1 (o := y) (by simp [Op.operands]), e1 (o := z) (by simp [Op.operands])]
  | mapUpdate t x y z => simp only [opV, plainOp, oPick, oAlloc, oBox, oBuild, oBuildSlice, oLoad, oStore, oNilCheck, oBinOp, oUnOp, oConvert, oRange, oNext, oMakeInterface, oMakeFunc, oMakeMap, oMakeSlice, oSlice, oFieldAddr, oField, oIndexAddr, oIndex, oLookup, oMapUpdate, oExtract, oBuiltin]; rw [e1 (o := x) (by simp [Op.operands]), e1 (o := y) (by simp [Op.operands]), e1 (o := z) (by simp [Op.operands])]
  | insert t x y z => simp only [opV, plainOp, oPick, oAlloc, oBox, oBuild, oBuildSlice, oLoad, oStore, oNilCheck, oBinOp, oUnOp, oConvert, oRange, oNext, oMakeInterface, oMakeFunc, oMakeMap, oMakeSlice, oSlice, oFieldAddr, oField, oIndexAddr, oIndex, oLookup, oMapUpdate, oExtract, oBuiltin]; rw [e1 (o := x) (by simp [Op.operands]), e1 (o := y) (by simp [Op.operands]), e1 (o := z) (by simp [Op.operands])]
  | store t x y => simp only [opV, plainOp, oPick, oAlloc, oBox, oBuild, oBuildSlice, oLoad, oStore, oNilCheck, oBinOp, oUnOp, oConvert, oRange, oNext, oMakeInterface, oMakeFunc, oMakeMap, oMakeSlice, oSlice, oFieldAddr, oField, oIndexAddr, oIndex, oLookup, oMapUpdate, oExtract, oBuiltin]; rw [e1 (o := x) (by simp [Op.operands]), e1 (o := y) (by simp [Op.operands])]
  | binOp b t x y q => simp only [opV, plainOp, oPick, oAlloc, oBox, oBuild, oBuildSlice, oLoad, oStore, oNilCheck, oBinOp, oUnOp, oConvert, oRange, oNext, oMakeInterface, oMakeFunc, oMakeMap, oMakeSlice, oSlice, oFieldAddr, oField, oIndexAddr, oIndex, oLookup, oMapUpdate, oExtract, oBuiltin]; rw [e1 (o := x) (by simp [Op.operands]), e1 (o := y) (by simp [Op.operands])]
  | makeSlice t x y => simp only [opV, plainOp, oPick, oAlloc, oBox, oBuild, oBuildSlice, oLoad, oStore, oNilCheck, oBinOp, oUnOp, oConvert, oRange, oNext, oMakeInterface, oMakeFunc, oMakeMap, oMakeSlice, oSlice, oFieldAddr, oField, oIndexAddr, oIndex, oLookup, oMapUpdate, oExtract, oBuiltin]; rw [e1 (o := x) (by simp [Op.operands]), e1 (o := y) (by simp [Op.operands])]
  | indexAddr t x y => simp only [opV, plainOp, oPick, oAlloc, oBox, oBuild, oBuildSlice, oLoad, oStore, oNilCheck, oBinOp, oUnOp, oConvert, oRange, oNext, oMakeInterface, oMakeFunc, oMakeMap, oMakeSlice, oSlice, oFieldAddr, oField, oIndexAddr, oIndex, oLookup, oMapUpdate, oExtract, oBuiltin]; rw [e1 (o := x) (by simp [Op.operands]), e1 (o := y) (by simp [Op.operands])]
  | index t x y => simp only [opV, plainOp, oPick, oAlloc, oBox, oBuild, oBuildSlice, oLoad, oStore, oNilCheck, oBinOp, oUnOp, oConvert, oRange, oNext, oMakeInterface, oMakeFunc, oMakeMap, oMakeSlice, oSlice, oFieldAddr, oField, oIndexAddr, oIndex, oLookup, oMapUpdate, oExtract, oBuiltin]; rw [e1 (o := x) (by simp [Op.operands]), e1 (o := y) (by simp [Op.operands])]
  | lookup t x y q => simp only [opV, plainOp, oPick, oAlloc, oBox, oBuild, oBuildSlice, oLoad, oStore, oNilCheck, oBinOp, oUnOp, oConvert, oRange, oNext, oMakeInterface, oMakeFunc, oMakeMap, oMakeSlice, oSlice, oFieldAddr, oField, oIndexAddr, oIndex, oLookup, oMapUpdate, oExtract, oBuiltin]; rw [e1 (o := x) (by simp [Op.operands]), e1 (o := y) (by simp [Op.operands])]
  | move x => simp only [opV, plainOp, oPick, oAlloc, oBox, oBuild, oBuildSlice, oLoad, oStore, oNilCheck, oBinOp, oUnOp, oConvert, oRange, oNext, oMakeInterface, oMakeFunc, oMakeMap, oMakeSlice, oSlice, oFieldAddr, oField, oIndexAddr, oIndex, oLookup, oMapUpdate, oExtract, oBuiltin]; rw [e1 (o := x) (by simp [Op.operands])]
  | assign x => simp only [opV, plainOp, oPick, oAlloc, oBox, oBuild, oBuildSlice, oLoad, oStore, oNilCheck, oBinOp, oUnOp, oConvert, oRange, oNext, oMakeInterface, oMakeFunc, oMakeMap, oMakeSlice, oSlice, oFieldAddr, oField, oIndexAddr, oIndex, oLookup, oMapUpdate, oExtract, oBuiltin]; rw [e1 (o := x) (by simp [Op.operands])]
  | box t x => simp only [opV, plainOp, oPick, oAlloc, oBox, oBuild, oBuildSlice, oLoad, oStore, oNilCheck, oBinOp, oUnOp, oConvert, oRange, oNext, oMakeInterface, oMakeFunc, oMakeMap, oMakeSlice, oSlice, oFieldAddr, oField, oIndexAddr, oIndex, oLookup, oMapUpdate, oExtract, oBuiltin]; rw [e1 (o := x) (by simp [Op.operands])]
  | range t x => simp only [opV, plainOp, oPick, oAlloc, oBox, oBuild, oBuildSlice, oLoad, oStore, oNilCheck, oBinOp, oUnOp, oConvert, oRange, oNext, oMakeInterface, oMakeFunc, oMakeMap, oMakeSlice, oSlice, oFieldAddr, oField, oIndexAddr, oIndex, oLookup, oMapUpdate, oExtract, oBuiltin]; rw [e1 (o := x) (by simp [Op.operands])]
  | next x b => cases b with
    | false => rfl
    | true => simp only [opV, plainOp, oPick, oAlloc, oBox, oBuild, oBuildSlice, oLoad, oStore, oNilCheck, oBinOp, oUnOp, oConvert, oRange, oNext, oMakeInterface, oMakeFunc, oMakeMap, oMakeSlice, oSlice, oFieldAddr, oField, oIndexAddr, oIndex, oLookup, oMapUpdate, oExtract, oBuiltin]; rw [e1 (o := x) (by simp [Op.operands])]
  | entry x => simp only [opV, plainOp, oEntry]; rw [e1 (o := x) (by simp [Op.operands])]
  | load t x => simp only [opV, plainOp, oPick, oAlloc, oBox, oBuild, oBuildSlice, oLoad, oStore, oNilCheck, oBinOp, oUnOp, oConvert, oRange, oNext, oMakeInterface, oMakeFunc, oMakeMap, oMakeSlice, oSlice, oFieldAddr, oField, oIndexAddr, oIndex, oLookup, oMapUpdate, oExtract, oBuiltin]; rw [e1 (o := x) (by simp [Op.operands])]
  | nilCheck x => simp only [opV, plainOp, oPick, oAlloc, oBox, oBuild, oBuildSlice, oLoad, oStore, oNilCheck, oBinOp, oUnOp, oConvert, oRange, oNext, oMakeInterface, oMakeFunc, oMakeMap, oMakeSlice, oSlice, oFieldAddr, oField, oIndexAddr, oIndex, oLookup, oMapUpdate, oExtract, oBuiltin]; rw [e1 (o := x) (by simp [Op.operands])]
  | unOp b t x => simp only [opV, plainOp, oPick, oAlloc, oBox, oBuild, oBuildSlice, oLoad, oStore, oNilCheck, oBinOp, oUnOp, oConvert, oRange, oNext, oMakeInterface, oMakeFunc, oMakeMap, oMakeSlice, oSlice, oFieldAddr, oField, oIndexAddr, oIndex, oLookup, oMapUpdate, oExtract, oBuiltin]; rw [e1 (o := x) (by simp [Op.operands])]
  | convert s d x => simp only [opV, plainOp, oPick, oAlloc, oBox, oBuild, oBuildSlice, oLoad, oStore, oNilCheck, oBinOp, oUnOp, oConvert, oRange, oNext, oMakeInterface, oMakeFunc, oMakeMap, oMakeSlice, oSlice, oFieldAddr, oField, oIndexAddr, oIndex, oLookup, oMapUpdate, oExtract, oBuiltin]; rw [e1 (o := x) (by simp [Op.operands])]
  | makeInterface t x => simp only [opV, plainOp, oPick, oAlloc, oBox, oBuild, oBuildSlice, oLoad, oStore, oNilCheck, oBinOp, oUnOp, oConvert, oRange, oNext, oMakeInterface, oMakeFunc, oMakeMap, oMakeSlice, oSlice, oFieldAddr, oField, oIndexAddr, oIndex, oLookup, oMapUpdate, oExtract, oBuiltin]; rw [e1 (o := x) (by simp [Op.operands])]
  | fieldAddr t x f => simp only [opV, plainOp, oPick, oAlloc, oBox, oBuild, oBuildSlice, oLoad, oStore, oNilCheck, oBinOp, oUnOp, oConvert, oRange, oNext, oMakeInterface, oMakeFunc, oMakeMap, oMakeSlice, oSlice, oFieldAddr, oField, oIndexAddr, oIndex, oLookup, oMapUpdate, oExtract, oBuiltin]; rw [e1 (o := x) (by simp [Op.operands])]
  | field t x f => simp only [opV, plainOp, oPick, oAlloc, oBox, oBuild, oBuildSlice, oLoad, oStore, oNilCheck, oBinOp, oUnOp, oConvert, oRange, oNext, oMakeInterface, oMakeFunc, oMakeMap, oMakeSlice, oSlice, oFieldAddr, oField, oIndexAddr, oIndex, oLookup, oMapUpdate, oExtract, oBuiltin]; rw [e1 (o := x) (by simp [Op.operands])]
  | extract x i => simp only [opV, plainOp, oPick, oAlloc, oBox, oBuild, oBuildSlice, oLoad, oStore, oNilCheck, oBinOp, oUnOp, oConvert, oRange, oNext, oMakeInterface, oMakeFunc, oMakeMap, oMakeSlice, oSlice, oFieldAddr, oField, oIndexAddr, oIndex, oLookup, oMapUpdate, oExtract, oBuiltin]; rw [e1 (o := x) (by simp [Op.operands])]
  | _ => rfl

/-! ### what an operation does to the heap -/
theorem builtin_len_same {E : Env} {σ : Sg} {ats : Array Nat} {vs : List V} {v : V} {σ' : Sg} (h : Ax.builtin E σ .len ats vs = some (v, σ')) : σ' = σ := by
  cases vs with
  | nil => cases h
  | cons x r =>
    cases r with
    | cons => cases h
    | nil =>
      simp only [Ax.builtin] at h
      repeat' (split at h)
      all_goals first
        | (injection h with h; injection h with _ h; exact h.symm)
        | cases h
theorem builtin_data_still {E : Env} {σ : Sg} {ats : Array Nat} {vs : List V} {v : V} {σ' : Sg} (h : Ax.builtin E σ .unsafeSliceData ats vs = some (v, σ')) : σ' = σ := by
  unfold Ax.builtin at h
  split at h <;> try contradiction
  · split at h
    · cases h
    · injection h with h; injection h with _ h; exact h.symm
  · injection h with h; injection h with _ h; exact h.symm
theorem map_same {α : Type} {o : Option α} {σ : Sg} {r : α × Sg} (h : o.map (·, σ) = some r) : r.2 = σ ∧ ∀ τ : Sg, o.map (·, τ) = some (r.1, τ) := by
  cases o with
  | none => cases h
  | some x => injection h with h; subst h; exact ⟨rfl, fun _ => rfl⟩

theorem callF_quiet {E : Env} {ev : Run} {f : Nat} {vs : List V} {σ σ' : Sg} {v : V} (h0 : E.hspec f = none) (h1 : (E.spec f).isSome = true ∨ (E.spec f = none ∧ E.mode f = .iso)) (h : callF E ev f vs σ = some (v, σ')) : σ' = σ := by
  unfold callF at h
  rw [h0] at h
  dsimp only at h
  rcases h1 with h1 | ⟨h1, h2⟩
  · obtain ⟨s, hs⟩ := Option.isSome_iff_exists.1 h1
    rw [hs] at h
    dsimp only at h
    repeat' (split at h)
    all_goals first
      | (injection h with h; injection h with _ h; exact h.symm)
      | cases h
  · rw [h1, h2] at h
    dsimp only at h
    repeat' (split at h)
    all_goals first
      | (injection h with h; injection h with _ h; exact h.symm)
      | (exfalso; apply_assumption; rfl)
      | (cases h; done)

theorem opV_quiet {E : Env} {ev : Run} {frz : Bool} {op : Op} {fr : Fr} {σ σ' : Sg} {v : V} (hw : (effect E frz op).2 = false) (h : opV E ev frz op fr σ = some (v, σ')) : σ' = σ := by
  cases op with
  | call cl =>
    obtain ⟨callee, args, ats⟩ := cl
    cases callee with
    | value f =>
      cases f with
      | func f =>
        simp only [opV, evalO] at h
        split at h
        case h_2 => cases h
        rename_i k first cap l hk hl
        injection hk with hk; injection hk with e1 e2 e3; subst e1 e2 e3
        simp only [effect] at hw
        split at hw
        · rename_i s h1 h2
          exact callF_quiet h1 (.inl (by rw [h2]; rfl)) h
        · rename_i h1 h2 h3
          exact callF_quiet h1 (.inr ⟨h2, h3⟩) h
        · cases hw
      | _ => cases hw
    | builtin b =>
      simp only [opV, plainOp, oPick, oAlloc, oBox, oBuild, oBuildSlice, oLoad, oStore, oNilCheck, oBinOp, oUnOp, oConvert, oRange, oNext, oMakeInterface, oMakeFunc, oMakeMap, oMakeSlice, oSlice, oFieldAddr, oField, oIndexAddr, oIndex, oLookup, oMapUpdate, oExtract, oBuiltin] at h
      split at h
      case h_2 => cases h
      cases b with
      | len => exact builtin_len_same h
      | unsafeSliceData => exact builtin_data_still h
      | _ => cases hw
    | invoke r nm => cases h
  | buildSlice t len ps =>
    simp only [opV] at h
    cases frz with
    | false => cases hw
    | true => exact (map_same h).1
  | makeFunc f a b =>
    cases f with
    | func f =>
      simp only [opV, plainOp, oPick, oAlloc, oBox, oBuild, oBuildSlice, oLoad, oStore, oNilCheck, oBinOp, oUnOp, oConvert, oRange, oNext, oMakeInterface, oMakeFunc, oMakeMap, oMakeSlice, oSlice, oFieldAddr, oField, oIndexAddr, oIndex, oLookup, oMapUpdate, oExtract, oBuiltin] at h
      repeat' (split at h)
      all_goals first
        | (injection h with h; injection h with _ h; exact h.symm)
        | cases h
    | _ => cases h
  | move | assign | pick | build | load | nilCheck | binOp | unOp | convert | makeInterface | slice | fieldAddr | field | indexAddr | index | lookup | extract =>
    simp only [opV, plainOp, oPick, oAlloc, oBox, oBuild, oBuildSlice, oLoad, oStore, oNilCheck, oBinOp, oUnOp, oConvert, oRange, oNext, oMakeInterface, oMakeFunc, oMakeMap, oMakeSlice, oSlice, oFieldAddr, oField, oIndexAddr, oIndex, oLookup, oMapUpdate, oExtract, oBuiltin] at h
    repeat' (split at h)
    all_goals first
      | (injection h with h; injection h with _ h; exact h.symm)
      | exact (map_same h).1
      | cases h
  | _ => cases hw
theorem opV_still {E : Env} {ev : Run} {frz : Bool} {op : Op} {fr : Fr} {σ σ' : Sg} {v : V} (hr : (effect E frz op).1 = false) (hw : (effect E frz op).2 = false) (h : opV E ev frz op fr σ = some (v, σ')) (τ : Sg) : opV E ev frz op fr τ = some (v, τ) := by
  cases op with
  | call cl =>
    obtain ⟨callee, args, ats⟩ := cl
    cases callee with
    | value f =>
      cases f with
      | func f =>
        simp only [effect] at hr
        split at hr <;> cases hr
      | _ => cases hr
    | builtin b => cases b <;> cases hr
    | invoke r nm => cases h
  | buildSlice t len ps =>
    simp only [opV] at h ⊢
    cases frz with
    | false => cases hw
    | true => exact (map_same h).2 τ
  | makeFunc f a b =>
    cases f with
    | func f =>
      simp only [opV, plainOp, oPick, oAlloc, oBox, oBuild, oBuildSlice, oLoad, oStore, oNilCheck, oBinOp, oUnOp, oConvert, oRange, oNext, oMakeInterface, oMakeFunc, oMakeMap, oMakeSlice, oSlice, oFieldAddr, oField, oIndexAddr, oIndex, oLookup, oMapUpdate, oExtract, oBuiltin] at h ⊢
      repeat' (split at h)
      all_goals first
        | (injection h with h; injection h with h _; subst h; rfl)
        | cases h
    | _ => cases h
  | move | assign | pick | build | nilCheck | binOp | unOp | makeInterface | fieldAddr | field | indexAddr | index | extract =>
    simp only [opV, plainOp, oPick, oAlloc, oBox, oBuild, oBuildSlice, oLoad, oStore, oNilCheck, oBinOp, oUnOp, oConvert, oRange, oNext, oMakeInterface, oMakeFunc, oMakeMap, oMakeSlice, oSlice, oFieldAddr, oField, oIndexAddr, oIndex, oLookup, oMapUpdate, oExtract, oBuiltin] at h ⊢
    repeat' (split at h)
    all_goals first
      | (injection h with h; injection h with h _; subst h; first | rfl | (split <;> first | rfl | contradiction))
      | exact (map_same h).2 τ
      | cases h
  | _ => cases hr
end Go.Ax
end
section
namespace Go.Ax
open Go
set_option linter.unusedVariables false
set_option linter.unusedSimpArgs false

theorem first_or (p : Nat → Prop) [DecidablePred p] (j : Nat) : ∀ i, j ≤ i → (∀ k, j ≤ k → k < i → ¬ p k) ∨ ∃ a, j ≤ a ∧ a < i ∧ p a ∧ ∀ k, j ≤ k → k < a → ¬ p k := by
  intro i
  induction i with
  | zero => intro h; exact .inl fun k _ hk => by omega
  | succ i ih =>
    intro h
    rcases Nat.lt_or_ge i j with hj | hj
    · exact .inl fun k h1 h2 => by omega
    · rcases ih hj with h' | ⟨a, h1, h2, h3, h4⟩
      · by_cases hp : p i
        · exact .inr ⟨i, hj, by omega, hp, h'⟩
        · refine .inl fun k h1 h2 => ?_
          rcases Nat.lt_or_ge k i with hk | hk
          · exact h' k h1 hk
          · have : k = i := by omega
            subst this; exact hp
      · exact .inr ⟨a, h1, by omega, h3, h4⟩
theorem last_or (p : Nat → Prop) [DecidablePred p] (j : Nat) : ∀ i, j ≤ i → (∀ k, j ≤ k → k < i → ¬ p k) ∨ ∃ a, j ≤ a ∧ a < i ∧ p a ∧ ∀ k, a < k → k < i → ¬ p k := by
  intro i
  induction i with
  | zero => intro h; exact .inl fun k _ hk => by omega
  | succ i ih =>
    intro h
    rcases Nat.lt_or_ge i j with hj | hj
    · exact .inl fun k h1 h2 => by omega
    · by_cases hp : p i
      · exact .inr ⟨i, hj, by omega, hp, fun k h1 h2 => by omega⟩
      · rcases ih hj with h' | ⟨a, h1, h2, h3, h4⟩
        · refine .inl fun k h1 h2 => ?_
          rcases Nat.lt_or_ge k i with hk | hk
          · exact h' k h1 hk
          · have : k = i := by omega
            subst this; exact hp
        · refine .inr ⟨a, h1, by omega, h3, fun k h1 h2 => ?_⟩
          rcases Nat.lt_or_ge k i with hk | hk
          · exact h4 k h1 hk
          · have : k = i := by omega
            subst this; exact hp

section
variable {E : Env} {ev : Run} {frz : Bool} {ops : Array Oper} {T : Nat → Fr × Sg} {pre : Nat → Nat → Bool}

theorem stepO_out {o : Oper} {fr : Fr} {σ : Sg} {q : Fr × Sg} (h : stepO E ev frz ops o fr σ = some q) : ∃ v, q.1 = putS fr o.dst v := by
  unfold stepO at h
  simp only [opW_eq] at h
  split at h
  · split at h
    · injection h with h; subst h; exact ⟨_, rfl⟩
    · cases h
  · injection h with h; subst h; exact ⟨_, rfl⟩
theorem putS_len (fr : Fr) (d : Option Nat) (v : V) : (putS fr d v).n = fr.n := by cases d <;> simp [putS, Fr.put_n]
theorem putS_other {fr : Fr} {d : Option Nat} {v : V} {t : Nat} (h : d ≠ some t) : (putS fr d v).get t = fr.get t := by
  cases d with
  | none => rfl
  | some d =>
    simp only [putS]
    rw [Fr.get_put, if_neg (fun e => h (by rw [e.1]))]
theorem stepO_quiet {o : Oper} {fr : Fr} {σ : Sg} {q : Fr × Sg} (hw : (effect E frz o.op).2 = false) (h : stepO E ev frz ops o fr σ = some q) : q.2 = σ := by
  unfold stepO at h
  simp only [opW_eq] at h
  split at h
  · split at h
    · rename_i v σ' hv
      injection h with h; subst h; exact opV_quiet hw hv
    · cases h
  · injection h with h; subst h; rfl

structure Dr (E : Env) (ev : Run) (frz : Bool) (ops : Array Oper) (T : Nat → Fr × Sg) (pre : Nat → Nat → Bool) : Prop where
  step : ∀ i o, ops[i]? = some o → stepO E ev frz ops o (T i).1 (T i).2 = some (T (i + 1))
  edge : ∀ i o, ops[i]? = some o → ∀ k, pre i k = true → ∃ e ∈ o.after.toList, Region.binds .any e = true ∧ (k = e.on ∨ pre e.on k = true)
  lt : ∀ i o, ops[i]? = some o → ∀ e ∈ o.after.toList, Region.binds .any e = true → e.on < i
  pair : ∀ i j x y, i < j → ops[i]? = some x → ops[j]? = some y → pre j i = true ∨
    (pairOk E frz ops x y = true ∧ ((effect E frz x.op).2 = true → (effect E frz y.op).1 = true → again E ev frz ops y (T j).1 (T j).2 (T i).2 = true) ∧
      ((effect E frz x.op).1 = true → (effect E frz y.op).2 = true → again E ev frz ops x (T i).1 (T i).2 (T (j + 1)).2 = true))

structure Inv (E : Env) (frz : Bool) (ops : Array Oper) (T : Nat → Fr × Sg) (pre : Nat → Nat → Bool) (L : Array Bool) (fr : Fr) (σ : Sg) : Prop where
  size : L.size = ops.size
  down : ∀ i k, L[i]? = some true → pre i k = true → L[k]? = some true
  len : fr.n = (T 0).1.n
  fr : ∀ t j, j ≤ ops.size → (∀ k o, ops[k]? = some o → o.dst = some t → (k < j ↔ L[k]? = some true)) → fr.get t = (T j).1.get t
  σ : ∀ j, j ≤ ops.size → (∀ k o, ops[k]? = some o → (effect E frz o.op).2 = true → (k < j ↔ L[k]? = some true)) → σ = (T j).2

theorem op_some {k j : Nat} (h : k < j) (hj : j ≤ ops.size) : ∃ o, ops[k]? = some o := ⟨ops[k], Array.getElem?_eq_getElem (by omega)⟩
theorem op_lt {k : Nat} {o : Oper} (h : ops[k]? = some o) : k < ops.size := by
  rcases Nat.lt_or_ge k ops.size with g | g
  · exact g
  · rw [Array.getElem?_eq_none g] at h; cases h

theorem Dr.len (h : Dr E ev frz ops T pre) : ∀ j, j ≤ ops.size → (T j).1.n = (T 0).1.n
  | 0, _ => rfl
  | j + 1, hj => by
    obtain ⟨o, ho⟩ := op_some (Nat.lt_succ_self j) hj
    obtain ⟨v, hv⟩ := stepO_out (h.step j o ho)
    rw [hv, putS_len]
    exact h.len j (by omega)
theorem Dr.quietFr (h : Dr E ev frz ops T pre) {t a : Nat} : ∀ b, a ≤ b → b ≤ ops.size → (∀ k o, a ≤ k → k < b → ops[k]? = some o → o.dst ≠ some t) → (T a).1.get t = (T b).1.get t := by
  intro b
  induction b with
  | zero => intro h1 _ _; have : a = 0 := by omega
            subst this; rfl
  | succ b ih =>
    intro h1 h2 h3
    rcases Nat.lt_or_ge b a with hb | hb
    · have : a = b + 1 := by omega
      subst this; rfl
    · rw [ih hb (by omega) fun k o g1 g2 => h3 k o g1 (by omega)]
      obtain ⟨o, ho⟩ := op_some (Nat.lt_succ_self b) h2
      obtain ⟨v, hv⟩ := stepO_out (h.step b o ho)
      rw [hv, putS_other (h3 b o hb (by omega) ho)]
theorem Dr.quietσ (h : Dr E ev frz ops T pre) {a : Nat} : ∀ b, a ≤ b → b ≤ ops.size → (∀ k o, a ≤ k → k < b → ops[k]? = some o → (effect E frz o.op).2 = false) → (T a).2 = (T b).2 := by
  intro b
  induction b with
  | zero => intro h1 _ _; have : a = 0 := by omega
            subst this; rfl
  | succ b ih =>
    intro h1 h2 h3
    rcases Nat.lt_or_ge b a with hb | hb
    · have : a = b + 1 := by omega
      subst this; rfl
    · rw [ih hb (by omega) fun k o g1 g2 => h3 k o g1 (by omega)]
      obtain ⟨o, ho⟩ := op_some (Nat.lt_succ_self b) h2
      exact (stepO_quiet (h3 b o hb (by omega) ho) (h.step b o ho)).symm

theorem wants_congr {fr fr' : Fr} {o : Oper} (h : Same fr fr' (namesOf ops o)) : wants ops o fr = wants ops o fr' := by
  unfold wants
  cases hg : o.guard with
  | none => rfl
  | some p =>
    obtain ⟨j, w⟩ := p
    dsimp only
    have : yielded ops fr j = yielded ops fr' j := by
      unfold yielded
      cases hd : (ops[j]?).bind (·.dst) with
      | none => rfl
      | some d =>
        simp only [Option.bind_some]
        rw [h d (by simp [namesOf, hg, hd])]
    rw [this]

/-- two unordered writers, or namers, are none -/
theorem pairOk_ww {x y : Oper} (h : pairOk E frz ops x y = true) (h1 : (effect E frz x.op).2 = true) (h2 : (effect E frz y.op).2 = true) : False := by
  simp [pairOk, h1, h2] at h
theorem pairOk_xn {x y : Oper} {t : Nat} (h : pairOk E frz ops x y = true) (h1 : x.dst = some t) (h2 : t ∈ namesOf ops y) : False := by
  simp [pairOk, h1, h2] at h
theorem pairOk_xd {x y : Oper} {t : Nat} (h : pairOk E frz ops x y = true) (h1 : x.dst = some t) (h2 : y.dst = some t) : False := by
  simp [pairOk, h1, h2] at h
theorem pairOk_yn {x y : Oper} {t : Nat} (h : pairOk E frz ops x y = true) (h1 : y.dst = some t) (h2 : t ∈ namesOf ops x) : False := by
  simp [pairOk, h1, h2] at h

theorem Inv.cut (h : Dr E ev frz ops T pre) {L : Array Bool} {fr : Fr} {σ : Sg} (hi : Inv E frz ops T pre L fr σ) : ∀ m, m ≤ ops.size → ∃ j, j ≤ m ∧ ∀ k o, k < m → ops[k]? = some o → (effect E frz o.op).2 = true → (k < j ↔ L[k]? = some true)
  | 0, _ => ⟨0, Nat.le_refl _, fun k o hk => by omega⟩
  | m + 1, hm => by
    obtain ⟨j, hj, hc⟩ := hi.cut h m (by omega)
    obtain ⟨o, ho⟩ := op_some (Nat.lt_succ_self m) hm
    by_cases hw : (effect E frz o.op).2 = true ∧ L[m]? = some true
    · refine ⟨m + 1, Nat.le_refl _, fun k ok hk hok hwk => ⟨fun _ => ?_, fun _ => hk⟩⟩
      rcases Nat.lt_or_ge k m with hkm | hkm
      · rcases h.pair k m ok o hkm hok ho with hp | ⟨hp, _⟩
        · exact hi.down m k hw.2 hp
        · exact (pairOk_ww hp hwk hw.1).elim
      · have : k = m := by omega
        subst this; exact hw.2
    · refine ⟨j, by omega, fun k ok hk hok hwk => ?_⟩
      rcases Nat.lt_or_ge k m with hkm | hkm
      · exact hc k ok hkm hok hwk
      · have : k = m := by omega
        subst this
        rw [ho] at hok; injection hok with hok; subst hok
        exact ⟨fun h => by omega, fun h => (hw ⟨hwk, h⟩).elim⟩

theorem again_eq {o : Oper} {fr : Fr} {σ τ : Sg} {v : V} {σ1 : Sg} (hw : (effect E frz o.op).2 = false) (h : again E ev frz ops o fr σ τ = true) (hwt : wants ops o fr = true) (hv : opV E ev frz o.op fr σ = some (v, σ1)) : opV E ev frz o.op fr τ = some (v, τ) := by
  unfold again at h
  simp only [opW_eq] at h
  rw [hwt, hv] at h
  simp only [Bool.not_true, Bool.false_or] at h
  cases hτ : opV E ev frz o.op fr τ with
  | none => rw [hτ] at h; cases h
  | some q =>
    obtain ⟨u, τ1⟩ := q
    rw [hτ] at h
    dsimp only at h
    rw [← veq_eq 12 h, opV_quiet hw hτ]

theorem Inv.step (h : Dr E ev frz ops T pre) {L : Array Bool} {fr : Fr} {σ : Sg} (hi : Inv E frz ops T pre L fr σ) {i : Nat} {o : Oper} (ho : ops[i]? = some o) (hL : L[i]? = some false)
    (hready : ∀ e ∈ o.after.toList, Region.binds .any e = true → L[e.on]? = some true) : ∃ fr' σ', stepO E ev frz ops o fr σ = some (fr', σ') ∧ Inv E frz ops T pre (L.setIfInBounds i true) fr' σ' := by
  have hin := op_lt ho
  have hpre : ∀ k, pre i k = true → L[k]? = some true := fun k hk => by
    obtain ⟨e, h1, h2, h3⟩ := h.edge i o ho k hk
    rcases h3 with rfl | h3
    · exact hready e h1 h2
    · exact hi.down e.on k (hready e h1 h2) h3
  have hno : ∀ k, L[k]? = some true → pre k i = true → False := fun k h1 h2 => by
    have := hi.down k i h1 h2
    rw [hL] at this; cases this
  have hne : ∀ k, L[k]? = some true → k ≠ i := fun k h1 e => by subst e; rw [hL] at h1; cases h1
  have hnames : Same fr (T i).1 (namesOf ops o) := fun t ht => by
    refine hi.fr t i (by omega) fun k ok hok hd => ⟨fun hk => ?_, fun hk => ?_⟩
    · rcases h.pair k i ok o hk hok ho with hp | ⟨hp, _⟩
      · exact hpre k hp
      · exact (pairOk_xn hp hd ht).elim
    · rcases Nat.lt_trichotomy k i with hki | hki | hki
      · exact hki
      · exact (hne k hk hki).elim
      · rcases h.pair i k o ok hki ho hok with hp | ⟨hp, _⟩
        · exact (hno k hk hp).elim
        · exact (pairOk_yn hp hd ht).elim
  have hops : Same fr (T i).1 (tmpsOf o.op.operands.toList) := fun t ht => hnames t (by simp [namesOf, ht])
  have hstep := h.step i o ho
  -- the value
  have hval : ∃ v σ', stepO E ev frz ops o fr σ = some (putS fr o.dst v, σ') ∧ (T (i + 1)).1 = putS (T i).1 o.dst v ∧ ((effect E frz o.op).2 = true → σ' = (T (i + 1)).2) ∧ ((effect E frz o.op).2 = false → σ' = σ) := by
    have hσ : (effect E frz o.op).2 = true → σ = (T i).2 := fun hw => by
      refine hi.σ i (by omega) fun k ok hok hwk => ⟨fun hk => ?_, fun hk => ?_⟩
      · rcases h.pair k i ok o hk hok ho with hp | ⟨hp, _⟩
        · exact hpre k hp
        · exact (pairOk_ww hp hwk hw).elim
      · rcases Nat.lt_trichotomy k i with hki | hki | hki
        · exact hki
        · exact (hne k hk hki).elim
        · rcases h.pair i k o ok hki ho hok with hp | ⟨hp, _⟩
          · exact (hno k hk hp).elim
          · exact (pairOk_ww hp hw hwk).elim
    unfold stepO at hstep ⊢
    simp only [opW_eq] at hstep ⊢
    rw [wants_congr hnames]
    by_cases hwt : wants ops o (T i).1 = true
    · rw [if_pos hwt] at hstep ⊢
      split at hstep
      case h_2 => cases hstep
      rename_i v σ1 hv
      injection hstep with hstep
      have e1 : (T (i + 1)).1 = putS (T i).1 o.dst v := by rw [← hstep]
      have e2 : (T (i + 1)).2 = σ1 := by rw [← hstep]
      rw [opV_congr hops]
      cases hw : (effect E frz o.op).2 with
      | true =>
        rw [hσ hw, hv]
        exact ⟨v, σ1, rfl, e1, fun _ => e2.symm, fun x => by cases x⟩
      | false =>
        have main : opV E ev frz o.op (T i).1 σ = some (v, σ) := by
          cases hr : (effect E frz o.op).1 with
          | false => exact opV_still hr hw hv σ
          | true =>
            obtain ⟨j, hj, hc⟩ := hi.cut h ops.size (Nat.le_refl _)
            have hc' : ∀ k ok, ops[k]? = some ok → (effect E frz ok.op).2 = true → (k < j ↔ L[k]? = some true) := fun k ok hok => hc k ok (op_lt hok) hok
            have hσj := hi.σ j hj hc'
            rw [hσj]
            rcases Nat.lt_trichotomy j i with hji | rfl | hji
            · -- the heap of an earlier place
              rcases first_or (fun k => ∃ ok, ops[k]? = some ok ∧ (effect E frz ok.op).2 = true) (j := j) i (by omega) with hn | ⟨a, a1, a2, ⟨oa, a3, a4⟩, a5⟩
              · have e := h.quietσ i (by omega) (by omega) (a := j) fun k ok k1 k2 hok => by
                  cases hx : (effect E frz ok.op).2 with
                  | false => rfl
                  | true => exact (hn k k1 k2 ⟨ok, hok, hx⟩).elim
                rw [e]
                have := opV_quiet hw hv
                rw [this] at hv
                exact hv
              · have e := h.quietσ a a1 (by omega) (a := j) fun k ok k1 k2 hok => by
                  cases hx : (effect E frz ok.op).2 with
                  | false => rfl
                  | true => exact (a5 k k1 k2 ⟨ok, hok, hx⟩).elim
                rw [e]
                rcases h.pair a i oa o a2 a3 ho with hp | ⟨_, hp, _⟩
                · have := (hc' a oa a3 a4).2 (hpre a hp)
                  omega
                · exact again_eq hw (hp a4 hr) hwt hv
            · have := opV_quiet hw hv
              rw [this] at hv
              exact hv
            · rcases last_or (fun k => ∃ ok, ops[k]? = some ok ∧ (effect E frz ok.op).2 = true) (j := i) j (by omega) with hn | ⟨b, b1, b2, ⟨ob, b3, b4⟩, b5⟩
              · have e := h.quietσ j (by omega) hj (a := i) fun k ok k1 k2 hok => by
                  cases hx : (effect E frz ok.op).2 with
                  | false => rfl
                  | true => exact (hn k k1 k2 ⟨ok, hok, hx⟩).elim
                rw [← e]
                have := opV_quiet hw hv
                rw [this] at hv
                exact hv
              · have hbi : i < b := by
                  rcases Nat.lt_or_ge i b with g | g
                  · exact g
                  · have : b = i := by omega
                    subst this
                    rw [ho] at b3; injection b3 with b3; subst b3
                    rw [hw] at b4; cases b4
                have e := h.quietσ j (by omega) hj (a := b + 1) fun k ok k1 k2 hok => by
                  cases hx : (effect E frz ok.op).2 with
                  | false => rfl
                  | true => exact (b5 k (by omega) k2 ⟨ok, hok, hx⟩).elim
                rw [← e]
                rcases h.pair i b o ob hbi ho b3 with hp | ⟨_, _, hp⟩
                · exact (hno b ((hc' b ob b3 b4).1 b2) hp).elim
                · exact again_eq hw (hp hr b4) hwt hv
        rw [main]
        exact ⟨v, σ, rfl, e1, fun x => (by cases x), fun _ => rfl⟩
    · rw [if_neg hwt] at hstep ⊢
      injection hstep with hstep
      have e1 : (T (i + 1)).1 = putS (T i).1 o.dst .undef := by rw [← hstep]
      have e2 : (T (i + 1)).2 = (T i).2 := by rw [← hstep]
      exact ⟨.undef, σ, rfl, e1, fun hw => by rw [e2]; exact hσ hw, fun _ => rfl⟩
  obtain ⟨v, σ', hs, hT, hσ1, hσ2⟩ := hval
  have hset : ∀ k, (L.setIfInBounds i true)[k]? = if k = i then some true else L[k]? := fun k => by
    rw [Array.getElem?_setIfInBounds]
    by_cases e : i = k
    · subst e
      have : i < L.size := by rw [hi.size]; exact hin
      simp [this]
    · simp [e, Ne.symm e]
  refine ⟨_, _, hs, ⟨by simp [hi.size], ?_, by rw [putS_len]; exact hi.len, ?_, ?_⟩⟩
  · intro a k ha hk
    rw [hset] at ha ⊢
    split at ha
    · rename_i e
      subst e
      split
      · rfl
      · exact hpre k hk
    · split
      · rfl
      · exact hi.down a k ha hk
  · intro t j hj hc
    by_cases hd : o.dst = some t
    · have hij : i < j := (hc i o ho hd).2 (by rw [hset]; simp)
      rw [← h.quietFr j (a := i + 1) (by omega) hj fun k ok k1 k2 hok hdk => ?_]
      · rw [hT, hd]
        have hl : fr.n = (T i).1.n := by rw [hi.len, h.len i (by omega)]
        simp only [putS]
        rw [Fr.get_put, Fr.get_put, hl]
        by_cases e : t = t ∧ t < (T i).1.n
        · rw [if_pos e, if_pos e]
        · rw [if_neg e, if_neg e]
          have : ¬ t < (T i).1.n := fun x => e ⟨rfl, x⟩
          have n1 : ∀ f : Fr, ¬ t < f.n → f.get t = none := fun f hf => by
            cases hg : f.get t with
            | none => rfl
            | some u => exact (hf (Fr.get_some hg)).elim
          rw [n1 _ (by rw [hl]; exact this), n1 _ this]
      · have hLk := (hc k ok hok hdk).1 k2
        rw [hset, if_neg (by omega)] at hLk
        rcases h.pair i k o ok (by omega) ho hok with hp | ⟨hp, _⟩
        · exact hno k hLk hp
        · exact pairOk_xd hp hd hdk
    · rw [putS_other hd]
      refine hi.fr t j hj fun k ok hok hdk => ?_
      have hki : k ≠ i := fun e => by
        subst e
        rw [ho] at hok; injection hok with hok; subst hok
        exact hd hdk
      rw [hc k ok hok hdk, hset, if_neg hki]
  · intro j hj hc
    cases hw : (effect E frz o.op).2 with
    | true =>
      rw [hσ1 hw]
      have hij : i < j := (hc i o ho hw).2 (by rw [hset]; simp)
      refine h.quietσ j (a := i + 1) (by omega) hj fun k ok k1 k2 hok => ?_
      cases hwk : (effect E frz ok.op).2 with
      | false => rfl
      | true =>
        have hLk := (hc k ok hok hwk).1 k2
        rw [hset, if_neg (by omega)] at hLk
        rcases h.pair i k o ok (by omega) ho hok with hp | ⟨hp, _⟩
        · exact (hno k hLk hp).elim
        · exact (pairOk_ww hp hw hwk).elim
    | false =>
      rw [hσ2 hw]
      refine hi.σ j hj fun k ok hok hwk => ?_
      have hki : k ≠ i := fun e => by
        subst e
        rw [ho] at hok; injection hok with hok; subst hok
        rw [hw] at hwk; cases hwk
      rw [hc k ok hok hwk, hset, if_neg hki]
end
end Go.Ax
end
section
namespace Go.Ax
open Go
set_option linter.unusedVariables false
set_option linter.unusedSimpArgs false

theorem count_set : ∀ (l : List Bool) (i : Nat), l[i]? = some false → (l.set i true).count false + 1 = l.count false
  | [], i, h => by simp at h
  | b :: l, 0, h => by
    simp at h; subst h
    simp
  | b :: l, i + 1, h => by
    have := count_set l i (by simpa using h)
    simp only [List.set_cons_succ, List.count_cons]
    omega

section
variable {E : Env} {ev : Run} {frz : Bool} {ops : Array Oper} {T : Nat → Fr × Sg} {pre : Nat → Nat → Bool}

theorem Inv.done (h : Dr E ev frz ops T pre) {L : Array Bool} {fr : Fr} {σ : Sg} (hi : Inv E frz ops T pre L fr σ) (hl : ∀ k, k < ops.size → L[k]? = some true) : σ = (T ops.size).2 ∧ fr.n = (T ops.size).1.n ∧ ∀ t, fr.get t = (T ops.size).1.get t := by
  have hx : ∀ k o, ops[k]? = some o → (k < ops.size ↔ L[k]? = some true) := fun k o ho => ⟨fun hk => hl k hk, fun _ => op_lt ho⟩
  exact ⟨hi.σ ops.size (Nat.le_refl _) fun k o ho _ => hx k o ho, by rw [hi.len, h.len _ (Nat.le_refl _)], fun t => hi.fr t ops.size (Nat.le_refl _) fun k o ho _ => hx k o ho⟩

theorem go_run (h : Dr E ev frz ops T pre) : ∀ (fuel t : Nat) (L : Array Bool) (acc : List Nat) (fr : Fr) (σ : Sg), Inv E frz ops T pre L fr σ → L.toList.count false ≤ fuel →
    ∃ l, Region.linearise.go .any ops fuel t L acc = acc.reverse ++ l ∧ ∃ r : Fr × Sg, evL E ev frz ops l fr σ = some r ∧ r.2 = (T ops.size).2 ∧ r.1.n = (T ops.size).1.n ∧ ∀ t, r.1.get t = (T ops.size).1.get t
  | 0, t, L, acc, fr, σ, hi, hc => by
    refine ⟨[], by simp [Region.linearise.go], ?_⟩
    have : ∀ k, k < ops.size → L[k]? = some true := fun k hk => by
      have hk' : k < L.size := by rw [hi.size]; exact hk
      have h0 : false ∉ L.toList := List.count_eq_zero.1 (by omega)
      rw [Array.getElem?_eq_getElem hk']
      cases hx : L[k] with
      | true => rfl
      | false => exact (h0 (by rw [← hx]; simp)).elim
    exact ⟨(fr, σ), by simp only [evL], hi.done h this⟩
  | fuel + 1, t, L, acc, fr, σ, hi, hc => by
    simp only [Region.linearise.go]
    generalize hrs : (List.range ops.size).filter (fun i =>
        !L.getD i true && ((ops[i]?).map (fun (x : Oper) => x.after.all fun e => !Region.binds .any e || L.getD e.on false)).getD false) = rs
    have mem : ∀ i, i ∈ rs ↔ i < ops.size ∧ L[i]? = some false ∧ ∃ o, ops[i]? = some o ∧ ∀ e ∈ o.after.toList, Region.binds .any e = true → L[e.on]? = some true := by
      intro i
      rw [← hrs]
      simp only [List.mem_filter, List.mem_range, Bool.and_eq_true]
      refine and_congr Iff.rfl (and_congr ?_ ?_)
      · rw [Array.getD_eq_getD_getElem?]
        cases hx : L[i]? with
        | none => simp
        | some b => cases b <;> simp
      · cases ho : ops[i]? with
        | none => simp
        | some o =>
          simp only [Option.map_some, Option.getD_some, Option.some.injEq, exists_eq_left']
          rw [← Array.all_toList]
          simp only [List.all_eq_true, Bool.or_eq_true, Bool.not_eq_true']
          refine forall_congr' fun e => forall_congr' fun he => ?_
          rw [Array.getD_eq_getD_getElem?]
          cases hb : Region.binds .any e with
          | false => simp
          | true =>
            cases hx : L[e.on]? with
            | none => simp
            | some b => cases b <;> simp
    cases hget : rs[t % rs.length]? with
    | none =>
      dsimp only
      refine ⟨[], by simp, ?_⟩
      have hemp : rs = [] := by
        cases rs with
        | nil => rfl
        | cons a r =>
          have := List.getElem?_eq_none_iff.1 hget
          have := Nat.mod_lt t (show 0 < (a :: r).length by simp)
          omega
      have : ∀ k, k < ops.size → L[k]? = some true := fun k hk => by
        rcases first_or (fun k => L[k]? ≠ some true) 0 ops.size (by omega) with hn | ⟨a, _, a2, a3, a4⟩
        · have := hn k (by omega) hk
          exact Decidable.not_not.1 this
        · obtain ⟨o, ho⟩ := op_some a2 (Nat.le_refl ops.size)
          have hal : a < L.size := by rw [hi.size]; exact a2
          have ha : a ∈ rs := (mem a).2 ⟨a2, by
            rw [Array.getElem?_eq_getElem hal] at a3 ⊢
            cases hx : L[a] with
            | true => rw [hx] at a3; exact (a3 rfl).elim
            | false => rfl, o, ho, fun e he hb => by
            have := h.lt a o ho e he hb
            exact Decidable.not_not.1 (a4 e.on (by omega) this)⟩
          rw [hemp] at ha; cases ha
      exact ⟨(fr, σ), by simp only [evL], hi.done h this⟩
    | some i =>
      dsimp only
      obtain ⟨m1, m2, o, ho, m3⟩ := (mem i).1 (List.mem_of_getElem? hget)
      obtain ⟨fr', σ', hs, hi'⟩ := hi.step h ho m2 m3
      have hcnt : (L.setIfInBounds i true).toList.count false ≤ fuel := by
        have := count_set L.toList i (by simpa using m2)
        rw [Array.toList_setIfInBounds]
        omega
      obtain ⟨l, h1, h2⟩ := go_run h fuel (t / rs.length) _ (i :: acc) fr' σ' hi' hcnt
      refine ⟨i :: l, by rw [h1]; simp, ?_⟩
      simp only [evL, ho, hs]
      exact h2

theorem run_any (h : Dr E ev frz ops T pre) (t : Nat) : ∃ r : Fr × Sg, evL E ev frz ops (Region.linearise .any ops t) (T 0).1 (T 0).2 = some r ∧ r.2 = (T ops.size).2 ∧ r.1.n = (T ops.size).1.n ∧ ∀ t, r.1.get t = (T ops.size).1.get t := by
  have hrep : ∀ k, (Array.replicate ops.size false)[k]? ≠ some true := fun k hk => by
    rw [Array.getElem?_replicate] at hk
    split at hk <;> simp at hk
  have hi : Inv E frz ops T pre (Array.replicate ops.size false) (T 0).1 (T 0).2 := by
    refine ⟨by simp, fun i k hk => (hrep i hk).elim, rfl, fun t j hj hc => ?_, fun j hj hc => ?_⟩
    · exact h.quietFr j (a := 0) (by omega) hj fun k o _ k2 ho hd => hrep k ((hc k o ho hd).1 k2)
    · refine h.quietσ j (a := 0) (by omega) hj fun k o _ k2 ho => ?_
      cases hw : (effect E frz o.op).2 with
      | false => rfl
      | true => exact (hrep k ((hc k o ho hw).1 k2)).elim
  obtain ⟨l, h1, h2⟩ := go_run h ops.size t _ [] _ _ hi (by simp [List.count_replicate])
  unfold Region.linearise
  rw [h1]
  simpa using h2

/-! ### the checks -/
theorem trail_spec : ∀ (rest : List Oper) (fr : Fr) (σ : Sg) (ts : List (Fr × Sg)), trail E ev frz ops rest fr σ = some ts →
    ts.length = rest.length + 1 ∧ ts[0]? = some (fr, σ) ∧ last ts = ts[rest.length]? ∧ ∀ i o, rest[i]? = some o → ∃ p q, ts[i]? = some p ∧ ts[i + 1]? = some q ∧ stepO E ev frz ops o p.1 p.2 = some q
  | [], fr, σ, ts, h => by
    simp only [trail] at h
    injection h with h; subst h
    exact ⟨rfl, rfl, rfl, fun i o h => by simp at h⟩
  | o :: rest, fr, σ, ts, h => by
    simp only [trail] at h
    split at h
    case h_2 => cases h
    rename_i fr' σ' hs
    split at h
    case h_2 => cases h
    rename_i l hl
    injection h with h; subst h
    obtain ⟨h1, h2, h3, h4⟩ := trail_spec rest fr' σ' l hl
    refine ⟨by simp [h1], rfl, ?_, fun i o' ho => ?_⟩
    · cases l with
      | nil => simp at h1
      | cons b l => simpa [last] using h3
    · cases i with
      | zero =>
        simp at ho; subst ho
        exact ⟨(fr, σ), (fr', σ'), rfl, by simpa using h2, hs⟩
      | succ i =>
        obtain ⟨p, q, k1, k2, k3⟩ := h4 i o' (by simpa using ho)
        exact ⟨p, q, by simpa using k1, by simpa using k2, k3⟩

theorem evOps_trail : ∀ (rest : List Oper) (fr : Fr) (σ : Sg) (r : Fr × Sg), evOps E ev frz ops rest fr σ = some r → ∃ ts, trail E ev frz ops rest fr σ = some ts ∧ last ts = some r
  | [], fr, σ, r, h => by
    simp only [evOps] at h
    injection h with h; subst h
    exact ⟨_, rfl, rfl⟩
  | o :: rest, fr, σ, r, h => by
    simp only [evOps] at h
    split at h
    case h_2 => cases h
    rename_i fr' σ' hs
    obtain ⟨ts, h1, h2⟩ := evOps_trail rest fr' σ' r h
    refine ⟨_, by simp only [trail, hs, h1]; rfl, ?_⟩
    cases ts with
    | nil => cases h2
    | cons b l => simpa [last] using h2
theorem sRows_spec : ∀ (rest : List Oper) (i : Nat) (pre : List Nat), pre.length = rest.length → ∀ j o, rest[j]? = some o →
    ∃ p, pre[j]? = some p ∧ (sRows E frz i rest pre)[j]? = some ({ i := i + j, o, pre := p, rd := (effect E frz o.op).1, wr := (effect E frz o.op).2 } : SRow)
  | [], _, _, _, j, o, h => by simp at h
  | o :: rest, i, [], h1, j, o', h => by simp at h1
  | o :: rest, i, p :: pre, h1, j, o', h => by
    cases j with
    | zero =>
      simp at h; subst h
      exact ⟨p, rfl, rfl⟩
    | succ j =>
      obtain ⟨p', k1, k4⟩ := sRows_spec rest (i + 1) pre (by simpa using h1) j o' (by simpa using h)
      refine ⟨p', by simpa using k1, ?_⟩
      simp only [sRows, List.getElem?_cons_succ]
      rw [k4]
      congr 2
      omega
def Planned (E : Env) (frz : Bool) (ops : Array Oper) (l : List Need) (x y : SRow) : Prop :=
  y.pre.testBit x.i = true ∨ (pairOk E frz ops x.o y.o = true ∧ (((x.wr && y.rd) = false ∧ (x.rd && y.wr) = false) ∨ ({ i := x.i, j := y.i, a := x.wr && y.rd, b := x.rd && y.wr } : Need) ∈ l))
theorem Planned.mono {l l' : List Need} {x y : SRow} (h : Planned E frz ops l x y) (hl : ∀ d ∈ l, d ∈ l') : Planned E frz ops l' x y := by
  rcases h with h | ⟨h1, h2 | h2⟩
  · exact .inl h
  · exact .inr ⟨h1, .inl h2⟩
  · exact .inr ⟨h1, .inr (hl _ h2)⟩
theorem planRow_spec {x : SRow} : ∀ (rows : List SRow) (l : List Need), planRow E frz ops x rows = some l → ∀ y ∈ rows, Planned E frz ops l x y
  | [], _, _, y, hy => by cases hy
  | z :: rows, l, h, y, hy => by
    simp only [planRow] at h
    split at h
    · rename_i hb
      rcases List.mem_cons.1 hy with rfl | hy
      · exact .inl hb
      · exact planRow_spec rows l h y hy
    · split at h
      case h_2 => cases h
      rename_i l' hp hl
      have ih := planRow_spec rows l' hl
      split at h
      · rename_i e1 e2
        injection h with h; subst h
        rcases List.mem_cons.1 hy with rfl | hy
        · exact .inr ⟨hp, .inl ⟨e1, e2⟩⟩
        · exact ih y hy
      · injection h with h; subst h
        rcases List.mem_cons.1 hy with rfl | hy
        · exact .inr ⟨hp, .inr (List.mem_cons_self ..)⟩
        · exact (ih y hy).mono fun d hd => List.mem_cons_of_mem _ hd
theorem planAll_spec : ∀ (rows : List SRow) (l : List Need), planAll E frz ops rows = some l → ∀ (i j : Nat) (x y : SRow), i < j → rows[i]? = some x → rows[j]? = some y → Planned E frz ops l x y
  | [], _, _, i, j, x, y, _, h, _ => by simp at h
  | r :: rows, l, h, i, j, x, y, hij, hx, hy => by
    simp only [planAll] at h
    split at h
    case h_2 => cases h
    rename_i a b ha hb
    injection h with h; subst h
    cases j with
    | zero => omega
    | succ j =>
      have hy' : rows[j]? = some y := by simpa using hy
      cases i with
      | zero =>
        simp at hx; subst hx
        exact (planRow_spec rows a ha y (List.mem_of_getElem? hy')).mono fun d hd => List.mem_append_left _ hd
      | succ i => exact (planAll_spec rows b hb i j x y (by omega) (by simpa using hx) hy').mono fun d hd => List.mem_append_right _ hd

theorem edgesOk_spec : ∀ (rest : List Oper) (i : Nat), edgesOk i rest = true → ∀ j o, rest[j]? = some o → ∀ e ∈ o.after.toList, Region.binds .any e = true → e.on < i + j
  | [], _, _, j, o, h => by simp at h
  | r :: rest, i, h, j, o, ho => by
    simp only [edgesOk, Bool.and_eq_true, List.all_eq_true] at h
    cases j with
    | zero =>
      simp at ho; subst ho
      intro e he hb
      have := h.1 e he
      simpa [hb] using this
    | succ j =>
      intro e he hb
      have := edgesOk_spec rest (i + 1) h.2 j o (by simpa using ho) e he hb
      omega

theorem preOf_spec {pl : List Nat} {o : Oper} {k : Nat} (h : (preOf pl o).testBit k = true) : ∃ e ∈ o.after.toList, Region.binds .any e = true ∧ (k = e.on ∨ (pl.getD e.on 0).testBit k = true) := by
  have key : ∀ (l : List Edge) (b : Nat), (l.foldl (fun b (e : Edge) => if Region.binds .any e then b ||| (1 <<< e.on) ||| pl.getD e.on 0 else b) b).testBit k = true →
      b.testBit k = true ∨ ∃ e ∈ l, Region.binds .any e = true ∧ (k = e.on ∨ (pl.getD e.on 0).testBit k = true) := by
    intro l
    induction l with
    | nil => intro b hb; exact .inl hb
    | cons e l ih =>
      intro b hb
      simp only [List.foldl_cons] at hb
      rcases ih _ hb with h1 | ⟨e', h1, h2⟩
      · by_cases hbe : Region.binds .any e = true
        · rw [if_pos hbe] at h1
          simp only [Nat.testBit_or, Bool.or_eq_true] at h1
          rcases h1 with (h1 | h1) | h1
          · exact .inl h1
          · refine .inr ⟨e, by simp, hbe, .inl ?_⟩
            rw [Nat.one_shiftLeft, Nat.testBit_two_pow] at h1
            exact (of_decide_eq_true h1).symm
          · exact .inr ⟨e, by simp, hbe, .inr h1⟩
        · rw [if_neg hbe] at h1
          exact .inl h1
      · exact .inr ⟨e', by simp [h1], h2⟩
  rcases key _ 0 h with h | h
  · simp at h
  · exact h

theorem pres_spec : ∀ (rest : List Oper) (pl : List Nat), (∃ s, pres rest pl = pl ++ s ∧ s.length = rest.length) ∧ ∀ j o, rest[j]? = some o → (pres rest pl)[pl.length + j]? = some (preOf ((pres rest pl).take (pl.length + j)) o)
  | [], pl => ⟨⟨[], by simp [pres], rfl⟩, fun j o h => by simp at h⟩
  | o :: rest, pl => by
    obtain ⟨⟨s, h1, h2⟩, h3⟩ := pres_spec rest (pl ++ [preOf pl o])
    refine ⟨⟨preOf pl o :: s, by simp [pres, h1], by simp [h2]⟩, fun j o' ho => ?_⟩
    cases j with
    | zero =>
      simp at ho; subst ho
      simp only [pres, h1]
      simp
    | succ j =>
      have := h3 j o' (by simpa using ho)
      simp only [pres]
      rw [List.length_append, List.length_singleton, Nat.add_assoc, Nat.add_comm 1 j] at this
      exact this

theorem evDraw_dr {fr : Fr} {σ : Sg} {r : Fr × Sg} (h : evDraw E ev ops fr σ = some r) (t : Nat) : ∃ q : Fr × Sg, evL E ev (frzOf E ops) ops (Region.linearise .any ops t) fr σ = some q ∧ q.2 = r.2 ∧ q.1.n = r.1.n ∧ ∀ t, q.1.get t = r.1.get t := by
  unfold evDraw at h
  generalize frzOf E ops = frz at h ⊢
  obtain ⟨l, ts, hpl, hts, hc, hr⟩ : ∃ l ts, drawPlan E frz ops = some l ∧ trail E ev frz ops ops.toList fr σ = some ts ∧ l.all (needOk E ev frz ops ts) = true ∧ last ts = some r := by
    split at h
    · cases h
    · rename_i hp
      obtain ⟨ts, h1, h2⟩ := evOps_trail _ _ _ _ h
      exact ⟨[], ts, hp, h1, rfl, h2⟩
    · rename_i l _ hp
      split at h
      · cases h
      · rename_i ts hts
        split at h
        case isFalse => cases h
        rename_i hc
        exact ⟨l, ts, hp, hts, hc, h⟩
  clear h
  obtain ⟨hedge, hplan⟩ : edgesOk 0 ops.toList = true ∧ planAll E frz ops (sRows E frz 0 ops.toList (pres ops.toList [])) = some l := by
    unfold drawPlan at hpl
    split at hpl
    · rename_i he; exact ⟨he, hpl⟩
    · cases hpl
  rw [List.all_eq_true] at hc
  obtain ⟨t1, t2, t3, t4⟩ := trail_spec _ _ _ _ hts
  obtain ⟨⟨s, p1, p2⟩, p3⟩ := pres_spec ops.toList []
  have hpl : (pres ops.toList []).length = ops.toList.length := by rw [p1]; simpa using p2
  have hd : Dr E ev frz ops (fun i => (ts[i]?).getD (⟨0, .leaf⟩, [])) (fun i k => ((pres ops.toList []).getD i 0).testBit k) := by
    refine ⟨fun i o ho => ?_, fun i o ho k hk => ?_, fun i o ho e he hb => ?_, fun i j x y hij hx hy => ?_⟩
    · obtain ⟨p, q, k1, k2, k3⟩ := t4 i o (by simpa using ho)
      simp only [k1, k2, Option.getD_some]
      exact k3
    · have h0 := p3 i o (by simpa using ho)
      simp only [List.length_nil, Nat.zero_add] at h0
      simp only [List.getD_eq_getElem?_getD, h0, Option.getD_some] at hk
      obtain ⟨e, h1, h2, h3⟩ := preOf_spec hk
      refine ⟨e, h1, h2, ?_⟩
      rcases h3 with h3 | h3
      · exact .inl h3
      · refine .inr ?_
        have hlt := edgesOk_spec _ 0 hedge i o (by simpa using ho) e h1 h2
        simp only [List.getD_eq_getElem?_getD] at h3 ⊢
        rw [List.getElem?_take, if_pos (by omega)] at h3
        exact h3
    · have := edgesOk_spec _ 0 hedge i o (by simpa using ho) e he hb
      omega
    · obtain ⟨pa, k1, k4⟩ := sRows_spec (E := E) (frz := frz) ops.toList 0 (pres ops.toList []) hpl i x (by simpa using hx)
      obtain ⟨pb, l1, l4⟩ := sRows_spec (E := E) (frz := frz) ops.toList 0 (pres ops.toList []) hpl j y (by simpa using hy)
      have hP := planAll_spec _ _ hplan i j _ _ hij k4 l4
      obtain ⟨a, a', a1, a2, _⟩ := t4 i x (by simpa using hx)
      obtain ⟨b, b', b1, b2, _⟩ := t4 j y (by simpa using hy)
      simp only [Planned, Nat.zero_add] at hP
      rcases hP with h | ⟨h1, h2⟩
      · refine .inl ?_
        simp only [List.getD_eq_getElem?_getD, l1, Option.getD_some]
        exact h
      · refine .inr ⟨h1, ?_⟩
        rcases h2 with ⟨h2, h3⟩ | h2
        · refine ⟨fun e1 e2 => ?_, fun e1 e2 => ?_⟩
          · rw [e1, e2] at h2; cases h2
          · rw [e1, e2] at h3; cases h3
        · have hn := hc _ h2
          simp only [needOk, hx, hy, a1, b1, b2, Bool.and_eq_true, Bool.or_eq_true, Bool.not_eq_true'] at hn
          refine ⟨fun e1 e2 => ?_, fun e1 e2 => ?_⟩
          · rcases hn.1 with h | h
            · rw [e1, e2] at h; cases h
            · simpa [a1, b1] using h
          · rcases hn.2 with h | h
            · rw [e1, e2] at h; cases h
            · simpa [a1, b2] using h
  have := run_any hd t
  simp only [t2, Option.getD_some] at this
  rw [t3] at hr
  simp only [Array.length_toList] at hr
  rw [hr] at this
  exact this
end

/-! ### code -/
section
variable {P : Program} {E : Env}
theorem Post.trans {c c' : Cx} {r : X} {fr : Fr} {σ : Sg} {e : Exit} {a : Act} {w : World} (h : Ext c c') (hp : Post E c' r fr σ e a w) : Post E c r fr σ e a w := by
  obtain ⟨h1, h2, d, h3, h4, h5, h6⟩ := hp
  exact ⟨h1, h2, d, h3, h4, h.trans h5, h6⟩
theorem post_then {c : Cx} {r : X} {fr : Fr} {σ : Sg} {e : Exit} {a : Act} {w : World} {K : Act → World → Prop} (hn : ∀ fr' σ', (r, fr, σ) ≠ (X.normal, fr', σ')) (hp : Post E c r fr σ e a w) : Exit.then K (Post E c r fr σ) e a w := by
  obtain ⟨h1, h2⟩ := hp
  cases r with
  | normal => exact (hn fr σ rfl).elim
  | exit id => cases h1; exact ⟨rfl, h2⟩
  | ret => cases h1; exact ⟨rfl, h2⟩

theorem ev_sound (he : EnvOk P E) (hfs : FnsOk P E) (hmix : P.follows .mixedOrders = true) : ∀ n, RunOk P E (ev E n) ∧
    ∀ (c1 : Code) (fr : Fr) (σ : Sg) (r : X) (fr' : Fr) (σ' : Sg), ev E n (.loop c1) fr σ = some (r, fr', σ') → ∀ (c : Cx) (a : Act), SR E c → c.σ = σ → FR c fr a.tmps → a.defers = [] →
      ∀ c0, Ext c0 c → Code.rounds P c1 (Post E c0 r fr' σ') n a c.w
  | 0 => by
    constructor
    · intro code fr σ r fr' σ' h
      simp only [ev] at h; cases h
    · intro c1 fr σ r fr' σ' h
      simp only [ev] at h; cases h
  | n + 1 => by
    obtain ⟨ih, ihl⟩ := ev_sound he hfs hmix n
    have loops : ∀ (c1 : Code) (fr : Fr) (σ : Sg) (r : X) (fr' : Fr) (σ' : Sg), ev E (n + 1) (.loop c1) fr σ = some (r, fr', σ') → ∀ (c : Cx) (a : Act), SR E c → c.σ = σ → FR c fr a.tmps → a.defers = [] →
        ∀ c0, Ext c0 c → Code.rounds P c1 (Post E c0 r fr' σ') (n + 1) a c.w := by
      intro c1 fr σ r fr' σ' h c a hs hσ hf hd c0 hx
      rw [rounds_succ]
      simp only [ev] at h
      split at h
      · rename_i fr1 σ1 h1
        refine wp_mono (ih _ _ _ _ _ _ h1 c a hs hσ hf hd) ?_
        rintro e a1 w1 ⟨h0, hd1, c', rfl, hσ1, k1, k2, k3⟩
        cases h0
        exact ihl c1 fr1 σ1 r fr' σ' h c' a1 k2 hσ1 k3 hd1 c0 (hx.trans k1)
      · rename_i hn
        refine wp_mono (ih _ _ _ _ _ _ h c a hs hσ hf hd) ?_
        intro e a1 w1 hp
        refine post_then (fun fr2 σ2 e => ?_) (hp.trans hx)
        rw [e] at h
        exact hn _ _ h
    refine ⟨fun code fr σ r fr' σ' h c a hs hσ hf hd => ?_, loops⟩
    subst hσ
    cases code with
    | skip =>
      simp only [ev] at h
      injection h with h; injection h with e1 h; injection h with e2 e3; subst e1 e2 e3
      exact wp_skip ⟨rfl, hd, c, rfl, rfl, Ext.refl c, hs, hf⟩
    | exit id =>
      simp only [ev] at h
      injection h with h; injection h with e1 h; injection h with e2 e3; subst e1 e2 e3
      exact wp_exit ⟨rfl, hd, c, rfl, rfl, Ext.refl c, hs, hf⟩
    | ret =>
      simp only [ev] at h
      injection h with h; injection h with e1 h; injection h with e2 e3; subst e1 e2 e3
      exact wp_ret ⟨rfl, hd, c, rfl, rfl, Ext.refl c, hs, hf⟩
    | seq x y =>
      simp only [ev] at h
      refine wp_seq ?_
      split at h
      · rename_i fr1 σ1 h1
        refine wp_mono (ih _ _ _ _ _ _ h1 c a hs rfl hf hd) ?_
        rintro e a1 w1 ⟨h0, hd1, c', rfl, hσ1, k1, k2, k3⟩
        cases h0
        exact wp_mono (ih _ _ _ _ _ _ h c' a1 k2 hσ1 k3 hd1) fun e a w hp => hp.trans k1
      · rename_i hn
        refine wp_mono (ih _ _ _ _ _ _ h c a hs rfl hf hd) ?_
        intro e a1 w1 hp
        refine post_then (fun fr2 σ2 e => ?_) hp
        rw [e] at h
        exact hn _ _ h
    | cond x y z =>
      simp only [ev] at h
      split at h
      · rename_i hx
        exact wp_cond_true (evalO_sound hf hx).bool_inv (ih _ _ _ _ _ _ h c a hs rfl hf hd)
      · rename_i hx
        exact wp_cond_false (evalO_sound hf hx).bool_inv (ih _ _ _ _ _ _ h c a hs rfl hf hd)
      · cases h
    | block id x =>
      simp only [ev] at h
      refine wp_block ?_
      split at h
      · rename_i id' fr1 σ1 h1
        refine wp_mono (ih _ _ _ _ _ _ h1 c a hs rfl hf hd) ?_
        rintro e a1 w1 ⟨h0, hp⟩
        cases h0
        simp only [Exit.inBlock]
        split at h
        · rename_i heq
          injection h with h; injection h with e1 h; injection h with e2 e3; subst e1 e2 e3
          rw [if_pos heq]
          exact ⟨rfl, hp⟩
        · rename_i heq
          injection h with h; injection h with e1 h; injection h with e2 e3; subst e1 e2 e3
          rw [if_neg heq]
          exact ⟨rfl, hp⟩
      · rename_i hn
        refine wp_mono (ih _ _ _ _ _ _ h c a hs rfl hf hd) ?_
        rintro e a1 w1 ⟨h0, hp⟩
        cases r with
        | normal => cases h0; exact ⟨rfl, hp⟩
        | ret => cases h0; exact ⟨rfl, hp⟩
        | exit id' => exact (hn _ _ _ h).elim
    | loop x => exact wp_loop_rounds (n + 1) (loops x fr c.σ r fr' σ' h c a hs rfl hf hd c (Ext.refl c))
    | region id ops draw =>
      simp only [ev] at h
      split at h
      case h_2 => cases h
      rename_i fr1 σ1 h1
      injection h with h; injection h with e1 h; injection h with e2 e3; subst e1 e2 e3
      cases draw with
      | false =>
        refine wp_region ?_
        rw [if_neg (by simp), evOps_evL ops.toList 0 fr c.σ (by simp)] at h1
        rw [List.range_eq_range', ← Array.length_toList]
        exact evL_sound he hfs ih _ hs hf hd h1 c (Ext.refl c)
      | true =>
        rw [if_pos rfl] at h1
        have each : ∀ t, ∃ frq : Fr, (frq.n = fr1.n ∧ ∀ u, frq.get u = fr1.get u) ∧ wpOps P ops (Post E c .normal frq σ1) (Region.schedule (P.follows .mixedOrders) ops t) a { c.w with drawn := c.w.drawn + 1 } := by
          intro t
          rw [hmix]
          simp only [Region.schedule, Bool.true_or, if_true]
          obtain ⟨⟨frq, σq⟩, q1, q2, q3, q4⟩ := evDraw_dr h1 t
          dsimp only at q2 q3 q4
          subst q2
          exact ⟨frq, ⟨q3, q4⟩, evL_sound (c := c.drew) he hfs ih _ (Cx.drew_sr hs) (FR.mono c.drew_ext hf) hd q1 c c.drew_ext⟩
        intro b k cs
        obtain ⟨frq, ⟨q3, q4⟩, hw⟩ := each (c.w.tape c.w.drawn (.order b.fn id))
        obtain ⟨e, a', w', ⟨e1, e2, d, e3, e4, e5, e6, e7⟩, r⟩ := wp_ops _ a _ hw b k cs
        exact ⟨e, a', w', ⟨e1, e2, d, e3, e4, e5, e6, by rw [← q3]; exact e7.1, fun t v hv => e7.2 t v (by rw [q4]; exact hv)⟩, .of_steps (.one step_region_draw) r⟩
    | _ => simp only [ev] at h; cases h

/-- THE LAW: what 'call' answers, the program answers. -/
theorem call_sound (he : EnvOk P E) (hfs : FnsOk P E) (hmix : P.follows .mixedOrders = true) {n f : Nat} {vs : List V} {v : V} (h : Ax.call E n f vs = some v) {d : Cx} (hd : d.σ = []) (hs : SR E d) {xs : List Value} (hv : VRs d vs xs) :
    Calls P f xs.toArray d.w fun e w' => ∃ (x : Value) (d' : Cx), e = .returned x ∧ d'.w = w' ∧ d'.σ = [] ∧ Ext d d' ∧ SR E d' ∧ VR d' v x := by
  unfold Ax.call at h
  split at h
  · cases h
  rename_i F hF
  split at h
  case h_2 => cases h
  rename_i u σ1 hent
  have hi := inner_sr hs []
  have hvi : VRs (d.inner (d.kills [])) vs xs := by
    refine VRs.mono ?_ hv
    have ho : ∀ k, ¬ d.own k := by
      rintro k ⟨b, ⟨o, ho, _⟩, _⟩
      rw [hd] at ho; cases ho
    have hanc : (d.inner (d.kills [])).anc = d.anc := by
      funext k
      exact propext ⟨fun h => h.resolve_right (ho k), fun h => .inl h⟩
    exact ⟨Nat.le_refl _, fun k _ _ => ⟨rfl, inner_own⟩, by rw [hd]; exact Nat.le_refl _, fun _ _ => rfl, fun _ _ => rfl, fun _ _ => rfl, hanc, rfl, rfl, rfl⟩
  have := enter_sound he hfs (ev_sound he hfs hmix n).1 hF hi hvi hent
  refine this.mono ?_
  rintro e w' ⟨x, rfl, d1, rfl, hσ, hx, hsd, hxv⟩
  rw [← hσ] at h
  obtain ⟨g1, g2, g3⟩ := return_ok hs hx hsd hxv h
  exact ⟨x, (d.kills []).outer d1.w, rfl, rfl, hd, g1, g2, g3⟩
end
end Go.Ax
end
section
namespace Go.Ax
open Go
set_option linter.unusedVariables false
set_option linter.unusedSimpArgs false

inductive BT (α : Type) where
  | nil
  | leaf (k : Nat) (a : α)
  | node (k : Nat) (l r : BT α)
def BT.get {α : Type} (n : Nat) : BT α → Option α
  | .nil => none
  | .leaf k a => match Nat.beq n k with
    | true => some a
    | false => none
  | .node k l r => match Nat.blt n k with
    | true => l.get n
    | false => r.get n
def BT.All {α : Type} (p : Nat → α → Prop) : BT α → Prop
  | .nil => True
  | .leaf k a => p k a
  | .node _ l r => l.All p ∧ r.All p
theorem BT.get_all {α : Type} {p : Nat → α → Prop} {n : Nat} {a : α} : ∀ {t : BT α}, t.All p → t.get n = some a → p n a
  | .nil, _, h => by cases h
  | .leaf k b, ht, h => by
    simp only [BT.get] at h
    split at h
    · rename_i hk
      injection h with h; subst h
      have := Nat.eq_of_beq_eq_true hk
      subst this
      exact ht
    · cases h
  | .node k l r, ht, h => by
    simp only [BT.get] at h
    split at h
    · exact BT.get_all ht.1 h
    · exact BT.get_all ht.2 h

def kdOf : TypeDesc → Option Kd
  | .bool => some .bool
  | .int k => some (.int k)
  | .string => some .str
  | .pointer e => some (.ptr e)
  | .slice e => some (.sl e)
  | .array n e => some (.arr n e)
  | .map k e => some (.map k e)
  | .struct a => some (.strct (a.toList.map fun f => (f.offset, f.type)))
  | .func .. => some .func
  | .interface _ => some .ifc
  | .unsafePointer => some .other
  | _ => none
theorem kdOf_ok {d : TypeDesc} {k : Kd} (h : kdOf d = some k) : KdR d k := by
  cases d <;> simp only [kdOf] at h <;> first
    | (cases h; done)
    | (injection h with h; subst h; simp only [KdR])
    | skip
  all_goals first
    | exact ⟨_, rfl, rfl⟩
    | exact ⟨_, _, _, rfl⟩
    | exact ⟨_, rfl⟩
def tyOf (inf : TypeInfo) (d : TypeDesc) : Option Ty :=
  match inf.zero with
  | none => none
  | some z => match ofValue z, kdOf d with
    | some v, some k => if v.cells.length = inf.size ∧ z.cells.size = inf.size then some { kd := k, size := inf.size, bytes := inf.bytes, zero := v } else none
    | _, _ => none

theorem ofValue1_ira {w : World} {I : Bool → Nat → Prop} {x : Value} {v : V} (h : ofValue1 x = some v) : IR w I v x := by
  unfold ofValue1 at h
  split at h <;> first
    | (cases h; done)
    | (injection h with h; subst h; first | exact .bool _ | exact .int _ _ | exact .str _ | exact .nilp | exact .nils | exact .nilm | exact .nilf | exact .nili)
theorem ofValues_ira {w : World} {I : Bool → Nat → Prop} : ∀ {xs : List Value} {vs : List V}, ofValues xs = some vs → IRs w I vs xs
  | [], vs, h => by simp only [ofValues] at h; injection h with h; subst h; exact .nil
  | x :: xs, vs, h => by
    simp only [ofValues] at h
    split at h
    · rename_i v l h1 h2
      injection h with h; subst h
      exact .cons _ _ _ _ (ofValue1_ira h1) (ofValues_ira h2)
    · cases h
theorem ofValue_ira {w : World} {I : Bool → Nat → Prop} {x : Value} {v : V} (h : ofValue x = some v) : IRa w I v x := by
  unfold ofValue at h
  split at h
  · rename_i cs
    split at h
    · rename_i l hl
      injection h with h; subst h
      have := IRa.agg (w := w) (I := I) _ _ (ofValues_ira hl)
      simpa using this
    · cases h
  · exact .one (ofValue1_ira h)

theorem info_of {P : Program} {t : Nat} {inf : TypeInfo} (h : P.types[t]? = some inf) : P.info? t = some inf := by
  have : t < P.types.size := (Array.getElem?_eq_some_iff.1 h).1
  unfold Tables.info?
  rw [if_pos this]
  exact h
theorem TyOk.of {P : Program} {t : Nat} {inf : TypeInfo} {d : TypeDesc} {i : Ty} (h1 : P.types[t]? = some inf) (h2 : P.underlying t = some d) (h : tyOf inf d = some i) : TyOk P t i := by
  unfold tyOf at h
  split at h
  · cases h
  rename_i z hz
  split at h
  case h_2 => cases h
  rename_i v k hv hk
  split at h
  case isFalse => cases h
  rename_i hc
  injection h with h; subst h
  exact ⟨⟨inf, info_of h1, rfl, rfl, z, hz, hc.2, fun w I => ofValue_ira hv⟩, ⟨d, h2, kdOf_ok hk⟩, hc.1⟩

def fnOf (F : Func) : Fn := { code := F.body.getD .skip, ntmps := F.ntmps, results := F.results.toList }
def FnOk (P : Program) (f : Nat) (F : Fn) : Prop := ∃ fn, P.funcs[f]? = some fn ∧ fn.body = some F.code ∧ fn.ntmps = F.ntmps ∧ fn.results.toList = F.results ∧ (fn.name == "runtime.NumGoroutine") = false
theorem FnOk.of {P : Program} {f : Nat} {fn : Func} (h1 : P.funcs[f]? = some fn) (h2 : fn.body.isSome = true) (h3 : (fn.name == "runtime.NumGoroutine") = false) : FnOk P f (fnOf fn) := by
  obtain ⟨c, hc⟩ := Option.isSome_iff_exists.1 h2
  exact ⟨fn, h1, by simp [fnOf, hc], rfl, rfl, h3⟩

def SpecOk (P : Program) (E : Env) (f : Nat) (s : List V → Option V) : Prop := ∀ (d : Cx) (vs : List V) (xs : List Value) (v : V), d.σ = [] → SR E d → VRs d vs xs → s vs = some v → Runs P f xs d.w (Back E d v [])
def HspecOk (P : Program) (E : Env) (f : Nat) (s : List V → Sg → Option (V × Sg)) : Prop := ∀ (c : Cx) (vs : List V) (xs : List Value) (v : V) (σ' : Sg), SR E c → VRs c vs xs → s vs c.σ = some (v, σ') → Runs P f xs c.w (Back E c v σ')
/-- an environment out of tables -/
def mkEnv (ty : BT Ty) (fn : BT Ax.Fn) (mode : BT Ax.Mode) (spec : BT (List V → Option V)) (hspec : BT (List V → Sg → Option (V × Sg))) (eqs : BT (List Kd)) (gl : Nat → Option (Obj → Prop)) (lie : Nat → Bool) : Env :=
  { ty := fun t => ty.get t, fn := fun f => fn.get f, mode := fun f => match mode.get f with
      | some m => m
      | none => .iso, spec := fun f => spec.get f, hspec := fun f => hspec.get f, eqs := fun t => eqs.get t, gl, lie }
section
variable {P : Program} {ty : BT Ty} {fn : BT Ax.Fn} {mode : BT Ax.Mode} {spec : BT (List V → Option V)} {hspec : BT (List V → Sg → Option (V × Sg))} {eqs : BT (List Kd)} {gl : Nat → Option (Obj → Prop)} {lie : Nat → Bool}
theorem mkEnv_ok (h1 : ty.All (TyOk P)) (h2 : eqs.All (EqOk P)) (h3 : ∀ t, lie t = true → liesAt P P.depth t 1 0 t 1 = true) : EnvOk P (mkEnv ty fn mode spec hspec eqs gl lie) := ⟨fun _ _ h => BT.get_all h1 h, fun _ _ h => BT.get_all h2 h, h3⟩
theorem mkEnv_fns (h1 : fn.All (FnOk P)) (h2 : spec.All (SpecOk P (mkEnv ty fn mode spec hspec eqs gl lie))) (h3 : hspec.All (HspecOk P (mkEnv ty fn mode spec hspec eqs gl lie))) : FnsOk P (mkEnv ty fn mode spec hspec eqs gl lie) :=
  ⟨fun _ _ h => BT.get_all h1 h, fun _ _ h => BT.get_all h2 h, fun _ _ h => BT.get_all h3 h⟩
end
end Go.Ax
end
section
namespace Go.Ax
open Go
set_option linter.unusedVariables false
set_option linter.unusedSimpArgs false

def scalarOk (d : TypeDesc) : Kd → Prop
  | .bool => d = .bool
  | .int k => d = .int k
  | .str => d = .string
  | _ => False
inductive FieldsOk (P : Program) : Nat → List Field → List Kd → Prop
  | nil (n : Nat) : FieldsOk P n [] []
  | cons (n : Nat) (f : Field) (fs : List Field) (k : Kd) (sh : List Kd) (d : TypeDesc) (h1 : f.name ≠ "_") (h2 : f.offset = n) (h3 : P.underlying f.type = some d) (h4 : scalarOk d k) (hr : FieldsOk P (n + 1) fs sh) : FieldsOk P n (f :: fs) (k :: sh)

section
variable {P : Program}
theorem run_part_scalar {t : Nat} {d : TypeDesc} {k : Kd} (h : P.underlying t = some d) (hk : scalarOk d k) {xs : Array Value} {n : Nat} {v : Value} (hx : xs[n]? = some v) (w : World) : (Go.part t xs n).run P w = .ok v w := by
  have : (Go.isAgg t).run P w = .ok false w := by
    simp only [Go.isAgg, Sem.run_bind, run_underlying h, Result.andThen_ok]
    cases k <;> simp only [scalarOk] at hk <;> first
      | (subst hk; rfl)
      | exact hk.elim
  simp [Go.part, this, hx]

theorem drop_cons {xs : Array Value} {n : Nat} {x : Value} {l : List Value} (h : xs.toList.drop n = x :: l) : xs[n]? = some x ∧ xs.toList.drop (n + 1) = l := by
  constructor
  · have : (xs.toList.drop n)[0]? = some x := by rw [h]; rfl
    simpa using this
  · have := congrArg List.tail h
    simpa using this

theorem eqFields_sound (d : Nat) {xs ys : Array Value} : ∀ {fs : List Field} {sh : List Kd} {n : Nat} {as bs : List V} {b : Bool} {l m : List Value}, FieldsOk P n fs sh → xs.toList.drop n = l → ys.toList.drop n = m → Sc sh as l → Sc sh bs m → eqs sh as bs = some b →
    ∀ w, (Op.eqFields (d + 1) xs ys fs).run P w = .ok b w := by
  intro fs
  induction fs with
  | nil =>
    intro sh n as bs b l m hf hx hy ha hb h w
    cases hf
    cases ha; cases hb
    simp only [eqs] at h
    injection h with h; subst h
    simp [Op.eqFields]
  | cons f fs ih =>
    intro sh n as bs b l m hf hx hy ha hb h w
    cases hf with | cons _ _ _ k sh' dd h1 h2 h3 h4 hr =>
    cases ha with
    | bool x sh'' vs l' ha =>
      cases hb with | bool y _ us m' hb =>
      obtain ⟨x1, x2⟩ := drop_cons hx
      obtain ⟨y1, y2⟩ := drop_cons hy
      simp only [eqs] at h
      split at h
      case h_2 => cases h
      rename_i q hq
      injection h with h; subst h
      have hrest := ih hr x2 y2 ha hb hq w
      simp only [scalarOk] at h4; subst h4
      subst h2
      simp only [Op.eqFields, ne_eq, h1, not_false_eq_true, if_true, Sem.run_bind, run_part_scalar (k := .bool) h3 rfl x1, run_part_scalar (k := .bool) h3 rfl y1, Result.andThen_ok, run_equalIn_bool' w d _ x y h3]
      cases hxy : (x == y)
      · simp
      · simpa using hrest
    | int k1 x sh'' vs l' ha =>
      cases hb with | int _ y _ us m' hb =>
      obtain ⟨x1, x2⟩ := drop_cons hx
      obtain ⟨y1, y2⟩ := drop_cons hy
      simp only [eqs] at h
      simp only [and_self, if_true] at h
      split at h
      case h_2 => cases h
      rename_i q hq
      injection h with h; subst h
      have hrest := ih hr x2 y2 ha hb hq w
      simp only [scalarOk] at h4; subst h4
      subst h2
      simp only [Op.eqFields, ne_eq, h1, not_false_eq_true, if_true, Sem.run_bind, run_part_scalar (k := .int k1) h3 rfl x1, run_part_scalar (k := .int k1) h3 rfl y1, Result.andThen_ok, run_equalIn_int w d _ k1 k1 x y h3]
      by_cases hxy : x = y
      · simpa [hxy] using hrest
      · simp [hxy]
    | str x sh'' vs l' ha =>
      cases hb with | str y _ us m' hb =>
      obtain ⟨x1, x2⟩ := drop_cons hx
      obtain ⟨y1, y2⟩ := drop_cons hy
      simp only [eqs] at h
      split at h
      case h_2 => cases h
      rename_i q hq
      injection h with h; subst h
      have hrest := ih hr x2 y2 ha hb hq w
      simp only [scalarOk] at h4; subst h4
      subst h2
      simp only [Op.eqFields, ne_eq, h1, not_false_eq_true, if_true, Sem.run_bind, run_part_scalar (k := .str) h3 rfl x1, run_part_scalar (k := .str) h3 rfl y1, Result.andThen_ok, run_equalIn_string w d _ x y h3]
      rw [seq_bytes]
      cases hxy : (x.toList == y.toList)
      · simp
      · simpa using hrest

theorem checkKey_scalar {t : Nat} {d : TypeDesc} {k : Kd} (h : P.underlying t = some d) (hk : scalarOk d k) (e : Bool) (n : Nat) (v : Value) (w : World) : (Instr.checkKey e (n + 1) t v).run P w = .ok () w := by
  simp only [Instr.checkKey, Sem.run_bind, run_underlying h, Result.andThen_ok]
  cases k <;> simp only [scalarOk] at hk <;> first
    | (subst hk; rfl)
    | exact hk.elim
theorem keyFields_sound (e : Bool) (d : Nat) {xs : Array Value} : ∀ {fs : List Field} {sh : List Kd} {n : Nat} {as : List V} {l : List Value}, FieldsOk P n fs sh → xs.toList.drop n = l → Sc sh as l →
    ∀ w, (forIn fs PUnit.unit fun (f : Field) (_ : PUnit) => (do
      if f.name ≠ "_" then Instr.checkKey e (d + 1) f.type (← Go.part f.type xs f.offset)
      pure (ForInStep.yield PUnit.unit) : Sem (ForInStep PUnit))).run P w = .ok PUnit.unit w := by
  intro fs
  induction fs with
  | nil => intro sh n as l _ _ _ w; simp
  | cons f fs ih =>
    intro sh n as l hf hx ha w
    cases hf with | cons _ _ _ k sh' dd h1 h2 h3 h4 hr =>
    have go : ∀ {x : Value} {l' : List Value} {vs : List V}, xs.toList.drop n = x :: l' → Sc sh' vs l' → (forIn (f :: fs) PUnit.unit fun (f : Field) (_ : PUnit) => (do
      if f.name ≠ "_" then Instr.checkKey e (d + 1) f.type (← Go.part f.type xs f.offset)
      pure (ForInStep.yield PUnit.unit) : Sem (ForInStep PUnit))).run P w = .ok PUnit.unit w := by
      intro x l' vs hx ha
      obtain ⟨x1, x2⟩ := drop_cons hx
      have hrest := ih hr x2 ha w
      rw [← h2] at x1
      simp only [List.forIn_cons, ne_eq, h1, not_false_eq_true, if_true, Sem.run_bind, run_part_scalar h3 h4 x1, Result.andThen_ok, checkKey_scalar h3 h4, Sem.run_pure]
      exact hrest
    cases ha with
    | bool x _ vs l' ha => exact go hx ha
    | int k1 x _ vs l' ha => exact go hx ha
    | str x _ vs l' ha => exact go hx ha

theorem EqOk.of {t : Nat} {fs : Array Field} {sh : List Kd} (h1 : P.underlying t = some (.struct fs)) (h2 : P.stoodInHeld t = false) (h3 : P.eqGuardType P.depth t = false) (h4 : FieldsOk P 0 fs.toList sh) : EqOk P t sh := by
  have hfo : P.fieldsOf t = fs := by simp [Program.fieldsOf, h1]
  refine ⟨fun w as bs xs ys b he ha hb => ?_, fun w op x y xs ys as bs _ _ => run_eqGuard_agg w op t x y _ _ h3, fun w e as xs ha => ?_, ⟨fs, h1⟩⟩
  · show (Op.equalIn (9999 + 1) t _ _).run P w = _
    rw [run_equalIn_agg w 9999 t _ _ (by rw [hfo]; exact h1) h2, hfo]
    exact eqFields_sound 9998 h4 (by simp) (by simp) ha hb he w
  · show (Instr.checkKey e (9998 + 1 + 1) t _).run P w = _
    unfold Instr.checkKey
    simp only [Sem.run_bind, run_underlying h1, Result.andThen_ok]
    rw [← Array.forIn_toList]
    have := keyFields_sound (P := P) e 9998 (xs := xs.toArray) h4 (n := 0) (l := xs) (by simp) ha w
    exact congrArg (fun r : Result PUnit => r.andThen fun _ w' => (pure () : Sem Unit).run P w') this
end
end Go.Ax
end
