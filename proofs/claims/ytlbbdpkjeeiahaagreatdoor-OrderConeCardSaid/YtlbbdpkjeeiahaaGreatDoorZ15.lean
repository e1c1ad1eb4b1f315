/- Part 15 of the proof's own texts (pressed by a program of its author's). -/
import Derived.Test.YtlbbdpkjeeiahaaGreatDoorZ0
import Derived.Test.YtlbbdpkjeeiahaaGreatDoorZ3
section
set_option maxHeartbeats 8000000
set_option linter.unusedVariables false
namespace Go.Ax
open Go
section
def tT (r r':x_):Prop:=∀ c fr Z x,r c fr Z = some x -> r' c fr Z = some x
section
variable {E:Env} {r r':x_}
theorem Cy (h:tT r r') {F:Fn} {args:List V} {Z:Sg} {x:V × Sg} (he:enter E r F args Z = some x):enter E r' F args Z = some x:=by
 unfold enter at he ⊢
 cases hi:Fr.init F.ntmps args with
 | none=>rw [hi] at he; cases he
 | some fr=>
  rw [hi] at he
  dsimp only at he ⊢
  cases hr:r F.code fr Z with
  | none=>rw [hr] at he; cases he
  | some y=>rw [h _ _ _ _ hr]; rw [hr] at he; exact he
theorem rW (h:tT r r') {f:Nat} {args:List V} {Z:Sg} {x:V × Sg} (he:gI E r f args Z = some x):gI E r' f args Z = some x:=by
 unfold gI at he ⊢
 cases h1:E.hspec f with
 | some s=>rw [h1] at he; exact he
 | none=>
 rw [h1] at he
 dsimp only at he ⊢
 cases h2:E.spec f with
 | some s=>rw [h2] at he; exact he
 | none=>
 rw [h2] at he
 dsimp only at he ⊢
 cases h3:E.fn f with
 | none=>rw [h3] at he; cases he
 | some F=>
 rw [h3] at he
 dsimp only at he ⊢
 have fA:∀ (g:Bool),(match aW (aY Z E.ty g) args with
    | some args'=>match enter E r F args' [] with
     | some (v,σ1)=>match cW σ1 E.ty false v with
      | some v=>some (v,if g then Z else kill Z (args.flatMap (lQ Z)))
      | none=>no ("result of function " ++ toString f)
     | none=>no ("in function " ++ toString f)
    | none=>no ("args of function " ++ toString f)) = some x -> (match aW (aY Z E.ty g) args with
    | some args'=>match enter E r' F args' [] with
     | some (v,σ1)=>match cW σ1 E.ty false v with
      | some v=>some (v,if g then Z else kill Z (args.flatMap (lQ Z)))
      | none=>no ("result of function " ++ toString f)
     | none=>no ("in function " ++ toString f)
    | none=>no ("args of function " ++ toString f)) = some x:=by
  intro g he
  cases h4:aW (aY Z E.ty g) args with
  | none=>rw [h4] at he; cases he
  | some args'=>
   rw [h4] at he
   dsimp only at he ⊢
   cases h5:enter E r F args' [] with
   | none=>rw [h5] at he; cases he
   | some y=>rw [Cy h h5]; rw [h5] at he; exact he
 cases hm:E.mode f with
 | shared=>
  rw [hm] at he
  dsimp only at he ⊢
  cases h5:enter E r F args Z with
  | none=>rw [h5] at he; cases he
  | some y=>rw [Cy h h5]; rw [h5] at he; exact he
 | fA=>rw [hm] at he; exact fA _ he
 | move=>rw [hm] at he; exact fA _ he
theorem wY (h:tT r r') {dr:Fz} {op:Op} {fr:Fr} {Z:Sg} {x:V × Sg} (he:kD E r dr op fr Z = some x):kD E r' dr op fr Z = some x:=by
 unfold kD at he ⊢
 cases hc:comp E op with
 | plain f=>rw [hc] at he; exact he
 | lit t len parts=>rw [hc] at he; exact he
 | app args ats=>rw [hc] at he; exact he
 | call f args=>
  rw [hc] at he
  dsimp only at he ⊢
  split at he
  ·exact rW h he
  ·cases he
theorem Bp (h:tT r r') {dr:Fz} {ops:Array Oper} {o:Oper} {fr:Fr} {Z:Sg} {x:Fr × Sg} (he:bK E r dr ops o fr Z = some x):bK E r' dr ops o fr Z = some x:=by
 unfold bK at he ⊢
 split at he
 ·rename_i hw
  rw [if_pos hw]
  cases ho:kD E r dr o.op fr Z with
  | none=>rw [ho] at he; cases he
  | some y=>rw [wY h ho]; rw [ho] at he; exact he
 ·rename_i hw
  rw [if_neg hw]; exact he
theorem rS (h:tT r r') {dr:Fz} {ops:Array Oper}:∀ {l:List Oper} {fr:Fr} {Z:Sg} {x:Fr × Sg},fW E r dr ops l fr Z = some x -> fW E r' dr ops l fr Z = some x
 | [],_,_,_,he=>he
 | o :: l,fr,Z,x,he=>by
  rw [fW] at he ⊢
  cases ho:bK E r dr ops o fr Z with
  | none=>rw [ho] at he; cases he
  | some y=>rw [Bp h ho]; rw [ho] at he; exact rS h he
theorem Bj (h:tT r r') {dr:Fz} {ops:Array Oper}:∀ {l:List Oper} {fr:Fr} {Z:Sg} {x:List (Fr × Sg)},iC E r dr ops l fr Z = some x -> iC E r' dr ops l fr Z = some x
 | [],_,_,_,he=>he
 | o :: l,fr,Z,x,he=>by
  rw [iC] at he ⊢
  cases ho:bK E r dr ops o fr Z with
  | none=>rw [ho] at he; cases he
  | some y=>
   rw [Bp h ho]; rw [ho] at he
   dsimp only at he ⊢
   cases ht:iC E r dr ops l y.1 y.2 with
   | none=>rw [ht] at he; cases he
   | some z=>rw [Bj h ht]; rw [ht] at he; exact he
theorem CR (h:tT r r') {dr:Fz} {ops:Array Oper} {o:Oper} {fr:Fr} {Z Y:Sg} (he:again E r dr ops o fr Z Y = true):again E r' dr ops o fr Z Y = true:=by
 unfold again at he ⊢
 rw [Bool.or_eq_true] at he ⊢
 refine he.imp id fun he=>?_
 cases h1:kD E r dr o.op fr Z with
 | none=>rw [h1] at he; cases he
 | some y=>
  rw [h1] at he
  rw [wY h h1]
  cases h2:kD E r dr o.op fr Y with
  | none=>rw [h2] at he; cases he
  | some z=>rw [h2] at he; rw [wY h h2]; exact he
theorem F_ (h:tT r r') {dr:Fz} {ops:Array Oper} {ts:List (Fr × Sg)} {d:De} (he:iG E r dr ops ts d = true):iG E r' dr ops ts d = true:=by
 unfold iG at he ⊢
 split at he
 ·simp only [Bool.and_eq_true,Bool.or_eq_true] at he ⊢
  exact ⟨he.1.imp id (CR h),he.2.imp id (CR h)⟩
 ·cases he
theorem tN (h:tT r r') {ops:Array Oper} {fr:Fr} {Z:Sg} {x:Fr × Sg} (he:cI E r ops fr Z = some x):cI E r' ops fr Z = some x:=by
 unfold cI at he ⊢
 split at he
 ·cases he
 ·exact rS h he
 ·rename_i l hn e
  cases ht:iC E r (g_ E ops) ops ops.toList fr Z with
  | none=>rw [ht] at he; cases he
  | some ts=>
   rw [ht] at he
   rw [Bj h ht]
   dsimp only at he ⊢
   split at he
   ·rename_i hl
    rw [if_pos]
    ·cases l with
     | nil=>exact absurd rfl (hn ·)
     | cons d l=>exact he
    ·rw [List.all_eq_true] at hl ⊢
     exact fun d hd=>F_ h (hl d hd)
   ·cases he
end
theorem GQ (E:Env):∀ n,tT (ev E n) (ev E (n + 1))
 | 0=>fun c fr Z x h=>by rw [ev] at h; cases h
 | n + 1=>fun c fr Z x h=>by
  have ih:=GQ E n
  cases c with
  | skip=>rw [ev] at h ⊢; exact h
  | exit id=>rw [ev] at h ⊢; exact h
  | ret=>rw [ev] at h ⊢; exact h
  | seq a b=>
   rw [ev] at h ⊢
   try dsimp only at h ⊢
   cases ha:ev E n a fr Z with
   | none=>rw [ha] at h; cases h
   | some y=>
    rw [ih _ _ _ _ ha]; rw [ha] at h
    obtain ⟨x1,fr1,σ1⟩:=y
    cases x1 with
    | normal=>exact ih _ _ _ _ h
    | exit id=>cases h; rfl
    | ret=>cases h; rfl
  | cond c t e=>
   rw [ev] at h ⊢
   try dsimp only at h ⊢
   split at h
   ·exact ih _ _ _ _ h
   ·exact ih _ _ _ _ h
   ·cases h
  | block id a=>
   rw [ev] at h ⊢
   try dsimp only at h ⊢
   cases ha:ev E n a fr Z with
   | none=>rw [ha] at h; cases h
   | some y=>rw [ih _ _ _ _ ha]; rw [ha] at h; exact h
  | loop a=>
   rw [ev] at h ⊢
   try dsimp only at h ⊢
   cases ha:ev E n a fr Z with
   | none=>rw [ha] at h; cases h
   | some y=>
    rw [ih _ _ _ _ ha]; rw [ha] at h
    obtain ⟨x1,fr1,σ1⟩:=y
    cases x1 with
    | normal=>exact ih _ _ _ _ h
    | exit id=>cases h; rfl
    | ret=>cases h; rfl
  | region id ops draw=>
   rw [ev] at h ⊢
   try dsimp only at h ⊢
   cases draw with
   | true=>
    simp only [if_true] at h ⊢
    cases ha:cI E (ev E n) ops fr Z with
    | none=>rw [ha] at h; cases h
    | some y=>rw [tN ih ha]; rw [ha] at h; exact h
   | false=>
    simp only [Bool.false_eq_true,if_false] at h ⊢
    cases ha:fW E (ev E n) .no ops ops.toList fr Z with
    | none=>rw [ha] at h; cases h
    | some y=>rw [rS ih ha]; rw [ha] at h; exact h
  | _=>unfold ev at h; cases h
theorem lN (E : Env) {n m : Nat} (h : n <= m) : tT (ev E n) (ev E m) := by
  induction m with
  | zero => obtain rfl : n = 0 := by omega
            exact fun _ _ _ _ h => h
  | succ m ih =>
    by_cases e : n = m + 1
    · subst e; exact fun _ _ _ _ h => h
    · exact fun c fr Z x hx => GQ E m _ _ _ _ (ih (by omega) c fr Z x hx)
def Wp (E:Env) (c:Code) (fr:Fr) (Z:Sg) (Q:X -> Fr -> Sg -> Prop):Prop:=∃ n x fr' σ',ev E n c fr Z = some (x,fr',σ') /\ Q x fr' σ'
def sK (E:Env) (ops:Array Oper) (l:List Oper) (fr:Fr) (Z:Sg) (Q:Fr -> Sg -> Prop):Prop:=∃ n fr' σ',fW E (ev E n) .no ops l fr Z = some (fr',σ') /\ Q fr' σ'
def OP (E:Env) (ops:Array Oper) (fr:Fr) (Z:Sg) (Q:Fr -> Sg -> Prop):Prop:=∃ n fr' σ',cI E (ev E n) ops fr Z = some (fr',σ') /\ Q fr' σ'
def jS (E:Env) (op:Op) (fr:Fr) (Z:Sg) (K:V -> Sg -> Prop):Prop:=∃ n v σ',kD E (ev E n) .no op fr Z = some (v,σ') /\ K v σ'
def aB (E:Env) (f:Nat) (args:List V) (Z:Sg) (K:V -> Sg -> Prop):Prop:=∃ n v σ',gI E (ev E n) f args Z = some (v,σ') /\ K v σ'
section
variable {E:Env} {fr:Fr} {Z:Sg} {Q:X -> Fr -> Sg -> Prop}
theorem Wp.of {n:Nat} {c:Code} {x:X} {fr':Fr} {σ':Sg} (h:ev E n c fr Z = some (x,fr',σ')) (hq:Q x fr' σ'):Wp E c fr Z Q:=⟨n,x,fr',σ',h,hq⟩
theorem Wp.mono {Q':X -> Fr -> Sg -> Prop} {c:Code} (h:Wp E c fr Z Q) (hq:∀ x fr Z,Q x fr Z -> Q' x fr Z):Wp E c fr Z Q':=by
 obtain ⟨n,x,fr',σ',h1,h2⟩:=h
 exact ⟨n,x,fr',σ',h1,hq _ _ _ h2⟩
theorem wp_skip:Wp E .skip fr Z Q = Q .normal fr Z:=propext ⟨fun ⟨n,x,fr',σ',h,hq⟩=>by
 cases n with
 | zero=>cases h
 | succ n=>rw [ev] at h; cases h; exact hq,fun h=>⟨1,_,_,_,rfl,h⟩⟩
theorem wp_exit {id:Nat}:Wp E (.exit id) fr Z Q = Q (.exit id) fr Z:=propext ⟨fun ⟨n,x,fr',σ',h,hq⟩=>by
 cases n with
 | zero=>cases h
 | succ n=>rw [ev] at h; cases h; exact hq,fun h=>⟨1,_,_,_,rfl,h⟩⟩
theorem wp_ret:Wp E .ret fr Z Q = Q .ret fr Z:=propext ⟨fun ⟨n,x,fr',σ',h,hq⟩=>by
 cases n with
 | zero=>cases h
 | succ n=>rw [ev] at h; cases h; exact hq,fun h=>⟨1,_,_,_,rfl,h⟩⟩
theorem wp_seq {a b:Code}:Wp E (.seq a b) fr Z Q = Wp E a fr Z fun x fr Z=>match x with
  | .normal=>Wp E b fr Z Q
  | x=>Q x fr Z:=propext ⟨fun ⟨n,x,fr',σ',h,hq⟩=>by
 cases n with
 | zero=>cases h
 | succ n=>
  rw [ev] at h
  try dsimp only at h
  cases ha:ev E n a fr Z with
  | none=>rw [ha] at h; cases h
  | some y=>
   rw [ha] at h
   obtain ⟨x1,fr1,σ1⟩:=y
   refine ⟨n,x1,fr1,σ1,ha,?_⟩
   cases x1 with
   | normal=>exact ⟨n,x,fr',σ',h,hq⟩
   | _=>cases h; exact hq,fun ⟨n,x,fr1,σ1,h,hq⟩=>by
 cases x with
 | normal=>
  obtain ⟨m,x,fr',σ',h2,hq⟩:=hq
  refine ⟨max n m + 1,x,fr',σ',?_,hq⟩
  rw [ev]
  try dsimp only
  rw [lN E (Nat.le_max_left n m) _ _ _ _ h]
  exact lN E (Nat.le_max_right n m) _ _ _ _ h2
 | exit id=>exact ⟨n + 1,_,fr1,σ1,by rw [ev]; (try dsimp only); rw [h],hq⟩
 | ret=>exact ⟨n + 1,_,fr1,σ1,by rw [ev]; (try dsimp only); rw [h],hq⟩⟩
theorem wp_cond {c:Operand} {t e:Code}:Wp E (.cond c t e) fr Z Q = match aS fr c with
  | some (.bool true)=>Wp E t fr Z Q
  | some (.bool false)=>Wp E e fr Z Q
  | _=>False:=by
 apply propext
 constructor
 ·rintro ⟨n,x,fr',σ',h,hq⟩
  cases n with
  | zero=>cases h
  | succ n=>
   rw [ev] at h
   try dsimp only at h
   split at h
   ·rename_i e1
    rw [e1]; exact ⟨n,_,_,_,h,hq⟩
   ·rename_i e1
    rw [e1]; exact ⟨n,_,_,_,h,hq⟩
   ·cases h
 ·intro h
  split at h
  ·rename_i e1
   obtain ⟨n,x,fr',σ',h,hq⟩:=h
   refine ⟨n + 1,x,fr',σ',?_,hq⟩
   rw [ev]; (try dsimp only); rw [e1]; exact h
  ·rename_i e1
   obtain ⟨n,x,fr',σ',h,hq⟩:=h
   refine ⟨n + 1,x,fr',σ',?_,hq⟩
   rw [ev]; (try dsimp only); rw [e1]; exact h
  ·exact h.elim
theorem wp_block {id:Nat} {c:Code}:Wp E (.block id c) fr Z Q = Wp E c fr Z fun x fr Z=>match x with
  | .exit id'=>if id' = id then Q .normal fr Z else Q (.exit id') fr Z
  | x=>Q x fr Z:=propext ⟨fun ⟨n,x,fr',σ',h,hq⟩=>by
 cases n with
 | zero=>cases h
 | succ n=>
  rw [ev] at h
  try dsimp only at h
  cases ha:ev E n c fr Z with
  | none=>rw [ha] at h; cases h
  | some y=>
   rw [ha] at h
   obtain ⟨x1,fr1,σ1⟩:=y
   refine ⟨n,x1,fr1,σ1,ha,?_⟩
   cases x1 with
   | exit id'=>
    try dsimp only at h ⊢
    split at h
    ·rename_i e; rw [if_pos e]; cases h; exact hq
    ·rename_i e; rw [if_neg e]; cases h; exact hq
   | _=>cases h; exact hq,fun ⟨n,x,fr1,σ1,h,hq⟩=>by
 cases x with
 | exit id'=>
  try dsimp only at hq
  split at hq
  ·rename_i e; exact ⟨n + 1,_,fr1,σ1,by rw [ev]; (try dsimp only); rw [h]; (try dsimp only); rw [if_pos e],hq⟩
  ·rename_i e; exact ⟨n + 1,_,fr1,σ1,by rw [ev]; (try dsimp only); rw [h]; (try dsimp only); rw [if_neg e],hq⟩
 | normal=>exact ⟨n + 1,_,fr1,σ1,by rw [ev]; (try dsimp only); rw [h],hq⟩
 | ret=>exact ⟨n + 1,_,fr1,σ1,by rw [ev]; (try dsimp only); rw [h],hq⟩⟩
theorem wp_loop {c:Code}:Wp E (.loop c) fr Z Q = Wp E c fr Z fun x fr Z=>match x with
  | .normal=>Wp E (.loop c) fr Z Q
  | x=>Q x fr Z:=propext ⟨fun ⟨n,x,fr',σ',h,hq⟩=>by
 cases n with
 | zero=>cases h
 | succ n=>
  rw [ev] at h
  try dsimp only at h
  cases ha:ev E n c fr Z with
  | none=>rw [ha] at h; cases h
  | some y=>
   rw [ha] at h
   obtain ⟨x1,fr1,σ1⟩:=y
   refine ⟨n,x1,fr1,σ1,ha,?_⟩
   cases x1 with
   | normal=>exact ⟨n,x,fr',σ',h,hq⟩
   | _=>cases h; exact hq,fun ⟨n,x,fr1,σ1,h,hq⟩=>by
 cases x with
 | normal=>
  obtain ⟨m,x,fr',σ',h2,hq⟩:=hq
  refine ⟨max n m + 1,x,fr',σ',?_,hq⟩
  rw [ev]
  try dsimp only
  rw [lN E (Nat.le_max_left n m) _ _ _ _ h]
  exact lN E (Nat.le_max_right n m) _ _ _ _ h2
 | exit id=>exact ⟨n + 1,_,fr1,σ1,by rw [ev]; (try dsimp only); rw [h],hq⟩
 | ret=>exact ⟨n + 1,_,fr1,σ1,by rw [ev]; (try dsimp only); rw [h],hq⟩⟩
theorem LQ {id:Nat} {ops:Array Oper}:Wp E (.region id ops false) fr Z Q = sK E ops ops.toList fr Z (Q .normal):=propext ⟨fun ⟨n,x,fr',σ',h,hq⟩=>by
 cases n with
 | zero=>cases h
 | succ n=>
  rw [ev] at h
  simp only [Bool.false_eq_true,if_false] at h
  cases ha:fW E (ev E n) .no ops ops.toList fr Z with
  | none=>rw [ha] at h; cases h
  | some y=>rw [ha] at h; cases h; exact ⟨n,_,_,ha,hq⟩,fun ⟨n,fr1,σ1,h,hq⟩=>⟨n + 1,_,fr1,σ1,by rw [ev]; simp only [Bool.false_eq_true,if_false]; rw [h],hq⟩⟩
theorem IV {id:Nat} {ops:Array Oper}:Wp E (.region id ops true) fr Z Q = OP E ops fr Z (Q .normal):=propext ⟨fun ⟨n,x,fr',σ',h,hq⟩=>by
 cases n with
 | zero=>cases h
 | succ n=>
  rw [ev] at h
  simp only [if_true] at h
  cases ha:cI E (ev E n) ops fr Z with
  | none=>rw [ha] at h; cases h
  | some y=>rw [ha] at h; cases h; exact ⟨n,_,_,ha,hq⟩,fun ⟨n,fr1,σ1,h,hq⟩=>⟨n + 1,_,fr1,σ1,by rw [ev]; simp only [if_true]; rw [h],hq⟩⟩
section
variable {ops:Array Oper} {Q:Fr -> Sg -> Prop}
theorem J_:sK E ops [] fr Z Q = Q fr Z:=propext ⟨fun ⟨n,fr',σ',h,hq⟩=>by rw [fW] at h; cases h; exact hq,fun h=>⟨0,fr,Z,rfl,h⟩⟩
theorem wpOps_cons {o:Oper} {l:List Oper}:sK E ops (o :: l) fr Z Q = if bZ ops o fr = true then jS E o.op fr Z (fun v Z=>sK E ops l (dZ fr o.dst v) Z Q) else sK E ops l (dZ fr o.dst .undef) Z Q:=by
 by_cases hw:bZ ops o fr = true
 ·rw [if_pos hw]
  refine propext ⟨fun ⟨n,fr',σ',h,hq⟩=>?_,fun ⟨n,v,σ1,h,m,fr',σ',h2,hq⟩=>?_⟩
  ·rw [fW] at h
   unfold bK at h
   rw [if_pos hw] at h
   cases ho:kD E (ev E n) .no o.op fr Z with
   | none=>rw [ho] at h; cases h
   | some y=>rw [ho] at h; exact ⟨n,y.1,y.2,ho,n,fr',σ',h,hq⟩
  ·refine ⟨max n m,fr',σ',?_,hq⟩
   rw [fW]
   unfold bK
   rw [if_pos hw,wY (lN E (Nat.le_max_left n m)) h]
   exact rS (lN E (Nat.le_max_right n m)) h2
 ·rw [if_neg hw]
  refine propext ⟨fun ⟨n,fr',σ',h,hq⟩=>?_,fun ⟨n,fr',σ',h,hq⟩=>?_⟩
  ·rw [fW] at h
   unfold bK at h
   rw [if_neg hw] at h
   exact ⟨n,fr',σ',h,hq⟩
  ·refine ⟨n,fr',σ',?_,hq⟩
   rw [fW]
   unfold bK
   rw [if_neg hw]
   exact h
end
section
variable {K:V -> Sg -> Prop}
def got (o:Option (V × Sg)) (K:V -> Sg -> Prop):Prop:=match o with
 | some (v,Z)=>K v Z
 | none=>False
theorem GG {v:V}:got (some (v,Z)) K = K v Z:=rfl
theorem bP {op:Op} {f:Fr -> Sg -> Option (V × Sg)} (h:comp E op = .plain f):jS E op fr Z K = got (f fr Z) K:=by
 unfold jS kD
 rw [h]
 try dsimp only
 cases f fr Z with
 | none=>exact propext ⟨fun ⟨_,_,_,h,_⟩=>(by cases h),fun h=>h.elim⟩
 | some y=>exact propext ⟨fun ⟨_,_,_,h,hk⟩=>(by cases h; exact hk),fun h=>⟨0,_,_,rfl,h⟩⟩
end
theorem aB.of {f:Nat} {args:List V} {v:V} {σ':Sg} {K:V -> Sg -> Prop} (h:aB E f args Z fun u Y=>u = v /\ Y = σ'):aB E f args Z K = K v σ':=by
 obtain ⟨n,u,Y,h,rfl,rfl⟩:=h
 refine propext ⟨fun ⟨m,w,ρ,h2,hk⟩=>?_,fun hk=>⟨n,u,Y,h,hk⟩⟩
 have a:=rW (lN E (Nat.le_max_left n m)) h
 rw [rW (lN E (Nat.le_max_right n m)) h2] at a
 cases a
 exact hk
end
end
section
def FT.set (F:FT) (t:Nat) (v:V):FT:=FT.put v (t + 1) F t
theorem FT.jO {F:FT} {u t:Nat} {v:V}:(FT.set F u v).get t = if t = u then v else F.get t:=FT.aD v (u + 1) F u t (by omega)
theorem Fr.MW {n u:Nat} {F:FT} {v:V}:Fr.put ⟨n,F⟩ u v = if u < n then ⟨n,FT.set F u v⟩ else ⟨n,F⟩:=by
 unfold Fr.put
 cases h:Nat.blt u n with
 | true=>rw [Nat.blt_eq] at h; rw [if_pos h]; rfl
 | false=>rw [if_neg]; intro g; rw [<- Nat.blt_eq] at g; rw [h] at g; cases g
theorem Fr.SZ {n t:Nat} {F:FT}:Fr.get ⟨n,F⟩ t = if t < n then some (F.get t) else none:=by
 unfold Fr.get
 cases h:Nat.blt t n with
 | true=>rw [Nat.blt_eq] at h; rw [if_pos h]
 | false=>rw [if_neg]; intro g; rw [<- Nat.blt_eq] at g; rw [h] at g; cases g
section
variable {E:Env} {fr:Fr} {Z:Sg} {ops:Array Oper} {l:List Oper} {Q:Fr -> Sg -> Prop} {dst:Option Nat} {op:Op} {ty:Nat} {pos:String} {after:Array Edge}
theorem Ba:sK E ops (⟨dst,op,ty,pos,after,none⟩ :: l) fr Z Q = jS E op fr Z fun v Z=>sK E ops l (dZ fr dst v) Z Q:=by
 rw [wpOps_cons]; exact if_pos rfl
end
section
variable {E:Env} {fr:Fr} {Z:Sg} {K:V -> Sg -> Prop}
theorem cU {o:Option (V × Sg)}:got o K = (match o with
  | some (v,Z)=>K v Z
  | none=>False):=rfl
def app3 (a b c:List V):Option (List V):=some (a ++ b ++ c)
theorem Ke {x:Operand}:jS E (.move x) fr Z K = (match (aS fr x).map (·,Z) with
  | some (v,Z)=>K v Z
  | none=>False):=(bP (f:=fun fr Z=>(aS fr x).map (·,Z)) rfl).trans cU
theorem Fm {x:Operand}:jS E (.assign x) fr Z K = (match (aS fr x).map (·,Z) with
  | some (v,Z)=>K v Z
  | none=>False):=(bP (f:=fun fr Z=>(aS fr x).map (·,Z)) rfl).trans cU
theorem Kb {c a b:Operand}:jS E (.pick c a b) fr Z K = (match jG E fr Z c a b with
  | some (v,Z)=>K v Z
  | none=>False):=(bP (f:=fun fr Z=>jG E fr Z c a b) rfl).trans cU
theorem HA {e:Nat}:jS E (.alloc e) fr Z K = (match rF E fr Z e with
  | some (v,Z)=>K v Z
  | none=>False):=(bP (f:=fun fr Z=>rF E fr Z e) rfl).trans cU
theorem LR {e:Nat} {x:Operand}:jS E (.box e x) fr Z K = (match F8 E fr Z e x with
  | some (v,Z)=>K v Z
  | none=>False):=(bP (f:=fun fr Z=>F8 E fr Z e x) rfl).trans cU
theorem Hy {t:Nat} {parts:Array (Nat × Operand)}:jS E (.build t parts) fr Z K = (match pQ E fr Z t parts with
  | some (v,Z)=>K v Z
  | none=>False):=(bP (f:=fun fr Z=>pQ E fr Z t parts) rfl).trans cU
theorem AA {t len:Nat} {parts:Array (Nat × Operand)}:jS E (.buildSlice t len parts) fr Z K = (match eY E fr Z t len parts with
  | some (v,Z)=>K v Z
  | none=>False):=by
 refine propext ⟨fun ⟨_,v,σ',h,hk⟩=>?_,fun h=>?_⟩
 ·have h:eY E fr Z t len parts = some (v,σ'):=h
  rw [h]; exact hk
 ·split at h
  ·rename_i v σ' e
   exact ⟨0,v,σ',e,h⟩
  ·exact h.elim
theorem Kf {t:Nat} {a:Operand}:jS E (.load t a) fr Z K = (match gP E fr Z t a with
  | some (v,Z)=>K v Z
  | none=>False):=(bP (f:=fun fr Z=>gP E fr Z t a) rfl).trans cU
theorem Ht {t:Nat} {a x:Operand}:jS E (.store t a x) fr Z K = (match jF E fr Z t a x with
  | some (v,Z)=>K v Z
  | none=>False):=(bP (f:=fun fr Z=>jF E fr Z t a x) rfl).trans cU
theorem CY {x:Operand}:jS E (.nilCheck x) fr Z K = (match iQ E fr Z x with
  | some (v,Z)=>K v Z
  | none=>False):=(bP (f:=fun fr Z=>iQ E fr Z x) rfl).trans cU
theorem Hz {op:BinOp} {t u:Nat} {x y:Operand}:jS E (.binOp op t x y u) fr Z K = (match eH E fr Z op t x y with
  | some (v,Z)=>K v Z
  | none=>False):=(bP (f:=fun fr Z=>eH E fr Z op t x y) rfl).trans cU
theorem Ka {op:UnOp} {t:Nat} {x:Operand}:jS E (.unOp op t x) fr Z K = (match nG E fr Z op x with
  | some (v,Z)=>K v Z
  | none=>False):=(bP (f:=fun fr Z=>nG E fr Z op x) rfl).trans cU
theorem El {s d:Nat} {x:Operand}:jS E (.convert s d x) fr Z K = (match lH E fr Z s d x with
  | some (v,Z)=>K v Z
  | none=>False):=(bP (f:=fun fr Z=>lH E fr Z s d x) rfl).trans cU
theorem Hv {t:Nat} {x:Operand}:jS E (.range t x) fr Z K = (match oE E fr Z t x with
  | some (v,Z)=>K v Z
  | none=>False):=(bP (f:=fun fr Z=>oE E fr Z t x) rfl).trans cU
theorem Kc {x:Operand}:jS E (.next x true) fr Z K = (match uX E fr Z x with
  | some (v,Z)=>K v Z
  | none=>False):=(bP (f:=fun fr Z=>uX E fr Z x) rfl).trans cU
theorem vF {t:Nat} {x:Operand}:jS E (.makeInterface t x) fr Z K = (match dM E fr Z t x with
  | some (v,Z)=>K v Z
  | none=>False):=(bP (f:=fun fr Z=>dM E fr Z t x) rfl).trans cU
theorem CZ {f:Nat} {a b:Array Operand}:jS E (.makeFunc (.func f) a b) fr Z K = (match iR E fr Z f a b with
  | some (v,Z)=>K v Z
  | none=>False):=(bP (f:=fun fr Z=>iR E fr Z f a b) rfl).trans cU
theorem Ej {t:Nat} {r:Option Operand}:jS E (.makeMap t r) fr Z K = (match lG E fr Z t r with
  | some (v,Z)=>K v Z
  | none=>False):=(bP (f:=fun fr Z=>lG E fr Z t r) rfl).trans cU
theorem Bc {t:Nat} {l c:Operand}:jS E (.makeSlice t l c) fr Z K = (match jH E fr Z t l c with
  | some (v,Z)=>K v Z
  | none=>False):=(bP (f:=fun fr Z=>jH E fr Z t l c) rfl).trans cU
theorem Hu {t:Nat} {x:Operand} {lo hi mx:Option Operand}:jS E (.slice t x lo hi mx) fr Z K = (match rE E fr Z t x lo hi mx with
  | some (v,Z)=>K v Z
  | none=>False):=(bP (f:=fun fr Z=>rE E fr Z t x lo hi mx) rfl).trans cU
theorem Be {t f:Nat} {x:Operand}:jS E (.fieldAddr t x f) fr Z K = (match gL E fr Z t x f with
  | some (v,Z)=>K v Z
  | none=>False):=(bP (f:=fun fr Z=>gL E fr Z t x f) rfl).trans cU
theorem Hx {t f:Nat} {x:Operand}:jS E (.field t x f) fr Z K = (match pP E fr Z t x f with
  | some (v,Z)=>K v Z
  | none=>False):=(bP (f:=fun fr Z=>pP E fr Z t x f) rfl).trans cU
theorem Bd {t:Nat} {x i:Operand}:jS E (.indexAddr t x i) fr Z K = (match bT E fr Z t x i with
  | some (v,Z)=>K v Z
  | none=>False):=(bP (f:=fun fr Z=>bT E fr Z t x i) rfl).trans cU
theorem Hw {t:Nat} {x i:Operand}:jS E (.index t x i) fr Z K = (match pO E fr Z t x i with
  | some (v,Z)=>K v Z
  | none=>False):=(bP (f:=fun fr Z=>pO E fr Z t x i) rfl).trans cU
theorem Fl {t:Nat} {x k:Operand} {ok:Bool}:jS E (.lookup t x k ok) fr Z K = (match dJ E fr Z t x k ok with
  | some (v,Z)=>K v Z
  | none=>False):=(bP (f:=fun fr Z=>dJ E fr Z t x k ok) rfl).trans cU
theorem Bb {t:Nat} {m k x:Operand}:jS E (.mapUpdate t m k x) fr Z K = (match dF E fr Z t m k x with
  | some (v,Z)=>K v Z
  | none=>False):=(bP (f:=fun fr Z=>dF E fr Z t m k x) rfl).trans cU
theorem Ek {t:Operand} {i:Nat}:jS E (.extract t i) fr Z K = (match cJ E fr Z t i with
  | some (v,Z)=>K v Z
  | none=>False):=(bP (f:=fun fr Z=>cJ E fr Z t i) rfl).trans cU
theorem Em {b:Builtin} {args:Array Operand} {ats:Array Nat}:jS E (.call { callee:=.builtin b,args:=args,argTypes:=ats }) fr Z K = (match d_ E fr Z b args ats with
  | some (v,Z)=>K v Z
  | none=>False):=by
 refine propext ⟨fun ⟨_,v,σ',h,hk⟩=>?_,fun h=>?_⟩
 ·have h:d_ E fr Z b args ats = some (v,σ'):=by cases b <;> exact h
  rw [h]; exact hk
 ·split at h
  ·rename_i v σ' e
   exact ⟨0,v,σ',by cases b <;> exact e,h⟩
  ·exact h.elim
theorem Kg {f:Operand} {args:Array Operand} {ats:Array Nat}:jS E (.call { callee:=.value f,args:=args,argTypes:=ats }) fr Z K = match aS fr f,eJ fr args.toList with
  | some (.fn k first cap),some l=>(match app3 first l cap with
   | some l=>aB E k l Z K
   | none=>False)
  | _,_=>False:=by
 refine propext ⟨fun ⟨n,v,σ',h,hk⟩=>?_,fun h=>?_⟩
 ·have h:(match aS fr f,eJ fr args.toList with
   | some (.fn k first cap),some l=>gI E (ev E n) k (first ++ l ++ cap) Z
   | _,_=>no "call") = some (v,σ'):=h
  split at h
  ·exact ⟨n,v,σ',h,hk⟩
  ·cases h
 ·split at h
  ·rename_i e1 e2
   obtain ⟨n,v,σ',h,hk⟩:=h
   refine ⟨n,v,σ',?_,hk⟩
   show (match aS fr f,eJ fr args.toList with
    | some (.fn k first cap),some l=>gI E (ev E n) k (first ++ l ++ cap) Z
    | _,_=>no "call") = some (v,σ')
   rw [e1,e2]; exact h
  ·exact h.elim
def EC (E:Env) (rs:List ResultVar) (K:V -> Sg -> Prop) (fr:Fr) (Z:Sg):Prop:=match results E fr Z rs with
 | some [v]=>K v Z
 | some vs=>K (.fS vs) Z
 | none=>False
def mP (E:Env) (F:Fn) (args:List V) (Z:Sg) (K:V -> Sg -> Prop):Prop:=match Fr.init F.ntmps args with
 | none=>False
 | some fr=>Wp E F.code fr Z fun x fr Z=>match x with
  | .exit _=>False
  | _=>EC E F.results K fr Z
theorem sN {F:Fn} {args:List V}:mP E F args Z K ↔ ∃ n v σ',enter E (ev E n) F args Z = some (v,σ') /\ K v σ':=by
 unfold mP enter
 cases hi:Fr.init F.ntmps args with
 | none=>exact ⟨fun h=>h.elim,fun ⟨_,_,_,h,_⟩=>by cases h⟩
 | some fr=>
  try dsimp only
  constructor
  ·rintro ⟨n,x,fr',σ',h,hq⟩
   refine ⟨n,?_⟩
   rw [h]
   cases x with
   | exit id=>exact hq.elim
   | normal=>
    simp only [EC] at hq
    split at hq
    ·rename_i v e; exact ⟨v,σ',by simp only [e],hq⟩
    ·rename_i vs hn e
     refine ⟨.fS vs,σ',?_,hq⟩
     simp only [e]
    ·exact hq.elim
   | ret=>
    simp only [EC] at hq
    split at hq
    ·rename_i v e; exact ⟨v,σ',by simp only [e],hq⟩
    ·rename_i vs hn e
     refine ⟨.fS vs,σ',?_,hq⟩
     simp only [e]
    ·exact hq.elim
  ·rintro ⟨n,v,σ',h,hk⟩
   have fin:∀ (fr1:Fr) (σ1:Sg),(match results E fr1 σ1 F.results with
     | some [v]=>some (v,σ1)
     | some vs=>some (V.fS vs,σ1)
     | none=>no "results") = some (v,σ') -> EC E F.results K fr1 σ1:=by
    intro fr1 σ1 h
    unfold EC
    split at h
    ·cases h; exact hk
    ·rename_i vs hn e
     cases h
     cases vs with
     | nil=>exact hk
     | cons a l=>cases l with
      | nil=>exact absurd rfl (hn a)
      | cons b l=>exact hk
    ·cases h
   cases he:ev E n F.code fr Z with
   | none=>rw [he] at h; cases h
   | some y=>
    obtain ⟨x,fr1,σ1⟩:=y
    rw [he] at h
    refine ⟨n,x,fr1,σ1,he,?_⟩
    cases x with
    | exit id=>cases h
    | normal=>exact fin _ _ h
    | ret=>exact fin _ _ h
theorem nK {f:Nat} {args:List V} {s:List V -> Sg -> Option (V × Sg)} (h1:E.hspec f = some s):aB E f args Z K = got (s args Z) K:=by
 unfold aB gI
 rw [h1]
 dsimp only
 cases s args Z with
 | none=>exact propext ⟨fun ⟨_,_,_,h,_⟩=>(by cases h),fun h=>h.elim⟩
 | some y=>exact propext ⟨fun ⟨_,_,_,h,hk⟩=>(by cases h; exact hk),fun h=>⟨0,_,_,rfl,h⟩⟩
theorem sO {f:Nat} {args args':List V} {s:List V -> Option V} {v v':V} (h1:E.hspec f = none) (h2:E.spec f = some s) (h3:aW (aY Z E.ty true) args = some args') (h4:s args' = some v) (h5:cW [] E.ty false v = some v'):aB E f args Z K = K v' Z:=by
 have:∀ r,gI E r f args Z = some (v',Z):=fun r=>by
  unfold gI
  rw [h1,h2,h3]
  dsimp only
  rw [h4]
  dsimp only
  rw [h5]
 exact propext ⟨fun ⟨n,_,_,h,hk⟩=>(by rw [this] at h; cases h; exact hk),fun h=>⟨0,_,_,this _,h⟩⟩
theorem dA {f:Nat} {args:List V} {F:Fn} (h1:E.hspec f = none) (h2:E.spec f = none) (h3:E.fn f = some F) (h4:E.mode f = .shared):aB E f args Z K = mP E F args Z K:=by
 rw [propext sN]
 unfold aB gI
 rw [h1,h2,h3,h4]
 dsimp only
 refine propext ⟨fun ⟨n,v,σ',h,hk⟩=>⟨n,v,σ',?_,hk⟩,fun ⟨n,v,σ',h,hk⟩=>⟨n,v,σ',by rw [h],hk⟩⟩
 split at h
 ·rename_i e; rw [e]; exact h
 ·cases h
theorem aH {f:Nat} {args args':List V} {F:Fn} (h1:E.hspec f = none) (h2:E.spec f = none) (h3:E.fn f = some F) (h4:E.mode f = .fA) (h5:aW (aY Z E.ty true) args = some args') :
  aB E f args Z K = mP E F args' [] fun v σ1=>match cW σ1 E.ty false v with
   | some v=>K v Z
   | none=>False:=by
 rw [propext sN]
 unfold aB gI
 rw [h1,h2,h3,h4]
 dsimp only
 rw [h5]
 dsimp only
 refine propext ⟨fun ⟨n,v,σ',h,hk⟩=>?_,fun ⟨n,v,σ',h,hk⟩=>?_⟩
 ·cases he:enter E (ev E n) F args' [] with
  | none=>rw [he] at h; cases h
  | some y=>
   obtain ⟨u,σ1⟩:=y
   rw [he] at h
   dsimp only at h
   refine ⟨n,u,σ1,he,?_⟩
   cases hs:cW σ1 E.ty false u with
   | none=>rw [hs] at h; cases h
   | some v1=>rw [hs] at h; cases h; exact hk
 ·cases hs:cW σ' E.ty false v with
  | none=>rw [hs] at hk; exact hk.elim
  | some v1=>
   rw [hs] at hk
   refine ⟨n,v1,Z,?_,hk⟩
   rw [h]
   dsimp only
   rw [hs]
   rfl
theorem mP.mono {F:Fn} {args:List V} {K':V -> Sg -> Prop} (h:mP E F args Z K) (hk:∀ v Z,K v Z -> K' v Z):mP E F args Z K':=by
 rw [sN] at h ⊢
 obtain ⟨n,v,σ',h,hk'⟩:=h
 exact ⟨n,v,σ',h,hk _ _ hk'⟩
theorem aB.mono {f:Nat} {args:List V} {K':V -> Sg -> Prop} (h:aB E f args Z K) (hk:∀ v Z,K v Z -> K' v Z):aB E f args Z K':=by
 obtain ⟨n,v,σ',h,hk'⟩:=h
 exact ⟨n,v,σ',h,hk _ _ hk'⟩
def Jt:List Oper -> Bool
 | []=>true
 | o :: l=>(match o.op with
  | .buildSlice ..=>false
  | .call { callee:=.builtin .append,.. }=>false
  | _=>true) && Jt l
theorem KI {ev:x_} {dr:Fz} {op:Op} {fr:Fr} (h:(match op with
  | .buildSlice ..=>false
  | .call { callee:=.builtin .append,.. }=>false
  | _=>true) = true):kD E ev dr op fr Z = kD E ev .no op fr Z:=by
 cases op with
 | buildSlice t len parts=>cases h
 | call cc=>
  obtain ⟨callee,args,ats⟩:=cc
  cases callee with
  | builtin b=>cases b <;> first | rfl | cases h
  | _=>rfl
 | _=>rfl
theorem Ao {ev:x_} {dr:Fz} {ops:Array Oper}:∀ {l:List Oper} {fr:Fr} {Z:Sg},Jt l = true -> fW E ev dr ops l fr Z = fW E ev .no ops l fr Z
 | [],_,_,_=>rfl
 | o :: l,fr,Z,h=>by
  simp only [Jt,Bool.and_eq_true] at h
  have e:bK E ev dr ops o fr Z = bK E ev .no ops o fr Z:=by
   unfold bK
   rw [KI h.1]
  rw [fW,fW,e]
  cases bK E ev .no ops o fr Z with
  | none=>rfl
  | some y=>exact Ao h.2
def aO (E:Env):Code -> Bool
 | .region _ ops true=>(match cZ E (g_ E ops) ops with
  | some []=>true
  | _=>false) && (Jt ops.toList || (match g_ E ops with | .no=>true | _=>false))
 | _=>false
def bX:Code -> Code
 | .region id ops _=>.region id ops false
 | c=>c
theorem J9 {c:Code} {fr:Fr} {Q:X -> Fr -> Sg -> Prop} (h:aO E c = true):Wp E c fr Z Q = Wp E (bX c) fr Z Q:=by
 unfold aO at h
 split at h
 case h_2=>cases h
 rename_i id ops
 rw [Bool.and_eq_true] at h
 obtain ⟨h1,h2⟩:=h
 show _ = Wp E (.region id ops false) fr Z Q
 rw [IV,LQ]
 unfold OP sK cI
 cases hp:cZ E (g_ E ops) ops with
 | none=>rw [hp] at h1; cases h1
 | some l=>
  rw [hp] at h1
  cases l with
  | cons d l=>cases h1
  | nil=>
   simp only
   cases hd:g_ E ops with
   | no=>rfl
   | _=>
    rw [hd] at h2
    simp only [Bool.or_false] at h2
    simp only [Ao h2]
def opsOf:Code -> Array Oper
 | .region _ ops _=>ops
 | _=>#[]
def cutAt:List Nat -> Code -> Code
 | [],c=>c
 | 0 :: p,.seq a _=>cutAt p a
 | 1 :: p,.seq _ b=>cutAt p b
 | 2 :: p,.block _ c=>cutAt p c
 | 2 :: p,.loop c=>cutAt p c
 | 0 :: p,.cond _ a _=>cutAt p a
 | 1 :: p,.cond _ _ b=>cutAt p b
 | _,c=>c
end
end
section
theorem Ru:((0:Nat):Int) = 0:=rfl
theorem RG:(0:Int).toNat = 0:=rfl
theorem Tk:(false == true) = false:=rfl
theorem Tj:(true == false) = false:=rfl
inductive kH where
 | k (c:Code) | blk (id:Nat) | lp (c:Code)
def M (E:Env):List kH -> X -> Fr -> Sg -> (X -> Fr -> Sg -> Prop) -> Prop
 | [],x,fr,Z,Q=>Q x fr Z
 | .k c :: s,.normal,fr,Z,Q=>Wp E c fr Z fun x fr Z=>M E s x fr Z Q
 | .k _ :: s,x,fr,Z,Q=>M E s x fr Z Q
 | .blk id :: s,.exit i,fr,Z,Q=>if i = id then M E s .normal fr Z Q else M E s (.exit i) fr Z Q
 | .blk _ :: s,x,fr,Z,Q=>M E s x fr Z Q
 | .lp c :: s,.normal,fr,Z,Q=>Wp E (.loop c) fr Z fun x fr Z=>M E s x fr Z Q
 | .lp _ :: s,x,fr,Z,Q=>M E s x fr Z Q
def R (E:Env) (c:Code) (s:List kH) (fr:Fr) (Z:Sg) (Q:X -> Fr -> Sg -> Prop):Prop:=Wp E c fr Z fun x fr Z=>M E s x fr Z Q
def dB (E:Env) (ops:Array Oper) (l:List Oper) (st:Option (Fr × Sg)) (s:List kH) (Q:X -> Fr -> Sg -> Prop):Prop:=match st with
 | some (fr,Z)=>sK E ops l fr Z fun fr Z=>M E s .normal fr Z Q
 | none=>False
def vP (dst:Option Nat) (fr:Fr) (o:Option (V × Sg)):Option (Fr × Sg):=match o with
 | some (v,Z)=>some (dZ fr dst v,Z)
 | none=>none
def CV (E:Env) (f:Nat) (args:List V) (Z:Sg) (dst:Option Nat) (fr:Fr) (ops:Array Oper) (l:List Oper) (s:List kH) (Q:X -> Fr -> Sg -> Prop):Prop:=aB E f args Z fun v Z=>dB E ops l (some (dZ fr dst v,Z)) s Q
section
variable {E:Env} {s:List kH} {fr:Fr} {Z:Sg} {Q:X -> Fr -> Sg -> Prop}
theorem V_ {x:X}:M E [] x fr Z Q = Q x fr Z:=rfl
theorem Wa {c:Code}:M E (.k c :: s) .normal fr Z Q = R E c s fr Z Q:=rfl
theorem Nk {c:Code} {i:Nat}:M E (.k c :: s) (.exit i) fr Z Q = M E s (.exit i) fr Z Q:=rfl
theorem PE {c:Code}:M E (.k c :: s) .ret fr Z Q = M E s .ret fr Z Q:=rfl
theorem Wb {id:Nat}:M E (.blk id :: s) .normal fr Z Q = M E s .normal fr Z Q:=rfl
theorem Ia {id i:Nat}:M E (.blk id :: s) (.exit i) fr Z Q = if i = id then M E s .normal fr Z Q else M E s (.exit i) fr Z Q:=rfl
theorem KQ {id:Nat}:M E (.blk id :: s) .ret fr Z Q = M E s .ret fr Z Q:=rfl
theorem m_lp {c:Code}:M E (.lp c :: s) .normal fr Z Q = R E (.loop c) s fr Z Q:=rfl
theorem KO {c:Code} {i:Nat}:M E (.lp c :: s) (.exit i) fr Z Q = M E s (.exit i) fr Z Q:=rfl
theorem Nj {c:Code}:M E (.lp c :: s) .ret fr Z Q = M E s .ret fr Z Q:=rfl
theorem Se:R E .skip s fr Z Q = M E s .normal fr Z Q:=wp_skip
theorem Sf {i:Nat}:R E (.exit i) s fr Z Q = M E s (.exit i) fr Z Q:=wp_exit
theorem U0:R E .ret s fr Z Q = M E s .ret fr Z Q:=wp_ret
theorem UZ {a b:Code}:R E (.seq a b) s fr Z Q = R E a (.k b :: s) fr Z Q:=by
 unfold R
 rw [wp_seq]
 congr 1
 funext x fr Z
 cases x <;> rfl
theorem Pu {id:Nat} {c:Code}:R E (.block id c) s fr Z Q = R E c (.blk id :: s) fr Z Q:=by
 unfold R
 rw [wp_block]
 congr 1
 funext x fr Z
 cases x <;> rfl
theorem aF {c:Code}:R E (.loop c) s fr Z Q = R E c (.lp c :: s) fr Z Q:=by
 unfold R
 rw [wp_loop]
 congr 1
 funext x fr Z
 cases x <;> rfl
def Iw (o:Option V):Option Bool:=match o with
 | some (.bool b)=>some b
 | _=>none
theorem GZ {b:Bool}:Iw (some (.bool b)) = some b:=rfl
theorem Sh {c:Operand} {t e:Code}:R E (.cond c t e) s fr Z Q = if Iw (aS fr c) = some true then R E t s fr Z Q else if Iw (aS fr c) = some false then R E e s fr Z Q else False:=by
 unfold R
 rw [wp_cond]
 cases aS fr c with
 | none=>rfl
 | some v=>
  cases v with
  | bool b=>cases b <;> rfl
  | _=>rfl
theorem U1 {id:Nat} {l:List Oper}:R E (.region id l.toArray false) s fr Z Q = dB E l.toArray l (some (fr,Z)) s Q:=LQ
theorem bA {c:Code} (h:aO E c = true):R E c s fr Z Q = R E (bX c) s fr Z Q:=J9 h
variable {ops:Array Oper} {l:List Oper} {dst:Option Nat} {ty:Nat} {pos:String} {after:Array Edge}
theorem SG:dB E ops l none s Q = False:=rfl
theorem Wh:dB E ops [] (some (fr,Z)) s Q = M E s .normal fr Z Q:=J_
theorem P3 {op:Op} {j:Nat} {w:Bool}:dB E ops (⟨dst,op,ty,pos,after,some (j,w)⟩ :: l) (some (fr,Z)) s Q = if yielded ops fr j = some w then dB E ops (⟨dst,op,ty,pos,after,none⟩ :: l) (some (fr,Z)) s Q else dB E ops l (some (dZ fr dst .undef,Z)) s Q:=by
 show sK E ops (⟨dst,op,ty,pos,after,some (j,w)⟩ :: l) fr Z _ = _
 rw [wpOps_cons]
 by_cases h:yielded ops fr j = some w
 ·rw [if_pos h,if_pos (by show (yielded ops fr j == some w) = true; rw [h]; simp)]
  exact Ba.symm
 ·rw [if_neg h,if_neg]
  ·rfl
  ·intro g
   have g:(yielded ops fr j == some w) = true:=g
   exact h (by simpa using g)
theorem lU {op:Op} {o:Option (V × Sg)} (h:∀ K,jS E op fr Z K = (match o with
  | some (v,Z)=>K v Z
  | none=>False)):dB E ops (⟨dst,op,ty,pos,after,none⟩ :: l) (some (fr,Z)) s Q = dB E ops l (vP dst fr o) s Q:=by
 show sK E ops (⟨dst,op,ty,pos,after,none⟩ :: l) fr Z _ = _
 rw [Ba,h]
 cases o with
 | none=>rfl
 | some y=>rfl
theorem SI {x:Operand}:dB E ops (⟨dst,.move x,ty,pos,after,none⟩ :: l) (some (fr,Z)) s Q = dB E ops l (vP dst fr ((aS fr x).map (·,Z))) s Q:=lU fun _=>Ke
theorem NJ {x:Operand}:dB E ops (⟨dst,.assign x,ty,pos,after,none⟩ :: l) (some (fr,Z)) s Q = dB E ops l (vP dst fr ((aS fr x).map (·,Z))) s Q:=lU fun _=>Fm
theorem SF {c a b:Operand}:dB E ops (⟨dst,.pick c a b,ty,pos,after,none⟩ :: l) (some (fr,Z)) s Q = dB E ops l (vP dst fr (jG E fr Z c a b)) s Q:=lU fun _=>Kb
theorem P9 {e:Nat}:dB E ops (⟨dst,.alloc e,ty,pos,after,none⟩ :: l) (some (fr,Z)) s Q = dB E ops l (vP dst fr (rF E fr Z e)) s Q:=lU fun _=>HA
theorem Wi {e:Nat} {x:Operand}:dB E ops (⟨dst,.box e x,ty,pos,after,none⟩ :: l) (some (fr,Z)) s Q = dB E ops l (vP dst fr (F8 E fr Z e x)) s Q:=lU fun _=>LR
theorem P7 {t:Nat} {parts:Array (Nat × Operand)}:dB E ops (⟨dst,.build t parts,ty,pos,after,none⟩ :: l) (some (fr,Z)) s Q = dB E ops l (vP dst fr (pQ E fr Z t parts)) s Q:=lU fun _=>Hy
theorem EW {t len:Nat} {parts:Array (Nat × Operand)}:dB E ops (⟨dst,.buildSlice t len parts,ty,pos,after,none⟩ :: l) (some (fr,Z)) s Q = dB E ops l (vP dst fr (eY E fr Z t len parts)) s Q:=lU fun _=>AA
theorem SJ {t:Nat} {a:Operand}:dB E ops (⟨dst,.load t a,ty,pos,after,none⟩ :: l) (some (fr,Z)) s Q = dB E ops l (vP dst fr (gP E fr Z t a)) s Q:=lU fun _=>Kf
theorem PW {t:Nat} {a x:Operand}:dB E ops (⟨dst,.store t a x,ty,pos,after,none⟩ :: l) (some (fr,Z)) s Q = dB E ops l (vP dst fr (jF E fr Z t a x)) s Q:=lU fun _=>Ht
theorem Ij {x:Operand}:dB E ops (⟨dst,.nilCheck x,ty,pos,after,none⟩ :: l) (some (fr,Z)) s Q = dB E ops l (vP dst fr (iQ E fr Z x)) s Q:=lU fun _=>CY
theorem P8 {op:BinOp} {t:Nat} {x y:Operand} {u:Nat}:dB E ops (⟨dst,.binOp op t x y u,ty,pos,after,none⟩ :: l) (some (fr,Z)) s Q = dB E ops l (vP dst fr (eH E fr Z op t x y)) s Q:=lU fun _=>Hz
theorem SD {op:UnOp} {t:Nat} {x:Operand}:dB E ops (⟨dst,.unOp op t x,ty,pos,after,none⟩ :: l) (some (fr,Z)) s Q = dB E ops l (vP dst fr (nG E fr Z op x)) s Q:=lU fun _=>Ka
theorem KZ {u d:Nat} {x:Operand}:dB E ops (⟨dst,.convert u d x,ty,pos,after,none⟩ :: l) (some (fr,Z)) s Q = dB E ops l (vP dst fr (lH E fr Z u d x)) s Q:=lU fun _=>El
theorem PY {t:Nat} {x:Operand}:dB E ops (⟨dst,.range t x,ty,pos,after,none⟩ :: l) (some (fr,Z)) s Q = dB E ops l (vP dst fr (oE E fr Z t x)) s Q:=lU fun _=>Hv
theorem AH {t:Nat} {x:Operand}:dB E ops (⟨dst,.makeInterface t x,ty,pos,after,none⟩ :: l) (some (fr,Z)) s Q = dB E ops l (vP dst fr (dM E fr Z t x)) s Q:=lU fun _=>vF
theorem KX {t:Nat} {r:Option Operand}:dB E ops (⟨dst,.makeMap t r,ty,pos,after,none⟩ :: l) (some (fr,Z)) s Q = dB E ops l (vP dst fr (lG E fr Z t r)) s Q:=lU fun _=>Ej
theorem Gu {t:Nat} {a c:Operand}:dB E ops (⟨dst,.makeSlice t a c,ty,pos,after,none⟩ :: l) (some (fr,Z)) s Q = dB E ops l (vP dst fr (jH E fr Z t a c)) s Q:=lU fun _=>Bc
theorem PX {t:Nat} {x:Operand} {lo hi mx:Option Operand}:dB E ops (⟨dst,.slice t x lo hi mx,ty,pos,after,none⟩ :: l) (some (fr,Z)) s Q = dB E ops l (vP dst fr (rE E fr Z t x lo hi mx)) s Q:=lU fun _=>Hu
theorem Gw {t:Nat} {x:Operand} {f:Nat}:dB E ops (⟨dst,.fieldAddr t x f,ty,pos,after,none⟩ :: l) (some (fr,Z)) s Q = dB E ops l (vP dst fr (gL E fr Z t x f)) s Q:=lU fun _=>Be
theorem P6 {t:Nat} {x:Operand} {f:Nat}:dB E ops (⟨dst,.field t x f,ty,pos,after,none⟩ :: l) (some (fr,Z)) s Q = dB E ops l (vP dst fr (pP E fr Z t x f)) s Q:=lU fun _=>Hx
theorem Gv {t:Nat} {x i:Operand}:dB E ops (⟨dst,.indexAddr t x i,ty,pos,after,none⟩ :: l) (some (fr,Z)) s Q = dB E ops l (vP dst fr (bT E fr Z t x i)) s Q:=lU fun _=>Bd
theorem P0 {t:Nat} {x i:Operand}:dB E ops (⟨dst,.index t x i,ty,pos,after,none⟩ :: l) (some (fr,Z)) s Q = dB E ops l (vP dst fr (pO E fr Z t x i)) s Q:=lU fun _=>Hw
theorem NH {t:Nat} {x k:Operand} {ok:Bool}:dB E ops (⟨dst,.lookup t x k ok,ty,pos,after,none⟩ :: l) (some (fr,Z)) s Q = dB E ops l (vP dst fr (dJ E fr Z t x k ok)) s Q:=lU fun _=>Fl
theorem Gt {t:Nat} {m k x:Operand}:dB E ops (⟨dst,.mapUpdate t m k x,ty,pos,after,none⟩ :: l) (some (fr,Z)) s Q = dB E ops l (vP dst fr (dF E fr Z t m k x)) s Q:=lU fun _=>Bb
theorem KY {t:Operand} {i:Nat}:dB E ops (⟨dst,.extract t i,ty,pos,after,none⟩ :: l) (some (fr,Z)) s Q = dB E ops l (vP dst fr (cJ E fr Z t i)) s Q:=lU fun _=>Ek
theorem SH {x:Operand}:dB E ops (⟨dst,.next x true,ty,pos,after,none⟩ :: l) (some (fr,Z)) s Q = dB E ops l (vP dst fr (uX E fr Z x)) s Q:=lU fun _=>Kc
theorem Ik {f:Nat} {a b:Array Operand}:dB E ops (⟨dst,.makeFunc (.func f) a b,ty,pos,after,none⟩ :: l) (some (fr,Z)) s Q = dB E ops l (vP dst fr (iR E fr Z f a b)) s Q:=lU fun _=>CZ
theorem K0 {b:Builtin} {args:Array Operand} {ats:Array Nat}:dB E ops (⟨dst,.call { callee:=.builtin b,args:=args,argTypes:=ats },ty,pos,after,none⟩ :: l) (some (fr,Z)) s Q = dB E ops l (vP dst fr (d_ E fr Z b args ats)) s Q:=lU fun _=>Em
theorem SL {f:Operand} {args:List Operand} {ats:Array Nat}:dB E ops (⟨dst,.call { callee:=.value f,args:=args.toArray,argTypes:=ats },ty,pos,after,none⟩ :: l) (some (fr,Z)) s Q = match aS fr f,eJ fr args with
  | some (.fn k first cap),some l'=>CV E k (first ++ l' ++ cap) Z dst fr ops l s Q
  | _,_=>False:=by
 show sK E ops (⟨dst,.call { callee:=.value f,args:=args.toArray,argTypes:=ats },ty,pos,after,none⟩ :: l) fr Z _ = _
 rw [Ba,Kg]
 rfl
theorem Od {f:Nat} {args:List V} {v:V} {σ':Sg} (h:∀ K,aB E f args Z K = K v σ'):CV E f args Z dst fr ops l s Q = dB E ops l (some (dZ fr dst v,σ')) s Q:=h _
abbrev KC (E:Env) (f:Nat) (args:List V) (Z:Sg) (v:V) (σ':Sg):Prop:=∀ (dst:Option Nat) (fr:Fr) (ops:Array Oper) (l:List Oper) (s:List kH) (Q:X -> Fr -> Sg -> Prop),CV E f args Z dst fr ops l s Q = dB E ops l (some (dZ fr dst v,σ')) s Q
theorem dO {f:Nat} {args:List V} {v:V} {σ':Sg} (h:∀ K,aB E f args Z K = K v σ'):KC E f args Z v σ':=fun _ _ _ _ _ _=>h _
theorem aL {f:Nat} {args:List V} {P:V -> Sg -> Prop} (h:aB E f args Z P) (hp:∀ v σ',P v σ' -> dB E ops l (some (dZ fr dst v,σ')) s Q):CV E f args Z dst fr ops l s Q:=h.mono hp
end
theorem iZ {E:Env} {s:List kH} {fr fr':Fr} {Z σ':Sg} {Q:X -> Fr -> Sg -> Prop} {id n:Nat} {ops:Array Oper} (h:cI E (ev E n) ops fr Z = some (fr',σ')):R E (.region id ops true) s fr Z Q = M E s .normal fr' σ' Q:=by
 unfold R
 rw [IV]
 refine propext ⟨fun ⟨m,fr1,σ1,h1,hq⟩=>?_,fun hq=>⟨n,fr',σ',h,hq⟩⟩
 have a:=tN (lN E (Nat.le_max_left n m)) h
 rw [tN (lN E (Nat.le_max_right n m)) h1] at a
 cases a
 exact hq
def mI (E:Env) (rs:List ResultVar) (K:V -> Sg -> Prop) (x:X) (fr:Fr) (Z:Sg):Prop:=match x with
 | .exit _=>False
 | _=>EC E rs K fr Z
theorem Qy {E:Env} {rs:List ResultVar} {K:V -> Sg -> Prop} {fr:Fr} {Z:Sg}:mI E rs K .ret fr Z = EC E rs K fr Z:=rfl
theorem It {E:Env} {rs:List ResultVar} {K:V -> Sg -> Prop} {fr:Fr} {Z:Sg}:mI E rs K .normal fr Z = EC E rs K fr Z:=rfl
theorem S3 {E:Env} {F:Fn} {args:List V} {Z:Sg} {K:V -> Sg -> Prop} {fr:Fr} (h:Fr.init F.ntmps args = some fr):mP E F args Z K = R E F.code [] fr Z (mI E F.results K):=by
 unfold mP
 rw [h]
 show Wp E F.code fr Z _ = Wp E F.code fr Z _
 congr 1
theorem Xd {F:FT} {u:Nat} {v:V}:(FT.set F u v).get u = v:=by rw [FT.jO,if_pos rfl]
theorem Xc {F:FT} {t u:Nat} {v:V} (h:t ≠ u):(FT.set F u v).get t = F.get t:=by rw [FT.jO,if_neg h]
def FT.fill (F:FT) (i:Nat):List V -> FT
 | []=>F
 | v :: r=>FT.fill (FT.set F i v) (i + 1) r
theorem XU {F:FT} {i:Nat}:FT.fill F i [] = F:=rfl
theorem XT {F:FT} {i:Nat} {v:V} {r:List V}:FT.fill F i (v :: r) = FT.fill (FT.set F i v) (i + 1) r:=rfl
abbrev GS:=And.intro @Xd (And.intro @Xc (And.intro @XU (And.intro @XT @Ru)))
theorem fill_eq {n:Nat}:∀ (l:List V) (F:FT) (i:Nat),i + l.length <= n -> Fr.fill ⟨n,F⟩ i l = ⟨n,FT.fill F i l⟩
 | [],_,_,_=>rfl
 | v :: l,F,i,h=>by
  simp only [List.length_cons] at h
  rw [Fr.fill,Fr.MW,if_pos (by omega),fill_eq l _ _ (by omega)]
  rfl
theorem a_ {E:Env} {F:Fn} {args:List V} {Z:Sg} {K:V -> Sg -> Prop} (h:Nat.ble args.length F.ntmps = true):mP E F args Z K = R E F.code [] ⟨F.ntmps,FT.fill .leaf 0 args⟩ Z (mI E F.results K):=by
 refine S3 ?_
 unfold Fr.init
 rw [h]
 dsimp only
 rw [fill_eq _ _ _ (by rw [Nat.zero_add]; exact Nat.le_of_ble_eq_true h)]
end
end Go.Ax
end
section
set_option maxRecDepth 10000
set_option maxHeartbeats 8000000
set_option linter.unusedVariables false
namespace Go.Proofs.YtlbbdpkjeeiahaaGreatDoor
open Go Go.Ax
abbrev KP:=(And.intro (And.intro (And.intro (And.intro (And.intro (And.intro (And.intro (And.intro @Ru @RG) (And.intro @Tk @Tj)) (And.intro (And.intro @V_ @Wa) (And.intro @Nk @PE))) (And.intro (And.intro (And.intro @Wb @Ia) (And.intro @KQ @m_lp)) (And.intro (And.intro @KO @Nj) (And.intro @Se @Sf)))) (And.intro (And.intro (And.intro (And.intro @U0 @UZ) (And.intro @Pu @Sh)) (And.intro (And.intro @U1 @GZ) (And.intro @Qy @It))) (And.intro (And.intro (And.intro @SI @NJ) (And.intro @SF @P9)) (And.intro (And.intro @Wi @P7) (And.intro @EW @SJ))))) (And.intro (And.intro (And.intro (And.intro (And.intro @PW @Ij) (And.intro @P8 @SD)) (And.intro (And.intro @KZ @PY) (And.intro @SH @AH))) (And.intro (And.intro (And.intro @Ik @KX) (And.intro @Gu @PX)) (And.intro (And.intro @Gw @P6) (And.intro @Gv @P0)))) (And.intro (And.intro (And.intro (And.intro @NH @Gt) (And.intro @KY @K0)) (And.intro (And.intro @SL @P3) (And.intro @Wh @SG))) (And.intro (And.intro (And.intro @Ax.Fr.MW @Ax.Fr.SZ) (And.intro @FT.jO @FT.tK)) (And.intro (And.intro @if_true.{1} @if_false.{1}) (And.intro @ite_true.{1} @ite_false.{1})))))) (And.intro (And.intro (And.intro (And.intro (And.intro (And.intro @true_and @and_true) (And.intro @false_and @and_false)) (And.intro (And.intro @Option.map_some.{0,0} @Option.map_none.{0,0}) (And.intro @Option.bind_some.{0,0} @Option.bind_none.{0,0}))) (And.intro (And.intro (And.intro @Option.some.injEq.{0} @Option.getD_some.{0}) (And.intro @Option.getD_none.{0} @Option.isSome_some.{0})) (And.intro (And.intro @Option.isSome_none.{0} @List.getElem?_cons_zero.{0}) (And.intro @List.getElem?_cons_succ.{0} @List.getElem?_nil.{0})))) (And.intro (And.intro (And.intro (And.intro @List.getElem?_toArray.{0} @Bool.not_true) (And.intro @Bool.not_false @Bool.or_self)) (And.intro (And.intro @Bool.or_false @Bool.false_or) (And.intro @Bool.or_true @Bool.true_or))) (And.intro (And.intro (And.intro @Bool.false_eq_true @Bool.true_eq_false) (And.intro @Bool.true_and @Bool.and_true)) (And.intro (And.intro @Bool.false_and @Bool.and_false) (And.intro @Bool.and_self @BEq.rfl.{0}))))) (And.intro (And.intro (And.intro (And.intro (And.intro @beq_self_eq_true.{0} @decide_true) (And.intro @decide_false @Nat.beq_refl)) (And.intro (And.intro @List.length_cons.{0} @List.length_nil.{0}) (And.intro @List.take_zero.{0} @List.take_succ_cons.{0}))) (And.intro (And.intro (And.intro @List.take_nil.{0} @List.drop_zero.{0}) (And.intro @List.drop_succ_cons.{0} @List.drop_nil.{0})) (And.intro (And.intro @List.append_eq.{0} @List.nil_append.{0}) (And.intro @List.cons_append.{0} @List.append_nil.{0})))) (And.intro (And.intro (And.intro (And.intro @List.set_cons_zero.{0} @List.set_cons_succ.{0}) (And.intro @Nat.zero_add @Nat.add_zero)) (And.intro (And.intro @List.all_cons.{0} @List.all_nil.{0}) (And.intro @List.head?_cons.{0} @Nat.le_refl))) (And.intro (And.intro (And.intro @Int.natCast_nonneg @E3) (And.intro @iH @Ny)) (And.intro (And.intro @Fh @Eu) (And.intro @beq_iff_eq.{0} (And.intro @Bool.not_eq_true @ne_eq.{1})))))))) (And.intro (And.intro (And.intro (And.intro (And.intro (And.intro (And.intro @not_true_eq_false @not_false_eq_true) (And.intro @gt_iff_lt.{0} @Nat.lt_irrefl)) (And.intro (And.intro @FT.fill.eq_1 @FT.fill.eq_2) (And.intro @vP.eq_1 @vP.eq_2))) (And.intro (And.intro (And.intro @Ax.yielded.eq_1 @aS.eq_1) (And.intro @aS.eq_2 @aS.eq_3)) (And.intro (And.intro @aS.eq_4 @eJ.eq_1) (And.intro @eJ.eq_2 @kQ.eq_1)))) (And.intro (And.intro (And.intro (And.intro @kQ.eq_2 @oO.eq_1) (And.intro @oO.eq_2 @Ax.ofValue.eq_1)) (And.intro (And.intro @Ax.ofValue.eq_2 @bF.eq_1) (And.intro @bF.eq_2 @bF.eq_3))) (And.intro (And.intro (And.intro @bF.eq_4 @bF.eq_5) (And.intro @bF.eq_6 @bF.eq_7)) (And.intro (And.intro @bF.eq_8 @bF.eq_9) (And.intro @Ax.ofValues.eq_1 @Ax.ofValues.eq_2))))) (And.intro (And.intro (And.intro (And.intro (And.intro @dZ.eq_1 @dZ.eq_2) (And.intro @jG.eq_1 @rF.eq_1)) (And.intro (And.intro @F8.eq_1 @pQ.eq_1) (And.intro @eY.eq_1 @gP.eq_1))) (And.intro (And.intro (And.intro @jF.eq_1 @iQ.eq_1) (And.intro @eH.eq_1 @nG.eq_1)) (And.intro (And.intro @lH.eq_1 @dM.eq_1) (And.intro @iR.eq_1 @lG.eq_1)))) (And.intro (And.intro (And.intro (And.intro @jH.eq_1 @rE.eq_1) (And.intro @gL.eq_1 @pP.eq_1)) (And.intro (And.intro @bT.eq_1 @pO.eq_1) (And.intro @dJ.eq_1 @dF.eq_1))) (And.intro (And.intro (And.intro @cJ.eq_1 @d_.eq_1) (And.intro @Ax.builtin.eq_1 @Ax.builtin.eq_2)) (And.intro (And.intro @Ax.builtin.eq_3 @Ax.builtin.eq_4) (And.intro @Ax.builtin.eq_5 (And.intro @Ax.builtin.eq_6 @Ax.builtin.eq_7))))))) (And.intro (And.intro (And.intro (And.intro (And.intro (And.intro @Ax.builtin.eq_8 @Ax.builtin.eq_9) (And.intro @Ax.builtin.eq_10 @Ax.builtin.eq_11)) (And.intro (And.intro @Ax.builtin.eq_12 @Ax.isAgg.eq_1) (And.intro @Ax.isAgg.eq_2 @Ax.isAgg.eq_3))) (And.intro (And.intro (And.intro @EY.eq_1 @EY.eq_2) (And.intro @EY.eq_3 @Ax.fieldAddr.eq_1)) (And.intro (And.intro @Ax.field.eq_1 @Ax.field.eq_2) (And.intro @Ax.part.eq_1 @Ax.bin.eq_1)))) (And.intro (And.intro (And.intro (And.intro @Ax.bin.eq_2 @Ax.bin.eq_3) (And.intro @Ax.bin.eq_4 @Ax.bin.eq_5)) (And.intro (And.intro @Ax.bin.eq_6 @Ax.bin.eq_7) (And.intro @sE.eq_1 @sE.eq_2))) (And.intro (And.intro (And.intro @sE.eq_3 @sE.eq_4) (And.intro @sE.eq_5 @sE.eq_6)) (And.intro (And.intro @sE.eq_7 @sE.eq_8) (And.intro @Ax.arith.eq_1 @Ax.arith.eq_2))))) (And.intro (And.intro (And.intro (And.intro (And.intro @Ax.arith.eq_3 @Ax.arith.eq_4) (And.intro @Ax.arith.eq_5 @Ax.arith.eq_6)) (And.intro (And.intro @Ax.arith.eq_7 @Ax.arith.eq_8) (And.intro @Ax.arith.eq_9 @Ax.arith.eq_10))) (And.intro (And.intro (And.intro @Ax.arith.eq_11 @Ax.arith.eq_12) (And.intro @Ax.arith.eq_13 @Ax.arith.eq_14)) (And.intro (And.intro @Ax.arith.eq_15 @Ax.arith.eq_16) (And.intro @Ax.unop.eq_1 @Ax.unop.eq_2)))) (And.intro (And.intro (And.intro (And.intro @Ax.unop.eq_3 @Ax.isConst.eq_1) (And.intro @Ax.isConst.eq_2 @Ax.V.aX.eq_1)) (And.intro (And.intro @Ax.V.aX.eq_2 @Ax.V.aX.eq_3) (And.intro @Ax.V.aX.eq_4 @Ax.V.cells.eq_1))) (And.intro (And.intro (And.intro @Ax.V.cells.eq_2 @Ax.setCells.eq_1) (And.intro @EC.eq_1 @Ax.results.eq_1)) (And.intro (And.intro @Ax.results.eq_2 @Ax.results.eq_3) (And.intro @Ax.Fr.init.eq_1 (And.intro @Ax.Fr.fill.eq_1 @Ax.Fr.fill.eq_2)))))))))
end Go.Proofs.YtlbbdpkjeeiahaaGreatDoor
end
section
set_option maxHeartbeats 8000000
set_option linter.unusedVariables false
namespace Go.Ax
open Go
theorem kX {a0 a1 r:Prop} (h:a0 /\ a1) (k:r):a0 /\ a1 /\ r:=by simp only [h,k,and_self]
theorem fE {a0 a1 a2 r:Prop} (h:a0 /\ a1 /\ a2) (k:r):a0 /\ a1 /\ a2 /\ r:=by simp only [h,k,and_self]
theorem fZ {a0 a1 a2 a3 r:Prop} (h:a0 /\ a1 /\ a2 /\ a3) (k:r):a0 /\ a1 /\ a2 /\ a3 /\ r:=by simp only [h,k,and_self]
theorem lY {a0 a1 a2 a3 a4 r:Prop} (h:a0 /\ a1 /\ a2 /\ a3 /\ a4) (k:r):a0 /\ a1 /\ a2 /\ a3 /\ a4 /\ r:=by simp only [h,k,and_self]
theorem CI {a0 a1 a2 a3 a4 a5 r:Prop} (h:a0 /\ a1 /\ a2 /\ a3 /\ a4 /\ a5) (k:r):a0 /\ a1 /\ a2 /\ a3 /\ a4 /\ a5 /\ r:=by simp only [h,k,and_self]
theorem D6 {a0 a1 a2 a3 a4 a5 a6 r:Prop} (h:a0 /\ a1 /\ a2 /\ a3 /\ a4 /\ a5 /\ a6) (k:r):a0 /\ a1 /\ a2 /\ a3 /\ a4 /\ a5 /\ a6 /\ r:=by simp only [h,k,and_self]
theorem Au {a0 a1 a2 a3 a4 a5 a6 a7 a8 r:Prop} (h:a0 /\ a1 /\ a2 /\ a3 /\ a4 /\ a5 /\ a6 /\ a7 /\ a8) (k:r):a0 /\ a1 /\ a2 /\ a3 /\ a4 /\ a5 /\ a6 /\ a7 /\ a8 /\ r:=by simp only [h,k,and_self]
theorem Iv {a0 a1 a2 a3 a4 a5 a6 a7 a8 a9 r:Prop} (h:a0 /\ a1 /\ a2 /\ a3 /\ a4 /\ a5 /\ a6 /\ a7 /\ a8 /\ a9) (k:r):a0 /\ a1 /\ a2 /\ a3 /\ a4 /\ a5 /\ a6 /\ a7 /\ a8 /\ a9 /\ r:=by simp only [h,k,and_self]
inductive eT {α β:Type} (P:α -> β -> Prop):List α -> List β -> Prop
 | nil:eT P [] []
 | cons {a b l m}:P a b -> eT P l m -> eT P (a :: l) (b :: m)
namespace eT
variable {α β:Type} {P Q:α -> β -> Prop} {l l':List α} {m m':List β}
theorem len (h:eT P l m):l.length = m.length:=by
 induction h with
 | nil=>rfl
 | cons _ _ ih=>simp [ih]
theorem append (h:eT P l m) (k:eT P l' m'):eT P (l ++ l') (m ++ m'):=by
 induction h with
 | nil=>exact k
 | cons p _ ih=>exact .cons p ih
theorem take (h:eT P l m):∀ n,eT P (l.take n) (m.take n):=by
 induction h with
 | nil=>intro n; rw [List.take_nil,List.take_nil]; exact .nil
 | cons p _ ih=>
  intro n
  cases n with
  | zero=>exact .nil
  | succ n=>exact .cons p (ih n)
theorem drop (h:eT P l m):∀ n,eT P (l.drop n) (m.drop n):=by
 induction h with
 | nil=>intro n; rw [List.drop_nil,List.drop_nil]; exact .nil
 | cons p q ih=>
  intro n
  cases n with
  | zero=>exact .cons p q
  | succ n=>exact ih n
theorem get (h:eT P l m):∀ (i:Nat) (x:β),m[i]? = some x -> ∃ r,l[i]? = some r /\ P r x:=by
 induction h with
 | nil=>intro i x e; cases e
 | cons p _ ih=>
  intro i x e
  cases i with
  | zero=>cases e; exact ⟨_,rfl,p⟩
  | succ i=>exact ih i x e
theorem mem (h:eT P l m) {r:α} (hr:r ∈ l):∃ x ∈ m,P r x:=by
 induction h with
 | nil=>cases hr
 | cons p _ ih=>
  rcases List.mem_cons.1 hr with rfl | hr
  ·exact ⟨_,List.mem_cons_self ..,p⟩
  ·obtain ⟨x,h1,h2⟩:=ih hr; exact ⟨x,List.mem_cons_of_mem _ h1,h2⟩
theorem imp (h:eT P l m) (k:∀ a b,P a b -> Q a b):eT Q l m:=by
 induction h with
 | nil=>exact .nil
 | cons p _ ih=>exact .cons (k _ _ p) ih
theorem one {a:α} {b:β} (p:P a b):eT P [a] [b]:=.cons p .nil
theorem map {γ:Type} {f:γ -> α} {g:γ -> β} (k:∀ c,P (f c) (g c)):∀ l:List γ,eT P (l.map f) (l.map g)
 | []=>.nil
 | c :: l=>.cons (k c) (map k l)
end eT
def bE:V -> Bool
 | .bQ .. | .dP .. | .imp .. | .bool _ | .int .. | .str _ | .fR | .aC | .bS | .qD | .qC=>true
 | _=>false
theorem aJ {c:V} (h:bE c = true):c.aX = true:=by cases c <;> first | rfl | cases h
theorem jL {Z:Sg} {ty:Nat -> Option Ty} {g:Bool} {n:Nat} {c:V} (h:bE c = true):bR Z ty g (n + 1) c = some c:=by
 cases c <;> first | rfl | cases h
theorem cR {Z:Sg} {ty:Nat -> Option Ty} {g:Bool} {c:V} (h:bE c = true) (ht:cP g c = true):aY Z ty g c = some c:=by
 have e:aY.one Z ty g c = some c:=by
  unfold aY.one
  rw [show dY = 11 + 1 from rfl,jL h]
  simp only [ht,if_true]
 cases c <;> first | exact e | cases h
theorem Dq {Z:Sg} {ty:Nat -> Option Ty} {g:Bool} {c:V} (h:bE c = true) (ht:cP g c = true):cW Z ty g c = some c:=by
 have:=cR (Z:=Z) (ty:=ty) h ht
 cases c <;> first | exact this | cases h
theorem b_ {c:V} (h:bE c = true):cP true c = true:=by cases c <;> first | rfl | cases h
theorem iS {α:Type} {f:α -> Option α}:∀ {l:List α},(∀ x ∈ l,f x = some x) -> aW f l = some l
 | [],_=>rfl
 | x :: l,h=>by rw [aW,h x (List.mem_cons_self ..),iS fun y hy=>h y (List.mem_cons_of_mem _ hy)]
theorem Bw {Z:Sg} {ty:Nat -> Option Ty} {g:Bool} {b n t:Nat} {cs:List V} {ex:Bool} {i:Ty} (hb:Z[b]? = some (.cells t cs ex)) (hty:ty t = some i) (hlen:n * i.size <= cs.length)
  (hi:∀ c ∈ cs.take (n * i.size),bE c = true /\ cP g c = true):∃ full,aY Z ty g (.sl b 0 n none) = some (.bQ g (rows i.size n (cs.take (n * i.size))) full):=by
 have hm:aW (fun v=>match bR Z ty g 11 v with
   | some v=>if cP g v then some v else no "snap: borrowed"
   | none=>none) ((cs.drop 0).take (n * i.size)) = some (cs.take (n * i.size)):=by
  rw [List.drop_zero]
  refine iS fun x hx=>?_
  rw [show 11 = 10 + 1 from rfl,jL (hi x hx).1]
  simp only [(hi x hx).2,if_true]
 refine ⟨ex && decide (0 < i.size) && (0 + n * i.size == cs.length),?_⟩
 show (match bR Z ty g 12 (.sl b 0 n none) with
  | some v=>if cP g v then some v else no "snap: borrowed"
  | none=>none) = _
 have e:bR Z ty g 12 (.sl b 0 n none) = some (.bQ g (rows i.size n (cs.take (n * i.size))) (ex && decide (0 < i.size) && (0 + n * i.size == cs.length))):=by
  rw [bR]
  simp only [hb,hty]
  rw [if_pos (by omega)]
  exact congrArg (fun o=>match o with
   | some l=>some (V.bQ g (rows i.size n l) (ex && decide (0 < i.size) && (0 + n * i.size == cs.length)))
   | none=>none) hm
 rw [e]
 show (if (g || !g) = true then _ else _) = _
 rw [if_pos (by cases g <;> rfl)]
theorem lD {sz:Nat}:∀ (rs:List (List V)),(∀ r ∈ rs,r.length = sz) -> rows sz rs.length rs.flatten = rs
 | [],_=>rfl
 | r :: rs,h=>by
  have hr:=h r (List.mem_cons_self ..)
  rw [List.length_cons,rows,List.flatten_cons,List.take_append_of_le_length (by omega),List.take_of_length_le (by omega),List.drop_append_of_le_length (by omega),List.drop_of_length_le (by omega),List.nil_append,lD rs fun x hx=>h x (List.mem_cons_of_mem _ hx)]
theorem mV {sz:Nat}:∀ (rs:List (List V)),(∀ r ∈ rs,r.length = sz) -> rs.flatten.length = rs.length * sz
 | [],_=>by simp
 | r :: rs,h=>by
  rw [List.flatten_cons,List.length_append,h r (List.mem_cons_self ..),mV rs fun x hx=>h x (List.mem_cons_of_mem _ hx),List.length_cons,Nat.succ_mul,Nat.add_comm]
theorem Co {sz:Nat}:∀ (rs:List (List V)),(∀ r ∈ rs,r.length = sz) -> ∀ (i:Nat) (r:List V),rs[i]? = some r -> (rs.flatten.drop (i * sz)).take sz = r
 | [],_,i,r,e=>by cases e
 | x :: rs,h,0,r,e=>by
  cases e
  have hr:=h x (List.mem_cons_self ..)
  rw [Nat.zero_mul,List.drop_zero,List.flatten_cons,List.take_append_of_le_length (by omega),List.take_of_length_le (by omega)]
 | x :: rs,h,i + 1,r,e=>by
  have hr:=h x (List.mem_cons_self ..)
  rw [List.flatten_cons,List.drop_append,List.drop_of_length_le (by rw [Nat.succ_mul]; omega),List.nil_append,show (i + 1) * sz - x.length = i * sz by rw [Nat.succ_mul]; omega]
  exact Co rs (fun y hy=>h y (List.mem_cons_of_mem _ hy)) i r e
structure Lay (α:Type) where
 P:List V -> α -> Prop
 n:Nat
 len:∀ r x,P r x -> r.length = n
 im:∀ r x,P r x -> ∀ c ∈ r,bE c = true
def IS {α:Type} (L:Lay α) (v:V) (l:List α):Prop:=(v = .aC /\ l = []) \/ ∃ g rs full,v = .bQ g rs full /\ eT L.P rs l
def jZ {α:Type} (L:Lay α) (v:V) (l:List α):Prop:=(v = .aC /\ l = []) \/ ∃ rs full,v = .bQ false rs full /\ eT L.P rs l
def LS {α:Type} (L:Lay α) (t:Nat) (Z:Sg) (v:V) (l:List α):Prop:=IS L v l \/ ∃ b cs ex rs,v = .sl b 0 l.length none /\ Z[b]? = some (.cells t cs ex) /\ eT L.P rs l /\ cs.take (l.length * L.n) = rs.flatten
def OS {α:Type} (L:Lay α) (t:Nat) (lo:Nat) (Z:Sg) (v:V) (l:List α):Prop:=(v = .aC /\ l = []) \/ ∃ b rs,lo <= b /\ v = .sl b 0 l.length none /\ Z[b]? = some (.cells t rs.flatten false) /\ eT L.P rs l
section
variable {α:Type} {L:Lay α} {E:Env} {Z:Sg} {v:V} {l:List α} {t:Nat}
theorem jZ.is (h:jZ L v l):IS L v l:=h.imp id fun ⟨rs,full,e,a⟩=>⟨false,rs,full,e,a⟩
theorem IS.ls (h:IS L v l) (Z:Sg) (t:Nat):LS L t Z v l:=.inl h
theorem IS.bE (h:IS L v l):bE v = true:=by rcases h with ⟨rfl,-⟩ | ⟨_,_,_,rfl,-⟩ <;> rfl
theorem jZ.tag (h:jZ L v l):cP false v = true:=by rcases h with ⟨rfl,-⟩ | ⟨_,_,rfl,-⟩ <;> rfl
theorem Lay.lens {rs:List (List V)} (h:eT L.P rs l):∀ r ∈ rs,r.length = L.n:=fun r hr=>by
 obtain ⟨x,-,hx⟩:=h.mem hr
 exact L.len r x hx
theorem Lay.flat {rs:List (List V)} (h:eT L.P rs l):rs.flatten.length = l.length * L.n:=by rw [mV rs (Lay.lens h),h.len]
theorem OS.ls {lo:Nat} (h:OS L t lo Z v l):LS L t Z v l:=by
 rcases h with h | ⟨b,rs,-,e,hb,ha⟩
 ·exact .inl (.inl h)
 ·exact .inr ⟨b,_,_,rs,e,hb,ha,List.take_of_length_le (by rw [Lay.flat ha]; exact Nat.le_refl _)⟩
theorem LS.keep {Y:Sg} (h:LS L t Z v l) (k:∀ (b t:Nat) (cs:List V) (ex:Bool),Z[b]? = some (.cells t cs ex) -> Y[b]? = some (.cells t cs ex)):LS L t Y v l:=
 h.imp id fun ⟨b,cs,ex,rs,e,hb,r⟩=>⟨b,cs,ex,rs,e,k _ _ _ _ hb,r⟩
theorem OS.keep {Y:Sg} {lo:Nat} (h:OS L t lo Z v l) (k:∀ (b t:Nat) (cs:List V) (ex:Bool),lo <= b -> Z[b]? = some (.cells t cs ex) -> Y[b]? = some (.cells t cs ex)):OS L t lo Y v l:=
 h.imp id fun ⟨b,rs,hl,e,hb,r⟩=>⟨b,rs,hl,e,k _ _ _ _ hl hb,r⟩
theorem nD {ts e:Nat} {si:Ty} (hts:E.ty ts = some si) (hk:si.kd = .sl e) (h:LS L t Z v l):lenOf E Z ts v = some l.length:=by
 unfold lenOf
 rw [hts]
 simp only [hk]
 rcases h with (⟨rfl,rfl⟩ | ⟨g,rs,full,rfl,ha⟩) | ⟨b,cs,ex,rs,rfl,-⟩
 ·rfl
 ·show some rs.length = _; rw [ha.len]
 ·rfl
theorem Ea {ts:Nat} {si ei:Ty} (hts:E.ty ts = some si) (hk:si.kd = .sl t) (ht:E.ty t = some ei) (hn:ei.size = L.n) (h:LS L t Z v l) {i:Nat} {x:α} (hx:l[i]? = some x) :
  ∃ p r,indexAddr E ts v (.int .i64 (i:Int)) = some p /\ L.P r x /\ (isAgg ei.kd = true -> loadAt E Z t p = some (.agg r)) /\ (isAgg ei.kd = false -> 0 < L.n -> loadAt E Z t p = r.head?) /\
   ((∃ g,p = .dP g r) \/ ∃ b o,p = .ref b o /\ ∃ u cs ex,Z[b]? = some (.cells u cs ex) /\ o + L.n <= cs.length /\ (cs.drop o).take L.n = r):=by
 have hneg:¬ ((i:Int) < 0):=by omega
 obtain ⟨kd,size,bytes,zero⟩:=si
 replace hk:kd = .sl t:=hk
 subst hk
 rcases h with (⟨rfl,rfl⟩ | ⟨g,rs,full,rfl,ha⟩) | ⟨b,cs,ex,rs,rfl,hb,ha,hc⟩
 ·cases hx
 ·obtain ⟨r,hr,hp⟩:=ha.get i x hx
  have hl:=L.len r x hp
  refine ⟨.dP g r,r,?_,hp,fun hg=>?_,fun hg hn0=>?_,.inl ⟨g,rfl⟩⟩
  ·unfold indexAddr
   simp only [hneg,if_false,hts,ht,Int.toNat_natCast,hr]
   rw [if_pos (by rw [hl,hn]; exact BEq.rfl)]
  ·unfold loadAt
   simp only [ht,hg,if_true]
   rw [if_pos (by omega),List.take_of_length_le (by omega)]
  ·unfold loadAt
   simp only [ht,hg,Bool.false_eq_true,if_false]
 ·obtain ⟨r,hr,hp⟩:=ha.get i x hx
  have hi:=(List.getElem?_eq_some_iff.1 hx).1
  have hl:=L.len r x hp
  have hfl:=Lay.flat ha
  have hlen:l.length * L.n <= cs.length:=by
   have:=congrArg List.length hc
   rw [List.length_take,hfl] at this
   omega
  have him:(i + 1) * L.n <= l.length * L.n:=Nat.mul_le_mul_right _ hi
  rw [Nat.succ_mul] at him
  have ho:i * L.n + L.n <= cs.length:=by omega
  have hd:(cs.drop (i * L.n)).take L.n = r:=by
   have:=Co rs (Lay.lens ha) i r hr
   rw [<- hc,List.drop_take,List.take_take,Nat.min_eq_left (by omega)] at this
   exact this
  refine ⟨.ref b (i * L.n),r,?_,hp,fun hg=>?_,fun hg hn0=>?_,.inr ⟨b,_,rfl,_,_,_,hb,ho,hd⟩⟩
  ·unfold indexAddr
   simp only [hneg,if_false,hts,ht,Int.toNat_natCast]
   rw [if_pos hi,hn,Nat.zero_add]
  ·unfold loadAt
   simp only [ht,hb,hg,if_true]
   rw [hn,if_pos ho,hd]
  ·unfold loadAt
   simp only [ht,hb,hg,Bool.false_eq_true,if_false]
   rw [<- hd,List.head?_take,if_neg (by omega),List.head?_drop]
theorem AV {ei:Ty} (ht:E.ty t = some ei) (hn:ei.size = L.n) (h:LS L t Z v l):∃ v',aY Z E.ty true v = some v' /\ IS L v' l:=by
 rcases h with h | ⟨b,cs,ex,rs,rfl,hb,ha,hc⟩
 ·exact ⟨v,cR h.bE (b_ h.bE),h⟩
 ·have hlen:l.length * L.n <= cs.length:=by
   have:=congrArg List.length hc
   rw [List.length_take,Lay.flat ha] at this
   omega
  obtain ⟨full,e⟩:=Bw (g:=true) (n:=l.length) hb ht (by rw [hn]; exact hlen) (fun c hcm=>by
   rw [hn,hc] at hcm
   obtain ⟨r,hr,hcr⟩:=List.mem_flatten.1 hcm
   obtain ⟨x,-,hp⟩:=ha.mem hr
   have:=L.im r x hp c hcr
   exact ⟨this,b_ this⟩)
  refine ⟨_,e,.inr ⟨true,rs,full,?_,ha⟩⟩
  rw [hn,hc,<- ha.len,lD rs (Lay.lens ha)]
end
theorem aR {E:Env} {c:Code} {s:List kH} {w:Nat} {Q:X -> Fr -> Sg -> Prop} (I:Nat -> FT -> Sg -> Prop) (n:Nat)
  (step:∀ i F Z,i < n -> I i F Z -> (∀ F' σ',I (i + 1) F' σ' -> R E (.loop c) s ⟨w,F'⟩ σ' Q) -> R E (.loop c) s ⟨w,F⟩ Z Q)
  (fin:∀ F Z,I n F Z -> R E (.loop c) s ⟨w,F⟩ Z Q):∀ (k i:Nat) (F:FT) (Z:Sg),i + k = n -> I i F Z -> R E (.loop c) s ⟨w,F⟩ Z Q:=by
 intro k
 induction k with
 | zero=>intro i F Z e h; rw [Nat.add_zero] at e; subst e; exact fin F Z h
 | succ k ih=>intro i F Z e h; exact step i F Z (by omega) h fun F' σ' h'=>ih (i + 1) F' σ' (by omega) h'
end Go.Ax
end
section
set_option maxHeartbeats 8000000
set_option linter.unusedVariables false
namespace Go.Ax
open Go
section
def bD {α:Type} (L:Lay α) (t:Nat) (Z:Sg) (v:V) (l:List α):Prop:=(v = .aC /\ l = []) \/ ∃ b rs ex,v = .sl b 0 l.length none /\ Z[b]? = some (.cells t rs.flatten ex) /\ eT L.P rs l
def aT:V -> Option Nat
 | .sl b _ _ _=>some b
 | _=>none
def Sp (Z σ':Sg) (w:V):Prop:=∀ (c:Nat) (o:O),Z[c]? = some o -> aT w ≠ some c -> σ'[c]? = some o
section
variable {α:Type} {L:Lay α} {E:Env} {Z:Sg} {w x:V} {l m:List α} {t ts:Nat} {si ei:Ty} {ats:Array Nat}
theorem bD.ls (h:bD L t Z w l):LS L t Z w l:=by
 rcases h with h | ⟨b,rs,ex,e,hb,ha⟩
 ·exact .inl (.inl h)
 ·exact .inr ⟨b,_,_,rs,e,hb,ha,List.take_of_length_le (by rw [Lay.flat ha]; exact Nat.le_refl _)⟩
theorem bD.keep {σ':Sg} (h:bD L t Z w l) (k:∀ c o,aT w = some c -> Z[c]? = some o -> σ'[c]? = some o):bD L t σ' w l:=by
 rcases h with h | ⟨b,rs,ex,rfl,hb,ha⟩
 ·exact .inl h
 ·exact .inr ⟨b,rs,ex,rfl,k b _ rfl hb,ha⟩
theorem bD.app (h:bD L t Z w l) (Y:Sg):bD L t (Z ++ Y) w l:=h.keep fun c o _ e=>by
 rw [List.getElem?_append_left (List.getElem?_eq_some_iff.1 e).1]; exact e
theorem Sp.refl (Z:Sg) (w:V):Sp Z Z w:=fun _ _ h _=>h
theorem eS {a b c:Nat} (h:roomy b c = true) (hab:a <= b):roomy a c = true:=by
 unfold roomy at h ⊢
 rw [decide_eq_true_eq] at h ⊢
 generalize 281474976710656 = B at h ⊢
 have h2:(2 * a + 256) * (c + 1) <= (2 * b + 256) * (c + 1):=Nat.mul_le_mul_right _ (Nat.add_le_add_right (Nat.mul_le_mul_left 2 hab) 256)
 exact Nat.le_trans h2 h
theorem Dy {a b c:Nat} (h:roomy b c = true) (hab:a <= b):pM a c = true:=by
 unfold roomy at h
 unfold pM
 rw [decide_eq_true_eq] at h ⊢
 generalize 281474976710656 = B at h ⊢
 have h2:a * (c + 1) <= (2 * b + 256) * (c + 1):=Nat.mul_le_mul_right _ (by omega)
 exact Nat.le_trans h2 h
theorem jR (hts:E.ty ts = some si) (hk:si.kd = .sl t) (ht:E.ty t = some ei) (hn:ei.size = L.n) (hn0:0 < L.n) (hpl:iL E ats = true) (hats:ats[0]? = some ts) (h:bD L t Z w l) {new:List (List V)}
  (hx:elems Z ei.size x = some (new.flatten,m.length)) (hm:eT L.P new m) (hr:roomy (l.length + m.length) ei.bytes = true) :
  ∃ w' σ',append E Z ats w x = some (w',σ') /\ bD L t σ' w' (l ++ m) /\ Sp Z σ' w /\ Z.length <= σ'.length /\ ∀ b,aT w' = some b -> aT w = some b \/ Z.length <= b:=by
 obtain ⟨kd,size,bytes,zero⟩:=si
 replace hk:kd = .sl t:=hk
 subst hk
 have hfm:=Lay.flat hm
 have hne:(ei.size == 0) = false:=by rw [hn]; simp; omega
 have hr2:pM m.length ei.bytes = true:=Dy hr (by omega)
 unfold append
 simp only [hats,hts,ht,hpl,hne,hx,Bool.not_true,Bool.or_self,Bool.false_eq_true,if_false]
 rcases h with ⟨rfl,rfl⟩ | ⟨b,rs,ex,rfl,hbk,ha⟩
 ·by_cases h0:m.length = 0
  ·simp only [h0,if_true]
   obtain rfl:=List.length_eq_zero_iff.1 h0
   exact ⟨_,_,rfl,.inl ⟨rfl,rfl⟩,Sp.refl _ _,Nat.le_refl _,fun b e=>by cases e⟩
  ·simp only [h0,if_false,hr2,if_true]
   refine ⟨_,_,rfl,.inr ⟨Z.length,new,false,by rw [List.nil_append],by simp,by rw [List.nil_append]; exact hm⟩,fun c o e _=>?_,by simp,fun b e=>by cases e; exact .inr (Nat.le_refl _)⟩
   rw [List.getElem?_append_left (List.getElem?_eq_some_iff.1 e).1]; exact e
 ·have hfa:=Lay.flat ha
  have hlt:=(List.getElem?_eq_some_iff.1 hbk).1
  have hform:(t == t && decide (l.length * ei.size <= rs.flatten.length) && roomy (l.length + m.length) ei.bytes) = true:=by
   rw [hr,hfa,hn]; simp
  simp only [hbk,Nat.zero_add,hform,Bool.not_true,Bool.false_eq_true,if_false]
  by_cases h0:m.length = 0
  ·obtain rfl:=List.length_eq_zero_iff.1 h0
   have hnew:new = []:=by
    have:=hm.len
    exact List.length_eq_zero_iff.1 (by simpa using this)
   subst hnew
   rw [if_pos (by rw [hfa,hn]; simp)]
   refine ⟨_,_,rfl,.inr ⟨b,rs,ex,by simp,?_,by simpa using ha⟩,fun c o e hne=>?_,by simp,fun b e=>.inl e⟩
   ·rw [List.getElem?_set_self hlt]
    unfold setCells
    rw [hn,List.take_of_length_le (by rw [hfa]; exact Nat.le_refl _),List.drop_of_length_le (by rw [hfa]; simp)]
    simp
   ·rw [List.getElem?_set_ne (fun e2=>hne (by rw [e2]; rfl))]; exact e
  ·have hbig:¬ (l.length + m.length) * ei.size <= rs.flatten.length:=by
    rw [hfa,hn,Nat.add_mul]
    have:0 < m.length * L.n:=Nat.mul_pos (Nat.pos_of_ne_zero h0) hn0
    omega
   have htk:rs.flatten.take (l.length * ei.size) = rs.flatten:=List.take_of_length_le (by rw [hfa,hn]; exact Nat.le_refl _)
   have hfl:rs.flatten ++ new.flatten = (rs ++ new).flatten:=by simp
   simp only [hbig,if_false,if_true,htk,List.drop_zero,hfl]
   cases ex with
   | true=>
    refine ⟨_,_,rfl,.inr ⟨Z.length,rs ++ new,false,by simp,by simp,ha.append hm⟩,fun c o e _=>?_,by simp,fun b e=>by cases e; exact .inr (Nat.le_refl _)⟩
    rw [List.getElem?_append_left (List.getElem?_eq_some_iff.1 e).1]; exact e
   | false=>
    refine ⟨_,_,rfl,.inr ⟨Z.length,rs ++ new,false,by simp,by simp,ha.append hm⟩,fun c o e hne=>?_,by simp,fun b e=>by cases e; exact .inr (Nat.le_refl _)⟩
    have hc:=(List.getElem?_eq_some_iff.1 e).1
    rw [List.getElem?_append_left (by simpa using hc),List.getElem?_set_ne (fun e2=>hne (by rw [e2]; rfl))]; exact e
theorem OJ (hts:E.ty ts = some si) (hk:si.kd = .sl t) (ht:E.ty t = some ei) (hn:ei.size = L.n) (hn0:0 < L.n) (hpl:iL E ats = true) (hats:ats[0]? = some ts) {new:List (List V)}
  (hx:elems Z ei.size x = some (new.flatten,m.length)) (hm:eT L.P new m) (hr:pM m.length ei.bytes = true) :
  ∃ w' σ',append E Z ats .aC x = some (w',σ') /\ bD L t σ' w' m:=by
 obtain ⟨kd,size,bytes,zero⟩:=si
 replace hk:kd = .sl t:=hk
 subst hk
 have hne:(ei.size == 0) = false:=by rw [hn]; simp; omega
 unfold append
 simp only [hats,hts,ht,hpl,hne,hx,Bool.not_true,Bool.or_self,Bool.false_eq_true,if_false]
 by_cases h0:m.length = 0
 ·simp only [h0,if_true]
  obtain rfl:=List.length_eq_zero_iff.1 h0
  exact ⟨_,_,rfl,.inl ⟨rfl,rfl⟩⟩
 ·simp only [h0,if_false,hr,if_true]
  exact ⟨_,_,rfl,.inr ⟨Z.length,new,false,rfl,by simp,hm⟩⟩
theorem mE {r:List V} {ex:Bool} {Y:Sg} {n:Nat} (hr:r.length = n):elems (Y ++ [.cells t r ex]) n (.sl Y.length 0 1 none) = some ([r].flatten,1):=by
 unfold elems
 simp [List.take_of_length_le (Nat.le_of_eq hr),hr]
theorem Dj {rs:List (List V)} (h:eT L.P rs l):Et L.n rs = true:=by
 cases h with
 | nil=>rfl
 | cons p _=>show (_ == _) = true; rw [L.len _ _ p]; exact BEq.rfl
theorem qN (ia:IS L x l) (Z:Sg):∃ rs,elems Z L.n x = some (rs.flatten,l.length) /\ eT L.P rs l:=by
 rcases ia with ⟨rfl,rfl⟩ | ⟨g,rs,full,rfl,ha⟩
 ·exact ⟨[],rfl,.nil⟩
 ·exact ⟨rs,by unfold elems; simp only []; rw [if_pos (Dj ha),ha.len],ha⟩
theorem NZ (ia:LS L t Z x l):∃ rs,elems Z L.n x = some (rs.flatten,l.length) /\ eT L.P rs l:=by
 rcases ia with ia | ⟨b,cs,ex,rs,rfl,hb,ha,hc⟩
 ·exact qN ia Z
 ·refine ⟨rs,?_,ha⟩
  have:l.length * L.n <= cs.length:=by
   have:=congrArg List.length hc
   rw [List.length_take,Lay.flat ha] at this
   omega
  unfold elems
  simp only [hb,Nat.zero_add,List.drop_zero]
  rw [if_pos this,hc]
theorem eT.set {β γ:Type} {P:β -> γ -> Prop} {a:List β} {b:List γ} (h:eT P a b) {r:β} {y:γ} (hr:P r y):∀ i,eT P (a.set i r) (b.set i y):=by
 induction h with
 | nil=>intro i; cases i <;> exact .nil
 | cons p q ih=>
  intro i
  cases i with
  | zero=>exact .cons hr q
  | succ i=>exact .cons p (ih i)
theorem BC {sz:Nat}:∀ (rs:List (List V)) (i:Nat) (r:List V),(∀ x ∈ rs,x.length = sz) -> r.length = sz -> i < rs.length -> setCells rs.flatten (i * sz) r = (rs.set i r).flatten
 | [],i,r,_,_,h=>by simp at h
 | y :: rs,0,r,hl,hr,_=>by
  have hy:=hl y (List.mem_cons_self ..)
  unfold setCells
  rw [Nat.zero_mul,List.take_zero,List.nil_append,Nat.zero_add,List.set_cons_zero,List.flatten_cons,List.flatten_cons,hr,<- hy,List.drop_left]
 | y :: rs,i + 1,r,hl,hr,h=>by
  have hy:=hl y (List.mem_cons_self ..)
  have ih:=BC rs i r (fun x hx=>hl x (List.mem_cons_of_mem _ hx)) hr (by simpa using h)
  unfold setCells at ih ⊢
  rw [List.set_cons_succ,List.flatten_cons,List.flatten_cons,<- ih,Nat.succ_mul,List.take_append,List.drop_append,List.take_of_length_le (by omega),List.drop_of_length_le (by omega),List.nil_append,show i * sz + sz - y.length = i * sz by omega,show i * sz + sz + r.length - y.length = i * sz + r.length by omega,List.append_assoc,List.append_assoc,List.append_assoc]
theorem Kj (hts:E.ty ts = some si) (hk:si.kd = .sl t) (ht:E.ty t = some ei) (hn:ei.size = L.n) (h:bD L t Z w l) {i:Nat} (hi:i < l.length) {u:V} {y:α} (hu:L.P u.cells y) (hok:u.cells.all V.aX = true) :
  ∃ b,indexAddr E ts w (.int .i64 (i:Int)) = some (.ref b (i * L.n)) /\ aT w = some b /\ ∃ σ',storeAt E Z t (.ref b (i * L.n)) u = some σ' /\ bD L t σ' w (l.set i y) /\ Sp Z σ' w /\ σ'.length = Z.length:=by
 obtain ⟨kd,size,bytes,zero⟩:=si
 replace hk:kd = .sl t:=hk
 subst hk
 have hneg:¬ ((i:Int) < 0):=by omega
 rcases h with ⟨rfl,rfl⟩ | ⟨b,rs,ex,rfl,hbk,ha⟩
 ·simp at hi
 ·have hlt:=(List.getElem?_eq_some_iff.1 hbk).1
  have hfa:=Lay.flat ha
  have hul:=L.len _ _ hu
  have him:(i + 1) * L.n <= l.length * L.n:=Nat.mul_le_mul_right _ hi
  rw [Nat.succ_mul] at him
  have hrl:i < rs.length:=by rw [ha.len]; exact hi
  refine ⟨b,?_,rfl,_,?_,.inr ⟨b,rs.set i u.cells,ex,by rw [List.length_set],List.getElem?_set_self hlt,ha.set hu i⟩,fun c o e hne=>?_,by simp⟩
  ·unfold indexAddr
   simp only [hneg,if_false,hts,ht,Int.toNat_natCast,hi,if_true,hn,Nat.zero_add]
  ·unfold storeAt
   simp only [ht,hbk]
   rw [if_pos (by simp only [hul,hn,hok,Bool.and_true,BEq.rfl,Bool.true_and,decide_eq_true_eq]; rw [hfa]; omega),BC rs i u.cells (Lay.lens ha) hul hrl]
  ·rw [List.getElem?_set_ne (fun e2=>hne (by rw [e2]; rfl))]; exact e
theorem nY (ht:E.ty t = some ei) (hn:ei.size = L.n) (hF:∀ r x,L.P r x -> ∀ c ∈ r,cP false c = true) (h:bD L t Z w l):∃ v',cW Z E.ty false w = some v' /\ jZ L v' l:=by
 rcases h with ⟨rfl,rfl⟩ | ⟨b,rs,ex,rfl,hb,ha⟩
 ·exact ⟨.aC,rfl,.inl ⟨rfl,rfl⟩⟩
 ·have hfl:=Lay.flat ha
  have htk:rs.flatten.take (l.length * L.n) = rs.flatten:=List.take_of_length_le (by omega)
  obtain ⟨full,e⟩:=Bw (g:=false) (n:=l.length) hb ht (by rw [hn]; omega) (fun c hcm=>by
   rw [hn,htk] at hcm
   obtain ⟨r,hr,hcr⟩:=List.mem_flatten.1 hcm
   obtain ⟨x,-,hp⟩:=ha.mem hr
   exact ⟨L.im r x hp c hcr,hF r x hp c hcr⟩)
  refine ⟨_,e,.inr ⟨rs,full,?_,ha⟩⟩
  rw [hn,htk,<- ha.len,lD rs (Lay.lens ha)]
theorem BB {lo hi:Option V} {a b:Nat} (hts:E.ty ts = some si) (hk:si.kd = .sl t) (ht:E.ty t = some ei) (hn:ei.size = L.n) (ia:IS L w l) (hb:hi = none /\ b = l.length \/ hi = some (.int .i64 (b:Int))) (ha:lo = none /\ a = 0 \/ lo = some (.int .i64 (a:Int))) (hab:a <= b) (hbl:b <= l.length) :
  ∃ w',(∀ Z,slice E Z ts w lo hi none = some w') /\ IS L w' ((l.take b).drop a) /\ (jZ L w l -> jZ L w' ((l.take b).drop a)):=by
 obtain ⟨kd,size,bytes,zero⟩:=si
 replace hk:kd = .sl t:=hk
 subst hk
 have bd:∀ (n d:Nat) (o:Option V) (c:Nat),(o = none /\ c = d \/ o = some (.int .i64 (c:Int))) -> c <= n -> bound n o d = some c:=by
  intro n d o c h hc
  rcases h with ⟨rfl,rfl⟩ | rfl
  ·rfl
  ·unfold bound
   simp only []
   rw [if_pos]
   ·rfl
   ·simp only [Bool.and_eq_true,decide_eq_true_eq]; omega
 rcases ia with ⟨rfl,rfl⟩ | ⟨g,rs,full,rfl,hal⟩
 ·have hb0:b = 0:=by simpa using hbl
  subst hb0
  obtain rfl:a = 0:=by omega
  refine ⟨.aC,fun Z=>?_,.inl ⟨rfl,by simp⟩,fun _=>.inl ⟨rfl,by simp⟩⟩
  unfold slice
  simp only [hts,ht,Option.isSome_none,Bool.false_and]
  rw [show bound 0 none 0 = some 0 from rfl]
  simp only []
  rw [bd 0 0 hi 0 (by rcases hb with ⟨e,_⟩ | e; exact .inl ⟨e,rfl⟩; exact .inr e) (Nat.le_refl _)]
  simp only
  rw [bd 0 0 lo 0 ha (Nat.le_refl _)]
 ·have hlen:=hal.len
  have hres:eT L.P ((rs.drop a).take (b - a)) ((l.take b).drop a):=by
   rw [show (l.take b).drop a = (l.drop a).take (b - a) by rw [List.drop_take]]
   exact (hal.drop a).take _
  refine ⟨.bQ g ((rs.drop a).take (b - a)) (Ck none rs.length b full rs.length),fun Z=>?_,.inr ⟨g,_,_,rfl,hres⟩,fun hF=>.inr ⟨(rs.drop a).take (b - a),Ck none rs.length b full rs.length,?_,hres⟩⟩
  ·unfold slice
   simp only [hts,ht,Option.isSome_none,Bool.false_and]
   rw [hn,Dj hal]
   simp only [Bool.not_true,Bool.false_eq_true,if_false]
   rw [show bound rs.length none rs.length = some rs.length from rfl]
   simp only
   rw [bd rs.length rs.length hi b (by rw [hlen]; exact hb) (by omega)]
   simp only
   rw [bd b 0 lo a ha hab]
  ·rcases hF with ⟨e,-⟩ | ⟨_,_,e,-⟩
   ·cases e
   ·cases e; rfl
end
end
end Go.Ax
end
section
set_option maxHeartbeats 8000000
set_option linter.unusedVariables false
namespace Go.Proofs.YtlbbdpkjeeiahaaGreatDoor
open Go Go.Ax Go.AxS
section
structure bM (E:Env):Prop where
 oZ:E.ty 3 = some { kd:=.int .i64,size:=1,bytes:=8,zero:=.int .i64 0 }
 AU:E.ty 4 = some { kd:=.bool,size:=1,bytes:=1,zero:=.bool false }
 ty5:E.ty 5 = some { kd:=.int .u8,size:=1,bytes:=1,zero:=.int .u8 0 }
 cN:E.ty 9 = some { kd:=.str,size:=1,bytes:=16,zero:=.str [] }
 Bg:E.ty 22 = some { kd:=.sl 37,size:=1,bytes:=24,zero:=.aC }
 ty25:E.ty 25 = some { kd:=.int .i64,size:=1,bytes:=8,zero:=.int .i64 0 }
 aV:E.ty 28 = some { kd:=.sl 9,size:=1,bytes:=24,zero:=.aC }
 L6:E.ty 30 = some { kd:=.sl 28,size:=1,bytes:=24,zero:=.aC }
 L5:E.ty 32 = some { kd:=.sl 38,size:=1,bytes:=24,zero:=.aC }
 fF:E.ty 35 = some { kd:=.sl 75,size:=1,bytes:=24,zero:=.aC }
 bI:E.ty 37 = some { kd:=.jC [(0,9),(1,28),(2,28),(3,28),(4,35)],size:=5,bytes:=112,zero:=.agg [.str [],.aC,.aC,.aC,.aC] }
 vG:E.ty 38 = some { kd:=.sl 4,size:=1,bytes:=24,zero:=.aC }
 pV:E.ty 40 = some { kd:=.sl 46,size:=1,bytes:=24,zero:=.aC }
 fM:E.ty 46 = some { kd:=.jC [(0,4),(1,9)],size:=2,bytes:=24,zero:=.agg [.bool false,.str []] }
 L2:E.ty 56 = some { kd:=.sl 3,size:=1,bytes:=24,zero:=.aC }
 cO:E.ty 75 = some { kd:=.jC [(0,9),(1,3),(2,28),(3,28),(4,3)],size:=5,bytes:=80,zero:=.agg [.str [],.int .i64 0,.aC,.aC,.int .i64 0] }
 ty96:E.ty 96 = some { kd:=.map 9 28,size:=1,bytes:=8,zero:=.bS }
 AB:E.ty 98 = some { kd:=.map 9 4,size:=1,bytes:=8,zero:=.bS }
 zU:E.ty 104 = some { kd:=.map 9 9,size:=1,bytes:=8,zero:=.bS }
 WG:E.hspec 178 = none
 Uf:E.spec 178 = none
 Xx:E.fn 178 = some (aA Tryz.f178)
 VN:E.mode 178 = .fA
 WH:E.hspec 177 = none
 Ug:E.spec 177 = none
 Xy:E.fn 177 = some (aA Tryz.f177)
 VO:E.mode 177 = .fA
 WS:E.hspec 144 = none
 Ur:E.spec 144 = none
 XG:E.fn 144 = some (aA Tryz.f144)
 VX:E.mode 144 = .fA
 hs18:E.hspec 18 = none
 Mu:E.spec 18 = none
 fn18:E.fn 18 = some (aA Tryz.f18)
 md18:E.mode 18 = .fA
 WT:E.hspec 143 = none
 Us:E.spec 143 = none
 XH:E.fn 143 = some (aA Tryz.f143)
 VY:E.mode 143 = .fA
 W6:E.hspec 106 = none
 UB:E.spec 106 = none
 XQ:E.fn 106 = some (aA Tryz.f106)
 V7:E.mode 106 = .fA
 W7:E.hspec 105 = none
 UC:E.spec 105 = none
 XR:E.fn 105 = some (aA Tryz.f105)
 V8:E.mode 105 = .fA
 hs60:E.hspec 60 = none
 sp60:E.spec 60 = none
 fn60:E.fn 60 = some (aA Tryz.f60)
 md60:E.mode 60 = .fA
 hs38:E.hspec 38 = none
 sp38:E.spec 38 = none
 fn38:E.fn 38 = some (aA Tryz.f38)
 md38:E.mode 38 = .fA
 hs31:E.hspec 31 = none
 T0:E.spec 31 = none
 fn31:E.fn 31 = some (aA Tryz.f31)
 md31:E.mode 31 = .fA
 hs17:E.hspec 17 = none
 Mv:E.spec 17 = none
 fn17:E.fn 17 = some (aA Tryz.f17)
 md17:E.mode 17 = .fA
 W5:E.hspec 107 = none
 UA:E.spec 107 = none
 XP:E.fn 107 = some (aA Tryz.f107)
 V6:E.mode 107 = .fA
 hs61:E.hspec 61 = none
 sp61:E.spec 61 = none
 fn61:E.fn 61 = some (aA Tryz.f61)
 md61:E.mode 61 = .fA
 hs13:E.hspec 13 = none
 Mx:E.spec 13 = none
 fn13:E.fn 13 = some (aA Tryz.f13)
 md13:E.mode 13 = .fA
 hs12:E.hspec 12 = none
 My:E.spec 12 = none
 fn12:E.fn 12 = some (aA Tryz.f12)
 md12:E.mode 12 = .fA
 hs59:E.hspec 59 = none
 sp59:E.spec 59 = none
 fn59:E.fn 59 = some (aA Tryz.f59)
 md59:E.mode 59 = .fA
 hs78:E.hspec 78 = none
 sp78:E.spec 78 = none
 fn78:E.fn 78 = some (aA Tryz.f78)
 md78:E.mode 78 = .shared
 hs16:E.hspec 16 = none
 Mw:E.spec 16 = none
 fn16:E.fn 16 = some (aA Tryz.f16)
 md16:E.mode 16 = .fA
 Wx:E.hspec 223 = none
 T8:E.spec 223 = none
 Xp:E.fn 223 = some (aA Tryz.f223)
 VF:E.mode 223 = .fA
 Ws:E.hspec 253 = none
 T3:E.spec 253 = none
 Xk:E.fn 253 = some (aA Tryz.f253)
 VA:E.mode 253 = .fA
 Ww:E.hspec 224 = none
 T7:E.spec 224 = none
 Xo:E.fn 224 = some (aA Tryz.f224)
 VE:E.mode 224 = .fA
 Wt:E.hspec 252 = none
 T4:E.spec 252 = none
 Xl:E.fn 252 = some (aA Tryz.f252)
 VB:E.mode 252 = .fA
 WE:E.hspec 186 = none
 Ue:E.spec 186 = none
 Xw:E.fn 186 = some (aA Tryz.f186)
 VM:E.mode 186 = .fA
 WK:E.hspec 169 = none
 Uj:E.spec 169 = none
 XA:E.fn 169 = some (aA Tryz.f169)
 VQ:E.mode 169 = .fA
 WV:E.hspec 125 = none
 Uu:E.spec 125 = none
 XJ:E.fn 125 = some (aA Tryz.f125)
 V0:E.mode 125 = .fA
 WJ:E.hspec 170 = none
 Ui:E.spec 170 = none
 Xz:E.fn 170 = some (aA Tryz.f170)
 VP:E.mode 170 = .fA
 WD:E.hspec 199 = none
 Ud:E.spec 199 = none
 Xv:E.fn 199 = some (aA Tryz.f199)
 VL:E.mode 199 = .fA
 WM:E.hspec 167 = none
 Ul:E.spec 167 = none
 XC:E.fn 167 = some (aA Tryz.f167)
 VT:E.mode 167 = .fA
 WB:E.hspec 201 = none
 Ub:E.spec 201 = none
 Xt:E.fn 201 = some (aA Tryz.f201)
 VJ:E.mode 201 = .fA
 WA:E.hspec 202 = none
 Ua:E.spec 202 = none
 Xs:E.fn 202 = some (aA Tryz.f202)
 VI:E.mode 202 = .fA
 WL:E.hspec 168 = none
 Uk:E.spec 168 = none
 XB:E.fn 168 = some (aA Tryz.f168)
 VS:E.mode 168 = .fA
 Wz:E.hspec 203 = none
 T_:E.spec 203 = none
 Xr:E.fn 203 = some (aA Tryz.f203)
 VH:E.mode 203 = .fA
 Wy:E.hspec 204 = none
 T9:E.spec 204 = none
 Xq:E.fn 204 = some (aA Tryz.f204)
 VG:E.mode 204 = .fA
 WW:E.hspec 124 = none
 Uv:E.spec 124 = none
 XK:E.fn 124 = some (aA Tryz.f124)
 V1:E.mode 124 = .fA
 W4:E.hspec 108 = none
 Uz:E.spec 108 = none
 XO:E.fn 108 = some (aA Tryz.f108)
 V5:E.mode 108 = .fA
 WR:E.hspec 145 = none
 Uq:E.spec 145 = none
 XF:E.fn 145 = some (aA Tryz.f145)
 VW:E.mode 145 = .fA
 WQ:E.hspec 146 = none
 Uo:E.spec 146 = none
 XE:E.fn 146 = some (aA Tryz.f146)
 VV:E.mode 146 = .fA
 WO:E.hspec 147 = none
 Un:E.spec 147 = none
 XD:E.fn 147 = some (aA Tryz.f147)
 VU:E.mode 147 = .fA
 WZ:E.hspec 109 = none
 Uy:E.spec 109 = none
 XN:E.fn 109 = some (aA Tryz.f109)
 V4:E.mode 109 = .fA
 hs62:E.hspec 62 = none
 sp62:E.spec 62 = none
 fn62:E.fn 62 = some (aA Tryz.f62)
 md62:E.mode 62 = .fA
 Wu:E.hspec 251 = none
 T5:E.spec 251 = none
 Xm:E.fn 251 = some (aA Tryz.f251)
 VC:E.mode 251 = .fA
 Wr:E.hspec 287 = none
 T2:E.spec 287 = none
 Xj:E.fn 287 = some (aA Tryz.f287)
 Vz:E.mode 287 = .fA
 Wq:E.hspec 308 = none
 T1:E.spec 308 = none
 Xi:E.fn 308 = some (aA Tryz.f308)
 Vy:E.mode 308 = .fA
 hs67:E.hspec 67 = none
 sp67:E.spec 67 = none
 fn67:E.fn 67 = some (aA Tryz.f67)
 md67:E.mode 67 = .fA
 hs65:E.hspec 65 = none
 sp65:E.spec 65 = none
 fn65:E.fn 65 = some (aA Tryz.f65)
 md65:E.mode 65 = .fA
 WC:E.hspec 200 = none
 Uc:E.spec 200 = none
 Xu:E.fn 200 = some (aA Tryz.f200)
 VK:E.mode 200 = .fA
 Wv:E.hspec 237 = none
 T6:E.spec 237 = none
 Xn:E.fn 237 = some (aA Tryz.f237)
 VD:E.mode 237 = .fA
 hs92:E.hspec 92 = none
 sp92:E.spec 92 = none
 fn92:E.fn 92 = some (aA Tryz.f92)
 md92:E.mode 92 = .fA
 WU:E.hspec 131 = none
 Ut:E.spec 131 = none
 XI:E.fn 131 = some (aA Tryz.f131)
 VZ:E.mode 131 = .fA
 hs97:E.hspec 97 = none
 sp97:E.spec 97 = none
 fn97:E.fn 97 = some (aA Tryz.f97)
 md97:E.mode 97 = .shared
 WY:E.hspec 110 = none
 Ux:E.spec 110 = none
 XM:E.fn 110 = some (aA Tryz.f110)
 V3:E.mode 110 = .shared
 WI:E.hspec 171 = none
 Uh:E.spec 171 = some kV
 WN:E.hspec 148 = none
 Um:E.spec 148 = some nX
 NO:E.hspec 64 = some (oJ 9)
 S9:aO E (cutAt [1,1,0,1,2,2,1,0,2,1] (aA Tryz.f177).code) = true
 Tf:aO E (cutAt [1,0,1,2,2,1,0,2,0] (aA Tryz.f106).code) = true
 Ry:g_ E (opsOf (cutAt [1,0] (aA Tryz.f105).code)) = .no
 Sk:cZ E .no (opsOf (cutAt [1,0] (aA Tryz.f105).code)) = some [⟨2,4,true,false⟩,  ⟨2,7,true,false⟩,  ⟨2,10,true,false⟩,  ⟨5,7,true,false⟩,  ⟨5,10,true,false⟩,  ⟨8,10,true,false⟩]
 Rx:g_ E (opsOf (cutAt [1,1,0,1,2,2,1,0,2,1] (aA Tryz.f105).code)) = .no
 Sj:cZ E .no (opsOf (cutAt [1,1,0,1,2,2,1,0,2,1] (aA Tryz.f105).code)) = some [⟨7,10,true,false⟩,  ⟨7,14,true,false⟩,  ⟨8,10,true,false⟩,  ⟨8,14,true,false⟩]
 S6:aO E (cutAt [1,1,1,0,1,2,2,1,0,2,1,1,0,1,2,2,1,0,2,0] (aA Tryz.f60).code) = true
 S5:aO E (cutAt [1,1,1,1,0,1,2,2,1,0,2,0] (aA Tryz.f60).code) = true
 QD:aO E (cutAt [1,1,1,1,0,1,2,2,1,0,2,1,2,2,1,0,2,1,2,2,1,0,2] (aA Tryz.f107).code) = true
 Ya:aO E (cutAt [1,1,1,1,0,1,2,2,1,0,2,0] (aA Tryz.f61).code) = true
 S4:aO E (cutAt [1,1,1,1,1,1,1,1,1,1,1,1,1,1,0,1,2,2,1,0,2,1,0,1,2,2,1,0,2,0] (aA Tryz.f61).code) = true
 Yg:aO E (cutAt [1,0,1,2,2,1,0,2,1,1,0,0] (aA Tryz.f13).code) = true
 Tc:aO E (cutAt [1,1,1,0,1,2,2,1,0,2,1,1,1,0,0] (aA Tryz.f13).code) = true
 Ta:aO E (cutAt [1,1,1,1,0,1,2,2,1,0,2,1,2,2,1,1,0,2,1,1,0,0] (aA Tryz.f13).code) = true
 S_:aO E (cutAt [1,1,1,1,1,0,1,1,0,0] (aA Tryz.f13).code) = true
 TP:g_ E (opsOf (cutAt [1,0] (aA Tryz.f59).code)) = .no
 Vl:cZ E .no (opsOf (cutAt [1,0] (aA Tryz.f59).code)) = some [⟨1,31,false,true⟩,  ⟨3,31,false,true⟩,  ⟨5,31,false,true⟩,  ⟨6,31,false,true⟩,  ⟨8,31,false,true⟩,  ⟨10,31,false,true⟩,  ⟨12,31,false,true⟩,  ⟨13,31,false,true⟩,  ⟨15,31,false,true⟩,  ⟨17,31,false,true⟩,  ⟨19,31,false,true⟩,  ⟨20,31,false,true⟩,  ⟨22,31,false,true⟩,  ⟨24,31,false,true⟩,  ⟨26,31,false,true⟩,  ⟨27,31,false,true⟩,  ⟨29,31,false,true⟩]
 TO:g_ E (opsOf (cutAt [1,1,1,0,1,2,2,1,1,0,2,1] (aA Tryz.f59).code)) = .no
 Vk:cZ E .no (opsOf (cutAt [1,1,1,0,1,2,2,1,1,0,2,1] (aA Tryz.f59).code)) = some [⟨4,38,false,true⟩,  ⟨33,38,false,true⟩,  ⟨35,38,false,true⟩]
 TI:g_ E (opsOf (cutAt [1,0] (aA Tryz.f78).code)) = .app
 Ve:cZ E .app (opsOf (cutAt [1,0] (aA Tryz.f78).code)) = some [⟨1,12,false,true⟩,  ⟨3,12,false,true⟩,  ⟨4,12,false,true⟩,  ⟨6,12,false,true⟩,  ⟨7,12,false,true⟩,  ⟨9,12,false,true⟩,  ⟨10,12,false,true⟩]
 TH:g_ E (opsOf (cutAt [1,1,0,1,2,2,1,0,2,1,0] (aA Tryz.f78).code)) = .app
 Vd:cZ E .app (opsOf (cutAt [1,1,0,1,2,2,1,0,2,1,0] (aA Tryz.f78).code)) = some []
 TR:g_ E (opsOf (cutAt [1,1,0,1,2,2,1,1,0,2,1,0] (aA Tryz.f16).code)) = .lit
 Vn:cZ E .lit (opsOf (cutAt [1,1,0,1,2,2,1,1,0,2,1,0] (aA Tryz.f16).code)) = some [⟨1,2,true,false⟩]
 Te:aO E (cutAt [1,0,1,2,2,1,1,0,2,1,1,1,0,0] (aA Tryz.f108).code) = true
 QC:aO E (cutAt [1,1,1,1,0,1,2,2,1,1,0,2,1,1,0,1,0,0] (aA Tryz.f108).code) = true
 QB:aO E (cutAt [1,1,1,1,1,0,1,2,2,1,1,0,2,1,1,0,0] (aA Tryz.f108).code) = true
 OW:g_ E (opsOf (cutAt [1,1,1,1,0,1,2,2,1,1,0,2,1,1,1,1] (aA Tryz.f147).code)) = .no
 Pv:cZ E .no (opsOf (cutAt [1,1,1,1,0,1,2,2,1,1,0,2,1,1,1,1] (aA Tryz.f147).code)) = some [⟨2,4,false,true⟩]
 X_:aO E (cutAt [1,1,0,1,1,0,0] (aA Tryz.f62).code) = true
 Td:aO E (cutAt [1,1,0,1,2,2,1,0,2,0] (aA Tryz.f110).code) = true
 QA:aO E (cutAt [1,1,0,1,2,2,1,0,2,1,0,1,0,1,2,2,1,0,2,0] (aA Tryz.f110).code) = true
def aK:Lay aZ:=⟨fun r s=>r = [.str s],1,fun _ _ h=>by rw [h]; rfl,fun _ _ h c hc=>by rw [h] at hc; cases hc with | head=>rfl | tail _ h=>cases h⟩
def eW:Lay Step:=⟨fun r x=>∃ a l,r = [.str x.out,.int .i64 x.op,a,l,.int .i64 x.n] /\ IS aK a x.args /\ IS aK l x.lits,5,fun _ _ ⟨_,_,h,_⟩=>by rw [h]; rfl,fun _ _ ⟨a,l,h,h1,h2⟩ c hc=>by
 rw [h] at hc
 simp only [List.mem_cons,List.not_mem_nil,or_false] at hc
 rcases hc with rfl | rfl | rfl | rfl | rfl
 ·rfl
 ·rfl
 ·exact h1.bE
 ·exact h2.bE
 ·rfl⟩
def dS:Lay aG:=⟨fun r x=>∃ i o a s,r = [.str x.name,i,o,a,s] /\ IS aK i x.ins /\ IS aK o x.outs /\ IS aK a x.after /\ IS eW s x.steps,5,fun _ _ ⟨_,_,_,_,h,_⟩=>by rw [h]; rfl,fun _ _ ⟨i,o,a,s,h,h1,h2,h3,h4⟩ c hc=>by
 rw [h] at hc
 simp only [List.mem_cons,List.not_mem_nil,or_false] at hc
 rcases hc with rfl | rfl | rfl | rfl | rfl
 ·rfl
 ·exact h1.bE
 ·exact h2.bE
 ·exact h3.bE
 ·exact h4.bE⟩
def CL:Lay Bool:=⟨fun r b=>r = [.bool b],1,fun _ _ h=>by rw [h]; rfl,fun _ _ h c hc=>by rw [h] at hc; cases hc with | head=>rfl | tail _ h=>cases h⟩
def EZ:Lay Int:=⟨fun r n=>r = [.int .i64 n],1,fun _ _ h=>by rw [h]; rfl,fun _ _ h c hc=>by rw [h] at hc; cases hc with | head=>rfl | tail _ h=>cases h⟩
def uQ:Lay (List Bool):=⟨fun r l=>∃ v,r = [v] /\ IS CL v l,1,fun _ _ ⟨_,h,_⟩=>by rw [h]; rfl,fun _ _ ⟨v,h,h1⟩ c hc=>by rw [h] at hc; cases hc with | head=>exact h1.bE | tail _ h=>cases h⟩
section
variable {E:Env} {Z:Sg} {v:V}
theorem fG (h:bM E) {s:aZ} {Z:Sg}:lenOf E Z 9 (.str s) = some s.length:=by
 unfold lenOf; rw [h.cN]
theorem IS.at {α:Type} {L:Lay α} {ts t:Nat} {si ei:Ty} {l:List α} (hts:E.ty ts = some si) (hk:si.kd = .sl t) (ht:E.ty t = some ei) (hn:ei.size = L.n) (h:IS L v l) {i:Nat} {x:α} (hx:l[i]? = some x) :
  ∃ g r,indexAddr E ts v (.int .i64 (i:Int)) = some (.dP g r) /\ L.P r x:=by
 obtain ⟨p,r,h1,h2,-,-,⟨g,rfl⟩ | ⟨b,o,rfl,-⟩⟩:=Ea (Z:=[]) hts hk ht hn (h.ls [] t) hx
 ·exact ⟨g,r,h1,h2⟩
 ·exfalso
  rcases h with ⟨rfl,rfl⟩ | ⟨g,rs,full,rfl,ha⟩
  ·cases hx
  ·unfold indexAddr at h1
   repeat' (split at h1)
   all_goals first
    | (cases h1; done)
    | contradiction
theorem jE (h:bM E):iL E #[28,28] = true:=by
 show (match E.ty 28 with
  | some xi=>!y_ xi.kd
  | none=>false) = true
 rw [h.aV]; rfl
theorem bL (h:bM E) {l} (ia:IS aK v l) (Z:Sg):lenOf E Z 28 v = some l.length:=nD h.aV rfl (ia.ls Z 9)
theorem Q9 (h:bM E) {l} (ia:IS aK v l) {i:Nat} {x} (hx:l[i]? = some x):∃ g r,indexAddr E 28 v (.int .i64 (i:Int)) = some (.dP g r) /\ (aK).P r x:=IS.at h.aV rfl h.cN rfl ia hx
theorem iP (h:bM E) {l} (ha:LS aK 9 Z v l):∃ v',aY Z E.ty true v = some v' /\ IS aK v' l:=AV h.cN rfl ha
theorem Ac (h:bM E):iL E #[35,35] = true:=by
 show (match E.ty 35 with
  | some xi=>!y_ xi.kd
  | none=>false) = true
 rw [h.fF]; rfl
theorem kW (h:bM E) {l} (ia:IS eW v l) (Z:Sg):lenOf E Z 35 v = some l.length:=nD h.fF rfl (ia.ls Z 75)
theorem OB (h:bM E) {l} (ia:IS eW v l) {i:Nat} {x} (hx:l[i]? = some x):∃ g r,indexAddr E 35 v (.int .i64 (i:Int)) = some (.dP g r) /\ (eW).P r x:=IS.at h.fF rfl h.cO rfl ia hx
theorem Br (h:bM E) {l} (ha:LS eW 75 Z v l):∃ v',aY Z E.ty true v = some v' /\ IS eW v' l:=AV h.cO rfl ha
theorem sX (h:bM E):iL E #[22,22] = true:=by
 show (match E.ty 22 with
  | some xi=>!y_ xi.kd
  | none=>false) = true
 rw [h.Bg]; rfl
theorem cK (h:bM E) {l} (ia:IS dS v l) (Z:Sg):lenOf E Z 22 v = some l.length:=nD h.Bg rfl (ia.ls Z 37)
theorem OC (h:bM E) {l} (ia:IS dS v l) {i:Nat} {x} (hx:l[i]? = some x):∃ g r,indexAddr E 22 v (.int .i64 (i:Int)) = some (.dP g r) /\ (dS).P r x:=IS.at h.Bg rfl h.bI rfl ia hx
theorem eR (h:bM E) {l} (ha:LS dS 37 Z v l):∃ v',aY Z E.ty true v = some v' /\ IS dS v' l:=AV h.bI rfl ha
theorem F0 (h:bM E):iL E #[38,38] = true:=by
 show (match E.ty 38 with
  | some xi=>!y_ xi.kd
  | none=>false) = true
 rw [h.vG]; rfl
theorem OE (h:bM E) {l} (ia:IS CL v l) {i:Nat} {x} (hx:l[i]? = some x):∃ g r,indexAddr E 38 v (.int .i64 (i:Int)) = some (.dP g r) /\ (CL).P r x:=IS.at h.vG rfl h.AU rfl ia hx
theorem Nt (h:bM E) {l} (ia:IS uQ v l) (Z:Sg):lenOf E Z 32 v = some l.length:=nD h.L5 rfl (ia.ls Z 38)
theorem J5 (h:bM E) {l} (ia:IS uQ v l) {i:Nat} {x} (hx:l[i]? = some x):∃ g r,indexAddr E 32 v (.int .i64 (i:Int)) = some (.dP g r) /\ (uQ).P r x:=IS.at h.L5 rfl h.vG rfl ia hx
theorem Nu (h:bM E) {l} (ia:IS EZ v l) (Z:Sg):lenOf E Z 56 v = some l.length:=nD h.L2 rfl (ia.ls Z 3)
theorem Q_ (h:bM E) {l} (ia:IS EZ v l) {i:Nat} {x} (hx:l[i]? = some x):∃ g r,indexAddr E 56 v (.int .i64 (i:Int)) = some (.dP g r) /\ (EZ).P r x:=IS.at h.L2 rfl h.oZ rfl ia hx
theorem tG (h:bM E) {g:Bool} {u:V} {r:List V}:loadAt E Z 4 (.dP g (u :: r)) = some u:=by
 unfold loadAt
 rw [h.AU]
 rfl
theorem rI (h:bM E) {g:Bool} {u:V} {r:List V}:loadAt E Z 9 (.dP g (u :: r)) = some u:=by
 unfold loadAt
 rw [h.cN]
 rfl
theorem JE (h:bM E) {g:Bool} {u:V} {r:List V}:loadAt E Z 28 (.dP g (u :: r)) = some u:=by
 unfold loadAt
 rw [h.aV]
 rfl
theorem Rq (h:bM E) {g:Bool} {v0 v1 v2 v3 v4:V}:loadAt E Z 37 (.dP g [v0,v1,v2,v3,v4]) = some (.agg [v0,v1,v2,v3,v4]):=by
 unfold loadAt
 rw [h.bI]
 rfl
theorem lX (h:bM E) {g:Bool} {u:V} {r:List V}:loadAt E Z 38 (.dP g (u :: r)) = some u:=by
 unfold loadAt
 rw [h.vG]
 rfl
theorem kS:Ax.bytes ⟨#[]⟩ = []:=rfl
theorem Lh:Ax.bytes ⟨#[46]⟩ = [46]:=rfl
theorem QI:Ax.bytes ⟨#[46,46]⟩ = [46,46]:=rfl
theorem CC:Ax.bytes ⟨#[114,117,108,101]⟩ = [114,117,108,101]:=rfl
theorem E5:Ax.bytes ⟨#[105,110]⟩ = [105,110]:=rfl
theorem Iu:Ax.bytes ⟨#[111,117,116]⟩ = [111,117,116]:=rfl
theorem N6:Ax.bytes ⟨#[97,102,116,101,114]⟩ = [97,102,116,101,114]:=rfl
theorem fI (h:bM E) {l} (ia:IS aK v l) {i:Nat} {x} (hx:l[i]? = some x):∃ g,indexAddr E 28 v (.int .i64 (i:Int)) = some (.dP g [.str x]):=by
 obtain ⟨g,r,e,hr⟩:=Q9 h ia hx
 exact ⟨g,by rw [e,show r = [.str x] from hr]⟩
theorem uH (h:bM E) {l} (ia:IS eW v l) {i:Nat} {x} (hx:l[i]? = some x):∃ g a b,indexAddr E 35 v (.int .i64 (i:Int)) = some (.dP g [.str x.out,.int .i64 x.op,a,b,.int .i64 x.n]) /\ IS aK a x.args /\ IS aK b x.lits:=by
 obtain ⟨g,r,e,a,b,hr,h1,h2⟩:=OB h ia hx
 exact ⟨g,a,b,by rw [e,hr],h1,h2⟩
theorem eL (h:bM E) {l} (ia:IS dS v l) {i:Nat} {x} (hx:l[i]? = some x):∃ g a b c d,indexAddr E 22 v (.int .i64 (i:Int)) = some (.dP g [.str x.name,a,b,c,d]) /\ IS aK a x.ins /\ IS aK b x.outs /\ IS aK c x.after /\ IS eW d x.steps:=by
 obtain ⟨g,r,e,a,b,c,d,hr,h1⟩:=OC h ia hx
 exact ⟨g,a,b,c,d,by rw [e,hr],h1⟩
theorem cV (Z:Sg) (s:aZ):aY Z E.ty true (.str s) = some (.str s):=rfl
theorem lA {α:Type} {L:Lay α} {l:List α} (ia:IS L v l) (Z:Sg):aY Z E.ty true v = some v:=cR ia.bE (b_ ia.bE)
def Hh (v:V) (x:aG):Prop:=∃ a b c d,v = .agg [.str x.name,a,b,c,d] /\ IS aK a x.ins /\ IS aK b x.outs /\ IS aK c x.after /\ IS eW d x.steps
def LM (v:V) (x:Step):Prop:=∃ a b,v = .agg [.str x.out,.int .i64 x.op,a,b,.int .i64 x.n] /\ IS aK a x.args /\ IS aK b x.lits
theorem FG {cs:List V} (hc:∀ c ∈ cs,Ax.bE c = true) (Z:Sg):aY Z E.ty true (.agg cs) = some (.agg cs):=by
 have e:aW (aY.one Z E.ty true) cs = some cs:=iS fun c hx=>by
  have:=cR (Z:=Z) (ty:=E.ty) (g:=true) (hc c hx) (b_ (hc c hx))
  have h2:=hc c hx
  cases c <;> first | exact this | cases h2
 show (match aW (aY.one Z E.ty true) cs with
  | some l=>some (V.agg l)
  | none=>none) = _
 rw [e]
theorem Hh.snap {x:aG} (h:Hh v x) (Z:Sg):aY Z E.ty true v = some v:=by
 obtain ⟨a,b,c,d,rfl,h1,h2,h3,h4⟩:=h
 refine FG (fun y hy=>?_) Z
 simp only [List.mem_cons,List.not_mem_nil,or_false] at hy
 rcases hy with rfl | rfl | rfl | rfl | rfl
 ·rfl
 ·exact h1.bE
 ·exact h2.bE
 ·exact h3.bE
 ·exact h4.bE
theorem LM.snap {x:Step} (h:LM v x) (Z:Sg):aY Z E.ty true v = some v:=by
 obtain ⟨a,b,rfl,h1,h2⟩:=h
 refine FG (fun y hy=>?_) Z
 simp only [List.mem_cons,List.not_mem_nil,or_false] at hy
 rcases hy with rfl | rfl | rfl | rfl | rfl
 ·rfl
 ·rfl
 ·exact h1.bE
 ·exact h2.bE
 ·rfl
theorem gW {a b:aZ} (e:a = b):Ax.seq a b = true:=by rw [EA]; exact decide_eq_true e
theorem fT {a b:aZ} (e:a ≠ b):Ax.seq a b = false:=by rw [EA]; exact decide_eq_false e
theorem dN {i n:Nat} (h:i < n):decide ((i:Int) < (n:Int)) = true:=decide_eq_true (by omega)
theorem dQ {i n:Nat} (h:¬ i < n):decide ((i:Int) < (n:Int)) = false:=decide_eq_false (by omega)
theorem bV (i:Nat) (h:i < 9223372036854775807):wr .i64 ((i:Int) + 1) = ((i + 1:Nat):Int):=by
 rw [yB,if_pos]
 ·exact (Int.natCast_succ i).symm
 ·have h1:lo .i64 = -9223372036854775808:=rfl
  have h2:hi .i64 = 9223372036854775807:=rfl
  rw [h1,h2,Bool.and_eq_true,decide_eq_true_eq,decide_eq_true_eq]
  omega
structure Small (x:aG):Prop where
 ins:x.ins.length <= 10
 outs:x.outs.length <= 6
 after:x.after.length <= 10
 steps:x.steps.length <= 14
 args:∀ s ∈ x.steps,s.args.length <= 8
 lits:∀ s ∈ x.steps,s.lits.length <= 3
structure Ys (x:aG):Prop where
 ins:x.ins.length <= 10
 outs:x.outs.length <= 6
 after:x.after.length <= 10
 steps:x.steps.length <= 14
 args:∀ s ∈ x.steps,s.args.length <= 8796093022208
 lits:∀ s ∈ x.steps,s.lits.length <= 8796093022208
theorem Small.mid {x:aG} (h:Small x):Ys x:=⟨h.ins,h.outs,h.after,h.steps,fun s hs=>by have:=h.args s hs; omega,fun s hs=>by have:=h.lits s hs; omega⟩
def idx:Option Nat -> Int
 | some i=>i
 | none=>-1
theorem gH {α:Type} {p:α -> Bool}:∀ {l:List α},(∀ x ∈ l,p x = false) -> bJ p l = none
 | [],_=>rfl
 | x :: l,h=>by rw [bJ,h x (List.mem_cons_self ..),gH fun y hy=>h y (List.mem_cons_of_mem _ hy)]; rfl
theorem iI {α:Type} {p:α -> Bool}:∀ {l:List α} {i:Nat} {x:α},(∀ j y,j < i -> l[j]? = some y -> p y = false) -> l[i]? = some x -> p x = true -> bJ p l = some i
 | [],i,x,_,hx,_=>by cases hx
 | y :: l,0,x,_,hx,hp=>by cases hx; rw [bJ,if_pos hp]
 | y :: l,i + 1,x,h,hx,hp=>by
  rw [bJ,if_neg (by rw [h 0 y (by omega) rfl]; simp),iI (i:=i) (x:=x) (fun j z hj hz=>h (j + 1) z (by omega) hz) hx hp]
  rfl
theorem zP {α:Type} {p:α -> Bool} {l:List α} (h:∀ j y,j < l.length -> l[j]? = some y -> p y = true):l.all p = true:=by
 rw [List.all_eq_true]; intro x hx
 obtain ⟨i,hi,e⟩:=List.getElem_of_mem hx
 exact h i x hi (by rw [List.getElem?_eq_getElem hi,e])
theorem gM {α:Type} {p:α -> Bool} {l:List α} {i:Nat} {x:α} (hx:l[i]? = some x) (hp:p x = false):l.all p = false:=by
 rw [List.all_eq_false]; exact ⟨x,List.mem_of_getElem? hx,by simp [hp]⟩
end
end
end Go.Proofs.YtlbbdpkjeeiahaaGreatDoor
end
section
set_option maxRecDepth 10000
set_option maxHeartbeats 8000000
set_option linter.unusedVariables false
namespace Go.Proofs.YtlbbdpkjeeiahaaGreatDoor
open Go Go.Ax Go.AxS
section
section
variable {E:Env} {Z:Sg} {K:V -> Sg -> Prop}
theorem IE (h:bM E) {a:V} {l:List aZ} {s:aZ} (ha:LS aK 9 Z a l) (hsm:l.length <= 4294967296):aB E 18 [a,.str s] Z K = K (.int .i64 (idx (bJ (fun x=>decide (x = s)) l))) Z:=by
 refine aB.of ?_
 obtain ⟨a',ea,ia⟩:=iP h ha
 rw [aH h.hs18 h.Mu h.fn18 h.md18 (args':=[a',.str s]) (by simp only [aW,ea,cV]),a_ (by kernel_rfl)]
 simp only [aA,Tryz.f18,KP,↓reduceIte,Nat.reduceLT,Nat.reduceAdd,Int.reduceNeg]
 have la:=bL h ia
 refine aR (fun i F Y=>Y = [] /\ F.get 0 = a' /\ F.get 1 = .str s /\ F.get 5 = .int .i64 (i:Int) /\ ∀ j y,j < i -> l[j]? = some y -> y ≠ s) l.length ?_ ?_ l.length 0 _ _ (by omega) ⟨rfl,(fE (by simp +decide only [GS,and_self]) (fun j y hj=>by omega))⟩
 ·rintro i F Y hi ⟨rfl,g0,g1,g5,hp⟩ next
  obtain ⟨x,hx⟩:∃ x,l[i]? = some x:=⟨_,List.getElem?_eq_getElem hi⟩
  obtain ⟨g,e1⟩:=fI h ia hx
  have hlt:=dN hi
  have hadd:=bV i (by omega)
  rw [aF]
  by_cases hxs:x = s
  ·have hs:=gW hxs
   simp only [KP,Ax.loadAt,↓reduceIte,Nat.reduceEqDiff,Nat.reduceLT,reduceCtorEq,Int.reduceNeg,h.cN,g0,g1,g5,la,hlt,e1,hs]
   rw [iI (i:=i) (x:=x) (fun j y hj hy=>decide_eq_false (hp j y hj hy)) hx (decide_eq_true hxs)]
   exact rfl
  ·have hs:=fT hxs
   simp only [KP,Ax.loadAt,↓reduceIte,Nat.reduceEqDiff,Nat.reduceLT,reduceCtorEq,Int.reduceNeg,h.cN,g0,g1,g5,la,hlt,e1,hs,hadd]
   refine next _ _ ⟨rfl,(fE (by simp +decide only [GS,g0,g1,and_self]) (fun j y hj hy=>?_))⟩
   rcases Nat.lt_or_ge j i with g | g
   ·exact hp j y g hy
   ·obtain rfl:j = i:=by omega
    rw [hx] at hy; cases hy; exact hxs
 ·rintro F Y ⟨rfl,g0,g1,g5,hp⟩
  have hlt:=dQ (Nat.lt_irrefl l.length)
  rw [aF]
  simp only [KP,↓reduceIte,Nat.reduceEqDiff,Nat.reduceLT,reduceCtorEq,Int.reduceNeg,g0,g5,la,hlt]
  rw [gH fun x hx=>by
   obtain ⟨j,hj,e⟩:=List.getElem_of_mem hx
   exact decide_eq_false (hp j x hj (by rw [List.getElem?_eq_getElem hj,e]))]
  exact rfl
theorem rJ (h:bM E) {a:V} {l:List aZ} {s:aZ} (ha:LS aK 9 Z a l) (hsm:l.length <= 4294967296):KC E 18 [a,.str s] Z ((.int .i64 (idx (bJ (fun x=>decide (x = s)) l)))) Z:=dO fun _=>IE h ha hsm
theorem b_At (h:bM E) {a:V} {l:List aG} {s:aZ} (ha:LS dS 37 Z a l) (hsm:l.length <= 4294967296):aB E 31 [a,.str s] Z K = K (.int .i64 (idx (fN l s))) Z:=by
 refine aB.of ?_
 obtain ⟨a',ea,ia⟩:=eR h ha
 rw [aH h.hs31 h.T0 h.fn31 h.md31 (args':=[a',.str s]) (by simp only [aW,ea,cV]),a_ (by kernel_rfl)]
 simp only [aA,Tryz.f31,KP,↓reduceIte,Nat.reduceLT,Nat.reduceAdd,Int.reduceNeg]
 have la:=cK h ia
 refine aR (fun i F Y=>Y = [] /\ F.get 0 = a' /\ F.get 1 = .str s /\ F.get 5 = .int .i64 (i:Int) /\ ∀ j y,j < i -> l[j]? = some y -> y.name ≠ s) l.length ?_ ?_ l.length 0 _ _ (by omega) ⟨rfl,(fE (by simp +decide only [GS,and_self]) (fun j y hj=>by omega))⟩
 ·rintro i F Y hi ⟨rfl,g0,g1,g5,hp⟩ next
  obtain ⟨x,hx⟩:∃ x,l[i]? = some x:=⟨_,List.getElem?_eq_getElem hi⟩
  obtain ⟨g,a1,a2,a3,a4,e1,-⟩:=eL h ia hx
  have hlt:=dN hi
  have hadd:=bV i (by omega)
  rw [aF]
  by_cases hxs:x.name = s
  ·have hs:=gW hxs
   simp only [KP,Ax.loadAt,↓reduceIte,Nat.reduceEqDiff,Nat.reduceLT,reduceCtorEq,Int.reduceNeg,h.cN,h.bI,g0,g1,g5,la,hlt,e1,hs]
   rw [show fN l s = some i from iI (i:=i) (x:=x) (fun j y hj hy=>decide_eq_false (hp j y hj hy)) hx (decide_eq_true hxs)]
   exact rfl
  ·have hs:=fT hxs
   simp only [KP,Ax.loadAt,↓reduceIte,Nat.reduceEqDiff,Nat.reduceLT,reduceCtorEq,Int.reduceNeg,h.cN,h.bI,g0,g1,g5,la,hlt,e1,hs,hadd]
   refine next _ _ ⟨rfl,(fE (by simp +decide only [GS,g0,g1,and_self]) (fun j y hj hy=>?_))⟩
   rcases Nat.lt_or_ge j i with g | g
   ·exact hp j y g hy
   ·obtain rfl:j = i:=by omega
    rw [hx] at hy; cases hy; exact hxs
 ·rintro F Y ⟨rfl,g0,g1,g5,hp⟩
  have hlt:=dQ (Nat.lt_irrefl l.length)
  rw [aF]
  simp only [KP,↓reduceIte,Nat.reduceEqDiff,Nat.reduceLT,reduceCtorEq,Int.reduceNeg,g0,g5,la,hlt]
  rw [show fN l s = none from gH fun x hx=>by
   obtain ⟨j,hj,e⟩:=List.getElem_of_mem hx
   exact decide_eq_false (hp j x hj (by rw [List.getElem?_eq_getElem hj,e]))]
  exact rfl
theorem SQ (h:bM E) {a:V} {l:List aG} {s:aZ} (ha:LS dS 37 Z a l) (hsm:l.length <= 4294967296):KC E 31 [a,.str s] Z ((.int .i64 (idx (fN l s)))) Z:=dO fun _=>b_At h ha hsm
theorem kO {o:Option Nat}:decide ((0:Int) <= idx o) = o.isSome:=by
 cases o with
 | none=>rfl
 | some i=>exact decide_eq_true (by simp only [idx]; omega)
theorem Ch {o:Option Nat}:decide (idx o < (0:Int)) = o.isNone:=by
 cases o with
 | none=>rfl
 | some i=>exact decide_eq_false (by simp only [idx]; omega)
theorem cC {α:Type} {p:α -> Bool}:∀ {l:List α},(bJ p l).isSome = l.any p
 | []=>rfl
 | x :: l=>by
  rw [bJ,List.any_cons]
  by_cases hx:p x = true
  ·rw [if_pos hx,hx]; rfl
  ·rw [if_neg hx,Option.isSome_map,cC]; simp [hx]
theorem any_eq {l:List aZ} {s:aZ}:(l.any fun x=>decide (x = s)) = decide (s ∈ l):=by
 rw [Bool.eq_iff_iff,List.any_eq_true,decide_eq_true_eq]
 constructor
 ·rintro ⟨x,hx,e⟩; rw [decide_eq_true_eq] at e; subst e; exact hx
 ·intro hx; exact ⟨s,hx,by simp⟩
theorem Q5 (h:bM E) {a:V} {l:List aG} {s:aZ} (ha:LS dS 37 Z a l) (ho:∀ x ∈ l,x.outs.length <= 4294967296) (hsm:l.length <= 4294967296):aB E 38 [a,.str s] Z K = K (.int .i64 (idx (eV l s))) Z:=by
 refine aB.of ?_
 obtain ⟨a',ea,ia⟩:=eR h ha
 rw [aH h.hs38 h.sp38 h.fn38 h.md38 (args':=[a',.str s]) (by simp only [aW,ea,cV]),a_ (by kernel_rfl)]
 simp only [aA,Tryz.f38,KP,↓reduceIte,Nat.reduceLT,Nat.reduceAdd,Int.reduceNeg]
 have la:=cK h ia
 refine aR (fun i F Y=>Y = [] /\ F.get 0 = a' /\ F.get 1 = .str s /\ F.get 5 = .int .i64 (i:Int) /\ ∀ j y,j < i -> l[j]? = some y -> s ∉ y.outs) l.length ?_ ?_ l.length 0 _ _ (by omega) ⟨rfl,(fE (by simp +decide only [GS,and_self]) (fun j y hj=>by omega))⟩
 ·rintro i F Y hi ⟨rfl,g0,g1,g5,hp⟩ next
  obtain ⟨x,hx⟩:∃ x,l[i]? = some x:=⟨_,List.getElem?_eq_getElem hi⟩
  obtain ⟨g,a1,a2,a3,a4,e1,-,h2,-⟩:=eL h ia hx
  have kf:=fun (Y:Sg)=>rJ (Z:=Y) h (s:=s) (h2.ls Y 9) (ho x (List.mem_of_getElem? hx))
  have hlt:=dN hi
  have hadd:=bV i (by omega)
  rw [aF]
  by_cases hxs:s ∈ x.outs
  ·have hs:(bJ (fun y=>decide (y = s)) x.outs).isSome = true:=by rw [cC,any_eq]; exact decide_eq_true hxs
   simp only [KP,Ax.loadAt,↓reduceIte,Nat.reduceEqDiff,Nat.reduceLT,reduceCtorEq,Int.reduceNeg,h.aV,h.bI,g0,g1,g5,la,hlt,e1,kf,kO,hs]
   rw [show eV l s = some i from iI (i:=i) (x:=x) (fun j y hj hy=>decide_eq_false (hp j y hj hy)) hx (decide_eq_true hxs)]
   exact rfl
  ·have hs:(bJ (fun y=>decide (y = s)) x.outs).isSome = false:=by rw [cC,any_eq]; exact decide_eq_false hxs
   simp only [KP,Ax.loadAt,↓reduceIte,Nat.reduceEqDiff,Nat.reduceLT,reduceCtorEq,Int.reduceNeg,h.aV,h.bI,g0,g1,g5,la,hlt,e1,kf,kO,hs,hadd]
   refine next _ _ ⟨rfl,(fE (by simp +decide only [GS,g0,g1,and_self]) (fun j y hj hy=>?_))⟩
   rcases Nat.lt_or_ge j i with g | g
   ·exact hp j y g hy
   ·obtain rfl:j = i:=by omega
    rw [hx] at hy; cases hy; exact hxs
 ·rintro F Y ⟨rfl,g0,g1,g5,hp⟩
  have hlt:=dQ (Nat.lt_irrefl l.length)
  rw [aF]
  simp only [KP,↓reduceIte,Nat.reduceEqDiff,Nat.reduceLT,reduceCtorEq,Int.reduceNeg,g0,g5,la,hlt]
  rw [show eV l s = none from gH fun x hx=>by
   obtain ⟨j,hj,e⟩:=List.getElem_of_mem hx
   exact decide_eq_false (hp j x hj (by rw [List.getElem?_eq_getElem hj,e]))]
  exact rfl
theorem JK (h:bM E) {a:V} {l:List aG} {s:aZ} (ha:LS dS 37 Z a l) (ho:∀ x ∈ l,x.outs.length <= 4294967296) (hsm:l.length <= 4294967296):KC E 38 [a,.str s] Z ((.int .i64 (idx (eV l s)))) Z:=dO fun _=>Q5 h ha ho hsm
end
end
section
section
variable {E:Env} {Z:Sg} {K:V -> Sg -> Prop}
theorem Tn (h:bM E) {c:Nat}:aB E 178 [.int .u8 (c:Int)] Z K = K (.bool (sign c)) Z:=by
 refine aB.of ?_
 rw [aH h.WG h.Uf h.Xx h.VN (args':=[.int .u8 (c:Int)]) (by simp only [aW,show aY Z E.ty true (.int .u8 (c:Int)) = some (.int .u8 (c:Int)) from rfl]),a_ (by kernel_rfl)]
 have hcut:(0 <= c /\ c <= 44) \/ (45 <= c /\ c <= 45) \/ (46 <= c /\ c <= 46) \/ (47 <= c /\ c <= 47) \/ (48 <= c /\ c <= 57) \/ (58 <= c /\ c <= 64) \/ (65 <= c /\ c <= 90) \/ (91 <= c /\ c <= 94) \/ (95 <= c /\ c <= 95) \/ (96 <= c /\ c <= 96) \/ (97 <= c /\ c <= 122) \/ (123 <= c /\ 123 <= c):=by omega
 rcases hcut with ⟨h1,h2⟩ | ⟨h1,h2⟩ | ⟨h1,h2⟩ | ⟨h1,h2⟩ | ⟨h1,h2⟩ | ⟨h1,h2⟩ | ⟨h1,h2⟩ | ⟨h1,h2⟩ | ⟨h1,h2⟩ | ⟨h1,h2⟩ | ⟨h1,h2⟩ | ⟨h1,h2⟩
 ·rw [show sign c = false from by unfold sign; simp; omega]
  have q0:decide ((97:Int) <= (c:Int)) = false:=decide_eq_false (by omega)
  have q2:decide ((65:Int) <= (c:Int)) = false:=decide_eq_false (by omega)
  have q4:decide ((48:Int) <= (c:Int)) = false:=decide_eq_false (by omega)
  have q6:decide ((c:Int) = 46) = false:=decide_eq_false (by omega)
  have q7:decide ((c:Int) = 95) = false:=decide_eq_false (by omega)
  have q8:decide ((c:Int) = 45) = false:=decide_eq_false (by omega)
  simp only [aA,Tryz.f178,KP,↓reduceIte,Nat.reduceEqDiff,Nat.reduceLT,reduceCtorEq,q0,q2,q4,q6,q7,q8]
  exact rfl
 ·rw [show sign c = true from by unfold sign; simp; omega]
  have q0:decide ((97:Int) <= (c:Int)) = false:=decide_eq_false (by omega)
  have q2:decide ((65:Int) <= (c:Int)) = false:=decide_eq_false (by omega)
  have q4:decide ((48:Int) <= (c:Int)) = false:=decide_eq_false (by omega)
  have q6:decide ((c:Int) = 46) = false:=decide_eq_false (by omega)
  have q7:decide ((c:Int) = 95) = false:=decide_eq_false (by omega)
  have q8:decide ((c:Int) = 45) = true:=decide_eq_true (by omega)
  simp only [aA,Tryz.f178,KP,↓reduceIte,Nat.reduceEqDiff,Nat.reduceLT,reduceCtorEq,q0,q2,q4,q6,q7,q8]
  exact rfl
 ·rw [show sign c = true from by unfold sign; simp; omega]
  have q0:decide ((97:Int) <= (c:Int)) = false:=decide_eq_false (by omega)
  have q2:decide ((65:Int) <= (c:Int)) = false:=decide_eq_false (by omega)
  have q4:decide ((48:Int) <= (c:Int)) = false:=decide_eq_false (by omega)
  have q6:decide ((c:Int) = 46) = true:=decide_eq_true (by omega)
  simp only [aA,Tryz.f178,KP,↓reduceIte,Nat.reduceEqDiff,Nat.reduceLT,reduceCtorEq,q0,q2,q4,q6]
  exact rfl
 ·rw [show sign c = false from by unfold sign; simp; omega]
  have q0:decide ((97:Int) <= (c:Int)) = false:=decide_eq_false (by omega)
  have q2:decide ((65:Int) <= (c:Int)) = false:=decide_eq_false (by omega)
  have q4:decide ((48:Int) <= (c:Int)) = false:=decide_eq_false (by omega)
  have q6:decide ((c:Int) = 46) = false:=decide_eq_false (by omega)
  have q7:decide ((c:Int) = 95) = false:=decide_eq_false (by omega)
  have q8:decide ((c:Int) = 45) = false:=decide_eq_false (by omega)
  simp only [aA,Tryz.f178,KP,↓reduceIte,Nat.reduceEqDiff,Nat.reduceLT,reduceCtorEq,q0,q2,q4,q6,q7,q8]
  exact rfl
 ·rw [show sign c = true from by unfold sign; simp; omega]
  have q0:decide ((97:Int) <= (c:Int)) = false:=decide_eq_false (by omega)
  have q2:decide ((65:Int) <= (c:Int)) = false:=decide_eq_false (by omega)
  have q4:decide ((48:Int) <= (c:Int)) = true:=decide_eq_true (by omega)
  have q5:decide ((c:Int) <= 57) = true:=decide_eq_true (by omega)
  simp only [aA,Tryz.f178,KP,↓reduceIte,Nat.reduceEqDiff,Nat.reduceLT,reduceCtorEq,q0,q2,q4,q5]
  exact rfl
 ·rw [show sign c = false from by unfold sign; simp; omega]
  have q0:decide ((97:Int) <= (c:Int)) = false:=decide_eq_false (by omega)
  have q2:decide ((65:Int) <= (c:Int)) = false:=decide_eq_false (by omega)
  have q4:decide ((48:Int) <= (c:Int)) = true:=decide_eq_true (by omega)
  have q5:decide ((c:Int) <= 57) = false:=decide_eq_false (by omega)
  have q6:decide ((c:Int) = 46) = false:=decide_eq_false (by omega)
  have q7:decide ((c:Int) = 95) = false:=decide_eq_false (by omega)
  have q8:decide ((c:Int) = 45) = false:=decide_eq_false (by omega)
  simp only [aA,Tryz.f178,KP,↓reduceIte,Nat.reduceEqDiff,Nat.reduceLT,reduceCtorEq,q0,q2,q4,q5,q6,q7,q8]
  exact rfl
 ·rw [show sign c = true from by unfold sign; simp; omega]
  have q0:decide ((97:Int) <= (c:Int)) = false:=decide_eq_false (by omega)
  have q2:decide ((65:Int) <= (c:Int)) = true:=decide_eq_true (by omega)
  have q3:decide ((c:Int) <= 90) = true:=decide_eq_true (by omega)
  simp only [aA,Tryz.f178,KP,↓reduceIte,Nat.reduceEqDiff,Nat.reduceLT,reduceCtorEq,q0,q2,q3]
  exact rfl
 ·rw [show sign c = false from by unfold sign; simp; omega]
  have q0:decide ((97:Int) <= (c:Int)) = false:=decide_eq_false (by omega)
  have q2:decide ((65:Int) <= (c:Int)) = true:=decide_eq_true (by omega)
  have q3:decide ((c:Int) <= 90) = false:=decide_eq_false (by omega)
  have q4:decide ((48:Int) <= (c:Int)) = true:=decide_eq_true (by omega)
  have q5:decide ((c:Int) <= 57) = false:=decide_eq_false (by omega)
  have q6:decide ((c:Int) = 46) = false:=decide_eq_false (by omega)
  have q7:decide ((c:Int) = 95) = false:=decide_eq_false (by omega)
  have q8:decide ((c:Int) = 45) = false:=decide_eq_false (by omega)
  simp only [aA,Tryz.f178,KP,↓reduceIte,Nat.reduceEqDiff,Nat.reduceLT,reduceCtorEq,q0,q2,q3,q4,q5,q6,q7,q8]
  exact rfl
 ·rw [show sign c = true from by unfold sign; simp; omega]
  have q0:decide ((97:Int) <= (c:Int)) = false:=decide_eq_false (by omega)
  have q2:decide ((65:Int) <= (c:Int)) = true:=decide_eq_true (by omega)
  have q3:decide ((c:Int) <= 90) = false:=decide_eq_false (by omega)
  have q4:decide ((48:Int) <= (c:Int)) = true:=decide_eq_true (by omega)
  have q5:decide ((c:Int) <= 57) = false:=decide_eq_false (by omega)
  have q6:decide ((c:Int) = 46) = false:=decide_eq_false (by omega)
  have q7:decide ((c:Int) = 95) = true:=decide_eq_true (by omega)
  simp only [aA,Tryz.f178,KP,↓reduceIte,Nat.reduceEqDiff,Nat.reduceLT,reduceCtorEq,q0,q2,q3,q4,q5,q6,q7]
  exact rfl
 ·rw [show sign c = false from by unfold sign; simp; omega]
  have q0:decide ((97:Int) <= (c:Int)) = false:=decide_eq_false (by omega)
  have q2:decide ((65:Int) <= (c:Int)) = true:=decide_eq_true (by omega)
  have q3:decide ((c:Int) <= 90) = false:=decide_eq_false (by omega)
  have q4:decide ((48:Int) <= (c:Int)) = true:=decide_eq_true (by omega)
  have q5:decide ((c:Int) <= 57) = false:=decide_eq_false (by omega)
  have q6:decide ((c:Int) = 46) = false:=decide_eq_false (by omega)
  have q7:decide ((c:Int) = 95) = false:=decide_eq_false (by omega)
  have q8:decide ((c:Int) = 45) = false:=decide_eq_false (by omega)
  simp only [aA,Tryz.f178,KP,↓reduceIte,Nat.reduceEqDiff,Nat.reduceLT,reduceCtorEq,q0,q2,q3,q4,q5,q6,q7,q8]
  exact rfl
 ·rw [show sign c = true from by unfold sign; simp; omega]
  have q0:decide ((97:Int) <= (c:Int)) = true:=decide_eq_true (by omega)
  have q1:decide ((c:Int) <= 122) = true:=decide_eq_true (by omega)
  simp only [aA,Tryz.f178,KP,↓reduceIte,Nat.reduceEqDiff,Nat.reduceLT,reduceCtorEq,q0,q1]
  exact rfl
 ·rw [show sign c = false from by unfold sign; simp; omega]
  have q0:decide ((97:Int) <= (c:Int)) = true:=decide_eq_true (by omega)
  have q1:decide ((c:Int) <= 122) = false:=decide_eq_false (by omega)
  have q2:decide ((65:Int) <= (c:Int)) = true:=decide_eq_true (by omega)
  have q3:decide ((c:Int) <= 90) = false:=decide_eq_false (by omega)
  have q4:decide ((48:Int) <= (c:Int)) = true:=decide_eq_true (by omega)
  have q5:decide ((c:Int) <= 57) = false:=decide_eq_false (by omega)
  have q6:decide ((c:Int) = 46) = false:=decide_eq_false (by omega)
  have q7:decide ((c:Int) = 95) = false:=decide_eq_false (by omega)
  have q8:decide ((c:Int) = 45) = false:=decide_eq_false (by omega)
  simp only [aA,Tryz.f178,KP,↓reduceIte,Nat.reduceEqDiff,Nat.reduceLT,reduceCtorEq,q0,q1,q2,q3,q4,q5,q6,q7,q8]
  exact rfl
theorem SO (h:bM E) {c:Nat}:KC E 178 [.int .u8 (c:Int)] Z (.bool (sign c)) Z:=dO fun _=>Tn h
theorem vI (h:bM E) {v:V} {l:List aZ} (ia:IS aK v l) {b:Nat} (hb:b <= l.length):∃ w,(∀ Z,Ax.slice E Z 28 v none (some (.int .i64 (b:Int))) none = some w) /\ IS aK w (l.take b):=by
 obtain ⟨w,h1,h2,-⟩:=BB (lo:=none) (hi:=some (.int .i64 (b:Int))) (a:=0) (b:=b) h.aV rfl h.cN rfl ia (.inr rfl) (.inl ⟨rfl,rfl⟩) (Nat.zero_le _) hb
 exact ⟨w,h1,by simpa using h2⟩
theorem Bh:∀ {l:List aZ} {i:Nat} {x:aZ},l[i]? = some x -> x ∈ l.take i -> j_ l = true
 | [],i,x,hx,_=>by cases hx
 | y :: l,0,x,_,h=>by simp at h
 | y :: l,i + 1,x,hx,h=>by
  have hx':l[i]? = some x:=hx
  rw [List.take_succ_cons,List.mem_cons] at h
  rw [j_]
  rcases h with h | h
  ·rw [decide_eq_true (h ▸ List.mem_of_getElem? hx')]; rfl
  ·rw [Bh hx' h]; simp
theorem yC:∀ {l:List aZ},(∀ (i:Nat) (x:aZ),l[i]? = some x -> x ∉ l.take i) -> j_ l = false
 | [],_=>rfl
 | y :: l,h=>by
  rw [j_,yC fun i x hx hm=>h (i + 1) x hx (by rw [List.take_succ_cons]; exact List.mem_cons_of_mem _ hm)]
  rw [Bool.or_false]
  refine decide_eq_false fun hy=>?_
  obtain ⟨i,hi,e⟩:=List.getElem_of_mem hy
  exact h (i + 1) y (by rw [List.getElem?_cons_succ,List.getElem?_eq_getElem hi,e]) (by rw [List.take_succ_cons]; exact List.mem_cons_self ..)
theorem QN (h:bM E) {a:V} {l:List aZ} (ha:LS aK 9 Z a l) (hsm:l.length <= 4294967296):aB E 106 [a] Z K = K (.bool (j_ l)) Z:=by
 refine aB.of ?_
 obtain ⟨a',ea,ia⟩:=iP h ha
 rw [aH h.W6 h.UB h.XQ h.V7 (args':=[a']) (by simp only [aW,ea]),a_ (by kernel_rfl)]
 simp only [aA,Tryz.f106,KP,↓reduceIte,Nat.reduceLT]
 have la:=bL h ia
 have d4:=h.Tf
 simp only [aA,Tryz.f106,cutAt,Option.getD_some] at d4
 refine aR (fun i F Y=>Y = [] /\ F.get 0 = a' /\ F.get 3 = .int .i64 (i:Int) /\ ∀ j y,j < i -> l[j]? = some y -> y ∉ l.take j) l.length ?_ ?_ l.length 0 _ _ (by omega) ⟨rfl,(kX (by simp +decide only [GS,and_self]) (fun j y hj=>by omega))⟩
 ·rintro i F Y hi ⟨rfl,g0,g3,hp⟩ next
  obtain ⟨x,hx⟩:∃ x,l[i]? = some x:=⟨_,List.getElem?_eq_getElem hi⟩
  obtain ⟨g,e1⟩:=fI h ia hx
  obtain ⟨w,e2,iw⟩:=vI h ia (Nat.le_of_lt hi)
  have hlt:=dN hi
  have hadd:=bV i (by omega)
  have kf:=fun (Y:Sg)=>rJ (Z:=Y) h (s:=x) (iw.ls Y 9) (by rw [List.length_take]; omega)
  rw [aF]
  by_cases hm:x ∈ l.take i
  ·have hs:(bJ (fun y=>decide (y = x)) (l.take i)).isSome = true:=by rw [cC,any_eq]; exact decide_eq_true hm
   simp only [KP,Ax.loadAt,↓reduceIte,Nat.reduceEqDiff,Nat.reduceLT,reduceCtorEq,h.cN,g0,g3,la,hlt,bA d4,bX,e1,e2,kf,kO,hs]
   rw [Bh hx hm]
   exact rfl
  ·have hs:(bJ (fun y=>decide (y = x)) (l.take i)).isSome = false:=by rw [cC,any_eq]; exact decide_eq_false hm
   simp only [KP,Ax.loadAt,↓reduceIte,Nat.reduceEqDiff,Nat.reduceLT,reduceCtorEq,h.cN,g0,g3,la,hlt,bA d4,bX,e1,e2,kf,kO,hs,hadd]
   refine next _ _ ⟨rfl,(kX (by simp +decide only [GS,g0,and_self]) (fun j y hj hy=>?_))⟩
   rcases Nat.lt_or_ge j i with g | g
   ·exact hp j y g hy
   ·obtain rfl:j = i:=by omega
    rw [hx] at hy; cases hy; exact hm
 ·rintro F Y ⟨rfl,g0,g3,hp⟩
  have hlt:=dQ (Nat.lt_irrefl l.length)
  rw [aF]
  simp only [KP,↓reduceIte,Nat.reduceEqDiff,Nat.reduceLT,reduceCtorEq,g0,g3,la,hlt]
  rw [yC fun i x hx=>hp i x (List.getElem?_eq_some_iff.1 hx).1 hx]
  exact rfl
theorem EV (h:bM E) {a:V} {l:List aZ} (ha:LS aK 9 Z a l) (hsm:l.length <= 4294967296):KC E 106 [a] Z (.bool (j_ l)) Z:=dO fun _=>QN h ha hsm
end
end
section
section
variable {E:Env} {Z:Sg} {K:V -> Sg -> Prop}
theorem min2 (k:IntKind) (a b:Int):iV false k a [.int k b] = some (if b < a then b else a):=rfl
def kG (x:Step) (A B:Int):Bool:=decide ((x.args.length:Int) = A) && (decide ((x.lits.length:Int) = B) && ((!decide (x.op = 8) || decide (x.lits.head? ≠ some [])) && (decide (0 <= x.n) && (decide (x.n <= 2000) && (decide (x.op = 9) || decide (x.n = 0))))))
theorem Sr (h:bM E) {x:Step} {a b:V} (ia:IS aK a x.args) (ib:IS aK b x.lits) {A B:Int} (h8:x.op = 8 -> (x.lits.length:Int) = B -> x.lits ≠ []) (F:FT) (g1:F.get 1 = .ref 0 0) (g3:F.get 3 = .int .i64 A) (g4:F.get 4 = .int .i64 B) (hk:K (.bool (kG x A B)) [.cells 75 [.str x.out,.int .i64 x.op,a,b,.int .i64 x.n] true]) :
  R E (cutAt [1,1,1,1] (aA Tryz.f143).code) [] ⟨85,F⟩ [.cells 75 [.str x.out,.int .i64 x.op,a,b,.int .i64 x.n] true] (mI E (aA Tryz.f143).results K):=by
 have la:=bL h ia
 have lb:=bL h ib
 unfold kG at hk
 by_cases p1:(x.args.length:Int) = A
 case neg=>
  have q1:decide ((x.args.length:Int) = A) = false:=decide_eq_false p1
  rw [q1] at hk
  simp only [aA,Tryz.f143,KP,Ax.loadAt,↓reduceIte,Nat.reduceEqDiff,Nat.reduceLT,reduceCtorEq,h.aV,h.cO,cutAt,g1,g3,la,q1]
  exact hk
 have q1:decide ((x.args.length:Int) = A) = true:=decide_eq_true p1
 by_cases p2:(x.lits.length:Int) = B
 case neg=>
  have q2:decide ((x.lits.length:Int) = B) = false:=decide_eq_false p2
  rw [q1,q2] at hk
  simp only [aA,Tryz.f143,KP,Ax.loadAt,↓reduceIte,Nat.reduceEqDiff,Nat.reduceLT,reduceCtorEq,h.aV,h.cO,cutAt,g1,g3,g4,la,lb,q1,q2]
  exact hk
 have q2:decide ((x.lits.length:Int) = B) = true:=decide_eq_true p2
 have rest:∀ (q3:(!decide (x.op = 8) || decide (x.lits.head? ≠ some [])) = true) (e:x.op = 8 -> ∃ g y,indexAddr E 28 b (.int .i64 0) = some (.dP g [.str y]) /\ Ax.seq y [] = false),R E (cutAt [1,1,1,1] (aA Tryz.f143).code) [] ⟨85,F⟩ [.cells 75 [.str x.out,.int .i64 x.op,a,b,.int .i64 x.n] true] (mI E (aA Tryz.f143).results K):=by
  intro q3 e
  rw [q1,q2,q3] at hk
  have tail:∀ (c8:Bool),decide (x.op = 8) = c8 -> (c8 = true -> ∃ g y,indexAddr E 28 b (.int .i64 0) = some (.dP g [.str y]) /\ Ax.seq y [] = false) -> R E (cutAt [1,1,1,1] (aA Tryz.f143).code) [] ⟨85,F⟩ [.cells 75 [.str x.out,.int .i64 x.op,a,b,.int .i64 x.n] true] (mI E (aA Tryz.f143).results K):=by
   intro c8 hc8 e
   by_cases p4:0 <= x.n
   case neg=>
    have q4:decide (0 <= x.n) = false:=decide_eq_false p4
    rw [q4] at hk
    cases c8 with
    | false=>
     simp only [aA,Tryz.f143,KP,Ax.loadAt,↓reduceIte,Nat.reduceEqDiff,Nat.reduceLT,reduceCtorEq,h.oZ,h.aV,h.cO,cutAt,g1,g3,g4,la,lb,q1,q2,hc8,q4]
     exact hk
    | true=>
     obtain ⟨g,y,e1,e2⟩:=e rfl
     simp only [aA,Tryz.f143,KP,Ax.loadAt,↓reduceIte,Nat.reduceEqDiff,Nat.reduceLT,reduceCtorEq,h.oZ,h.cN,h.aV,h.cO,kS,cutAt,g1,g3,g4,la,lb,q1,q2,hc8,q4,e1,e2]
     exact hk
   have q4:decide (0 <= x.n) = true:=decide_eq_true p4
   by_cases p5:x.n <= 2000
   case neg=>
    have q5:decide (x.n <= 2000) = false:=decide_eq_false p5
    rw [q4,q5] at hk
    cases c8 with
    | false=>
     simp only [aA,Tryz.f143,KP,Ax.loadAt,↓reduceIte,Nat.reduceEqDiff,Nat.reduceLT,reduceCtorEq,h.oZ,h.aV,h.cO,cutAt,g1,g3,g4,la,lb,q1,q2,hc8,q4,q5]
     exact hk
    | true=>
     obtain ⟨g,y,e1,e2⟩:=e rfl
     simp only [aA,Tryz.f143,KP,Ax.loadAt,↓reduceIte,Nat.reduceEqDiff,Nat.reduceLT,reduceCtorEq,h.oZ,h.cN,h.aV,h.cO,kS,cutAt,g1,g3,g4,la,lb,q1,q2,hc8,q4,q5,e1,e2]
     exact hk
   have q5:decide (x.n <= 2000) = true:=decide_eq_true p5
   rw [q4,q5] at hk
   by_cases p9:x.op = 9
   ·have q9:decide (x.op = 9) = true:=decide_eq_true p9
    have q8:decide (x.op = 8) = false:=decide_eq_false (by omega)
    rw [q9] at hk
    simp only [aA,Tryz.f143,KP,Ax.loadAt,↓reduceIte,Nat.reduceEqDiff,Nat.reduceLT,reduceCtorEq,h.oZ,h.aV,h.cO,cutAt,g1,g3,g4,la,lb,q1,q2,q8,q4,q5,q9]
    exact hk
   ·have q9:decide (x.op = 9) = false:=decide_eq_false p9
    by_cases p0:x.n = 0
    ·have q0:decide (x.n = 0) = true:=decide_eq_true p0
     rw [q9,q0] at hk
     cases c8 with
     | false=>
      simp only [aA,Tryz.f143,KP,Ax.loadAt,↓reduceIte,Nat.reduceEqDiff,Nat.reduceLT,reduceCtorEq,h.oZ,h.aV,h.cO,cutAt,g1,g3,g4,la,lb,q1,q2,hc8,q4,q5,q9,q0]
      exact hk
     | true=>
      obtain ⟨g,y,e1,e2⟩:=e rfl
      simp only [aA,Tryz.f143,KP,Ax.loadAt,↓reduceIte,Nat.reduceEqDiff,Nat.reduceLT,reduceCtorEq,h.oZ,h.cN,h.aV,h.cO,kS,cutAt,g1,g3,g4,la,lb,q1,q2,hc8,q4,q5,q9,q0,e1,e2]
      exact hk
    ·have q0:decide (x.n = 0) = false:=decide_eq_false p0
     rw [q9,q0] at hk
     cases c8 with
     | false=>
      simp only [aA,Tryz.f143,KP,Ax.loadAt,↓reduceIte,Nat.reduceEqDiff,Nat.reduceLT,reduceCtorEq,h.oZ,h.aV,h.cO,cutAt,g1,g3,g4,la,lb,q1,q2,hc8,q4,q5,q9,q0]
      exact hk
     | true=>
      obtain ⟨g,y,e1,e2⟩:=e rfl
      simp only [aA,Tryz.f143,KP,Ax.loadAt,↓reduceIte,Nat.reduceEqDiff,Nat.reduceLT,reduceCtorEq,h.oZ,h.cN,h.aV,h.cO,kS,cutAt,g1,g3,g4,la,lb,q1,q2,hc8,q4,q5,q9,q0,e1,e2]
      exact hk
  exact tail _ rfl fun hc=>e (of_decide_eq_true hc)
 by_cases p8:x.op = 8
 ·have hne:=h8 p8 p2
  obtain ⟨y,r,hyr⟩:=List.exists_cons_of_ne_nil hne
  obtain ⟨g,e1⟩:=fI h ib (i:=0) (x:=y) (by rw [hyr]; rfl)
  by_cases hy:y = []
  ·have e2:=gW hy
   have q8:decide (x.op = 8) = true:=decide_eq_true p8
   have q3:decide (x.lits.head? ≠ some []) = false:=decide_eq_false (by rw [hyr,hy]; simp)
   rw [q1,q2,q8,q3] at hk
   have e1:indexAddr E 28 b (.int .i64 0) = some (.dP g [.str y]):=e1
   simp only [aA,Tryz.f143,KP,Ax.loadAt,↓reduceIte,Nat.reduceEqDiff,Nat.reduceLT,reduceCtorEq,h.oZ,h.cN,h.aV,h.cO,kS,cutAt,g1,g3,g4,la,lb,q1,q2,q8,e1,e2]
   exact hk
  ·refine rest ?_ fun _=>⟨g,y,e1,fT hy⟩
   rw [show decide (x.lits.head? ≠ some []) = true from decide_eq_true (by rw [hyr]; simpa using hy),Bool.or_true]
 ·exact rest (by rw [show decide (x.op = 8) = false from decide_eq_false p8]; rfl) fun e=>absurd e p8
theorem PA (h:bM E) {x:Step} {a b:V} (ia:IS aK a x.args) (ib:IS aK b x.lits) (hsm:x.lits.length <= 4294967296) {A B:Int} (h8:x.op = 8 -> (x.lits.length:Int) = B -> x.lits ≠ []) (F:FT) (g1:F.get 1 = .ref 0 0) (g3:F.get 3 = .int .i64 A) (g4:F.get 4 = .int .i64 B) (g5:F.get 5 = .int .i64 0)
  (hk:K (.bool (x.lits.all (fun l=>decide (l.length <= 100)) && kG x A B)) [.cells 75 [.str x.out,.int .i64 x.op,a,b,.int .i64 x.n] true]) :
  R E (.loop (cutAt [1,1,1,0,1,2,2] (aA Tryz.f143).code)) [.blk 1,.k (cutAt [1,1,1,1] (aA Tryz.f143).code)] ⟨85,F⟩ [.cells 75 [.str x.out,.int .i64 x.op,a,b,.int .i64 x.n] true] (mI E (aA Tryz.f143).results K):=by
 have lb:=bL h ib
 have key:=fun F g1 g3 g4 hk=>Sr (K:=K) (A:=A) (B:=B) h ia ib h8 F g1 g3 g4 hk
 generalize cutAt [1,1,1,1] (aA Tryz.f143).code = C at key ⊢
 refine aR (fun i F Y=>Y = [.cells 75 [.str x.out,.int .i64 x.op,a,b,.int .i64 x.n] true] /\ F.get 1 = .ref 0 0 /\ F.get 3 = .int .i64 A /\ F.get 4 = .int .i64 B /\ F.get 5 = .int .i64 (i:Int) /\ ∀ j y,j < i -> x.lits[j]? = some y -> y.length <= 100) x.lits.length ?_ ?_ x.lits.length 0 _ _ (by omega) ⟨rfl,g1,g3,g4,g5,fun j y hj=>by omega⟩
 ·rintro i F Y hi ⟨rfl,g1,g3,g4,g5,hp⟩ next
  obtain ⟨y,hy⟩:∃ y,x.lits[i]? = some y:=⟨_,List.getElem?_eq_getElem hi⟩
  obtain ⟨g,e1⟩:=fI h ib hy
  have hlt:=dN hi
  have hadd:=bV i (by omega)
  rw [aF]
  by_cases hl:y.length <= 100
  ·have q:decide ((100:Int) < (y.length:Int)) = false:=decide_eq_false (by omega)
   simp only [aA,Tryz.f143,KP,Ax.loadAt,↓reduceIte,Nat.reduceEqDiff,Nat.reduceLT,reduceCtorEq,h.cN,h.aV,h.cO,fG h,cutAt,g1,g5,lb,hlt,e1,q,hadd]
   refine next _ _ ⟨rfl,(fZ (by simp +decide only [GS,g1,g3,g4,and_self]) (fun j z hj hz=>?_))⟩
   rcases Nat.lt_or_ge j i with g | g
   ·exact hp j z g hz
   ·obtain rfl:j = i:=by omega
    rw [hy] at hz; cases hz; exact hl
  ·have q:decide ((100:Int) < (y.length:Int)) = true:=decide_eq_true (by omega)
   simp only [aA,Tryz.f143,KP,Ax.loadAt,↓reduceIte,Nat.reduceEqDiff,Nat.reduceLT,reduceCtorEq,h.cN,h.aV,h.cO,fG h,cutAt,g1,g5,lb,hlt,e1,q]
   rw [gM hy (decide_eq_false hl),Bool.false_and] at hk
   exact hk
 ·rintro F Y ⟨rfl,g1,g3,g4,g5,hp⟩
  have hlt:=dQ (Nat.lt_irrefl x.lits.length)
  rw [aF]
  rw [zP fun j y _ hy=>decide_eq_true (hp j y (List.getElem?_eq_some_iff.1 hy).1 hy),Bool.true_and] at hk
  simp only [aA,Tryz.f143,KP,Ax.loadAt,↓reduceIte,Nat.reduceEqDiff,Nat.reduceLT,reduceCtorEq,h.aV,h.cO,cutAt,g1,g5,lb,hlt]
  exact key _ (by simp +decide only [GS,g1]) (by simp +decide only [GS,g3]) (by simp +decide only [GS,g4]) hk
theorem PL {n:Nat}:decide ((n:Int) = (if (6:Int) < (n:Int) then 6 else (n:Int))) = decide (n <= 6):=by
 by_cases g:(6:Int) < (n:Int)
 ·rw [if_pos g,decide_eq_false (by omega),decide_eq_false (by omega)]
 ·rw [if_neg g,decide_eq_true rfl,decide_eq_true (by omega)]
theorem end_1 {x:Step} (e:x.op = 1):(x.lits.all (fun l=>decide (l.length <= 100)) && kG x 1 0) = cB x:=by
 unfold kG cB counts
 rw [e]
 skip
 generalize x.lits.all (fun l=>decide (l.length <= 100)) = L
 generalize x.args.length = n
 generalize x.lits.length = m
 generalize x.lits.head? = hd
 generalize x.n = c
 rw [Bool.eq_iff_iff]
 by_cases hh:hd = some []
 ·cases L <;> simp [hh] <;> omega
 ·cases L <;> simp [hh] <;> omega
theorem X6 {x:Step} (e:x.op = 2):(x.lits.all (fun l=>decide (l.length <= 100)) && kG x 1 0) = cB x:=by
 unfold kG cB counts
 rw [e]
 skip
 generalize x.lits.all (fun l=>decide (l.length <= 100)) = L
 generalize x.args.length = n
 generalize x.lits.length = m
 generalize x.lits.head? = hd
 generalize x.n = c
 rw [Bool.eq_iff_iff]
 by_cases hh:hd = some []
 ·cases L <;> simp [hh] <;> omega
 ·cases L <;> simp [hh] <;> omega
theorem X5 {x:Step} (e:x.op = 3):(x.lits.all (fun l=>decide (l.length <= 100)) && kG x 1 0) = cB x:=by
 unfold kG cB counts
 rw [e]
 skip
 generalize x.lits.all (fun l=>decide (l.length <= 100)) = L
 generalize x.args.length = n
 generalize x.lits.length = m
 generalize x.lits.head? = hd
 generalize x.n = c
 rw [Bool.eq_iff_iff]
 by_cases hh:hd = some []
 ·cases L <;> simp [hh] <;> omega
 ·cases L <;> simp [hh] <;> omega
theorem X4 {x:Step} (e:x.op = 4):(x.lits.all (fun l=>decide (l.length <= 100)) && kG x 1 0) = cB x:=by
 unfold kG cB counts
 rw [e]
 skip
 generalize x.lits.all (fun l=>decide (l.length <= 100)) = L
 generalize x.args.length = n
 generalize x.lits.length = m
 generalize x.lits.head? = hd
 generalize x.n = c
 rw [Bool.eq_iff_iff]
 by_cases hh:hd = some []
 ·cases L <;> simp [hh] <;> omega
 ·cases L <;> simp [hh] <;> omega
theorem XY {x:Step} (e:x.op = 9):(x.lits.all (fun l=>decide (l.length <= 100)) && kG x 1 0) = cB x:=by
 unfold kG cB counts
 rw [e]
 skip
 generalize x.lits.all (fun l=>decide (l.length <= 100)) = L
 generalize x.args.length = n
 generalize x.lits.length = m
 generalize x.lits.head? = hd
 generalize x.n = c
 rw [Bool.eq_iff_iff]
 by_cases hh:hd = some []
 ·cases L <;> simp [hh] <;> omega
 ·cases L <;> simp [hh] <;> omega
theorem X2 {x:Step} (e:x.op = 5):(x.lits.all (fun l=>decide (l.length <= 100)) && kG x (if (6:Int) < (x.args.length:Int) then 6 else (x.args.length:Int)) 0) = cB x:=by
 unfold kG cB counts
 rw [e]
 rw [PL]
 generalize x.lits.all (fun l=>decide (l.length <= 100)) = L
 generalize x.args.length = n
 generalize x.lits.length = m
 generalize x.lits.head? = hd
 generalize x.n = c
 rw [Bool.eq_iff_iff]
 by_cases hh:hd = some []
 ·cases L <;> simp [hh] <;> omega
 ·cases L <;> simp [hh] <;> omega
theorem X1 {x:Step} (e:x.op = 6):(x.lits.all (fun l=>decide (l.length <= 100)) && kG x 0 1) = cB x:=by
 unfold kG cB counts
 rw [e]
 skip
 generalize x.lits.all (fun l=>decide (l.length <= 100)) = L
 generalize x.args.length = n
 generalize x.lits.length = m
 generalize x.lits.head? = hd
 generalize x.n = c
 rw [Bool.eq_iff_iff]
 by_cases hh:hd = some []
 ·cases L <;> simp [hh] <;> omega
 ·cases L <;> simp [hh] <;> omega
theorem X0 {x:Step} (e:x.op = 7):(x.lits.all (fun l=>decide (l.length <= 100)) && kG x 1 1) = cB x:=by
 unfold kG cB counts
 rw [e]
 skip
 generalize x.lits.all (fun l=>decide (l.length <= 100)) = L
 generalize x.args.length = n
 generalize x.lits.length = m
 generalize x.lits.head? = hd
 generalize x.n = c
 rw [Bool.eq_iff_iff]
 by_cases hh:hd = some []
 ·cases L <;> simp [hh] <;> omega
 ·cases L <;> simp [hh] <;> omega
theorem XZ {x:Step} (e:x.op = 8):(x.lits.all (fun l=>decide (l.length <= 100)) && kG x 1 2) = cB x:=by
 unfold kG cB counts
 rw [e]
 skip
 generalize x.lits.all (fun l=>decide (l.length <= 100)) = L
 generalize x.args.length = n
 generalize x.lits.length = m
 generalize x.lits.head? = hd
 generalize x.n = c
 rw [Bool.eq_iff_iff]
 by_cases hh:hd = some []
 ·cases L <;> simp [hh] <;> omega
 ·cases L <;> simp [hh] <;> omega
theorem LD (h:bM E) {v:V} {x:Step} (hv:LM v x) (hsm:x.lits.length <= 4294967296):aB E 143 [v] Z K = K (.bool (cB x)) Z:=by
 refine aB.of ?_
 have ev:=hv.snap (E:=E) Z
 obtain ⟨a,b,rfl,ia,ib⟩:=hv
 have la:=bL h ia
 rw [aH h.WT h.Us h.XH h.VY (args':=[.agg [.str x.out,.int .i64 x.op,a,b,.int .i64 x.n]]) (by simp only [aW,ev]),a_ (by kernel_rfl)]
 have hoka:a.aX = true:=aJ ia.bE
 have hokb:b.aX = true:=aJ ib.bE
 by_cases hop:x.op = 1 \/ x.op = 2 \/ x.op = 3 \/ x.op = 4 \/ x.op = 9 \/ x.op = 5 \/ x.op = 6 \/ x.op = 7 \/ x.op = 8
 ·have key:=fun A B h8 F g1 g3 g4 g5 hk=>PA (K:=fun v σ1=>match cW σ1 E.ty false v with
    | some v=>v = .bool (cB x)
    | none=>False) h ia ib hsm (A:=A) (B:=B) h8 F g1 g3 g4 g5 hk
  generalize hC:cutAt [1,1,1,1] (aA Tryz.f143).code = C at key
  generalize hD:cutAt [1,1,1,0,1,2,2] (aA Tryz.f143).code = D at key
  have e1:(aA Tryz.f143).code = .seq (cutAt [0] (aA Tryz.f143).code) (.seq (cutAt [1,0] (aA Tryz.f143).code) (.seq (cutAt [1,1,0] (aA Tryz.f143).code) (.seq (.seq (cutAt [1,1,1,0,0] (aA Tryz.f143).code) (.block 1 (.loop D))) C))):=by rw [<- hC,<- hD]; rfl
  rw [e1]
  clear e1 hC hD
  rcases hop with e | e | e | e | e | e | e | e | e
  ·have q:∀ k:Int,decide (x.op = k) = decide ((1:Int) = k):=fun k=>by rw [e]
   simp only [aA,Tryz.f143,KP,Ax.loadAt,↓reduceIte,Nat.reduceEqDiff,Nat.reduceLT,Nat.reduceAdd,reduceCtorEq,h.oZ,h.cO,cutAt,q,hoka,hokb]
   refine key 1 0 (fun e8 e9=>?_) _ ?_ ?_ ?_ ?_ ?_
   ·omega
   ·exact (by simp +decide only [GS])
   ·exact (by simp +decide only [GS])
   ·exact (by simp +decide only [GS])
   ·exact (by simp +decide only [GS])
   ·exact congrArg V.bool (end_1 e)
  ·have q:∀ k:Int,decide (x.op = k) = decide ((2:Int) = k):=fun k=>by rw [e]
   simp only [aA,Tryz.f143,KP,Ax.loadAt,↓reduceIte,Nat.reduceEqDiff,Nat.reduceLT,Nat.reduceAdd,reduceCtorEq,Int.reduceEq,h.oZ,h.cO,cutAt,q,hoka,hokb]
   refine key 1 0 (fun e8 e9=>?_) _ ?_ ?_ ?_ ?_ ?_
   ·omega
   ·exact (by simp +decide only [GS])
   ·exact (by simp +decide only [GS])
   ·exact (by simp +decide only [GS])
   ·exact (by simp +decide only [GS])
   ·exact congrArg V.bool (X6 e)
  ·have q:∀ k:Int,decide (x.op = k) = decide ((3:Int) = k):=fun k=>by rw [e]
   simp only [aA,Tryz.f143,KP,Ax.loadAt,↓reduceIte,Nat.reduceEqDiff,Nat.reduceLT,Nat.reduceAdd,reduceCtorEq,Int.reduceEq,h.oZ,h.cO,cutAt,q,hoka,hokb]
   refine key 1 0 (fun e8 e9=>?_) _ ?_ ?_ ?_ ?_ ?_
   ·omega
   ·exact (by simp +decide only [GS])
   ·exact (by simp +decide only [GS])
   ·exact (by simp +decide only [GS])
   ·exact (by simp +decide only [GS])
   ·exact congrArg V.bool (X5 e)
  ·have q:∀ k:Int,decide (x.op = k) = decide ((4:Int) = k):=fun k=>by rw [e]
   simp only [aA,Tryz.f143,KP,Ax.loadAt,↓reduceIte,Nat.reduceEqDiff,Nat.reduceLT,Nat.reduceAdd,reduceCtorEq,Int.reduceEq,h.oZ,h.cO,cutAt,q,hoka,hokb]
   refine key 1 0 (fun e8 e9=>?_) _ ?_ ?_ ?_ ?_ ?_
   ·omega
   ·exact (by simp +decide only [GS])
   ·exact (by simp +decide only [GS])
   ·exact (by simp +decide only [GS])
   ·exact (by simp +decide only [GS])
   ·exact congrArg V.bool (X4 e)
  ·have q:∀ k:Int,decide (x.op = k) = decide ((9:Int) = k):=fun k=>by rw [e]
   simp only [aA,Tryz.f143,KP,Ax.loadAt,↓reduceIte,Nat.reduceEqDiff,Nat.reduceLT,Nat.reduceAdd,reduceCtorEq,Int.reduceEq,h.oZ,h.cO,cutAt,q,hoka,hokb]
   refine key 1 0 (fun e8 e9=>?_) _ ?_ ?_ ?_ ?_ ?_
   ·omega
   ·exact (by simp +decide only [GS])
   ·exact (by simp +decide only [GS])
   ·exact (by simp +decide only [GS])
   ·exact (by simp +decide only [GS])
   ·exact congrArg V.bool (XY e)
  ·have q:∀ k:Int,decide (x.op = k) = decide ((5:Int) = k):=fun k=>by rw [e]
   simp only [aA,Tryz.f143,KP,Ax.loadAt,↓reduceIte,Nat.reduceEqDiff,Nat.reduceLT,Nat.reduceAdd,reduceCtorEq,Int.reduceEq,h.oZ,h.aV,h.cO,cutAt,la,q,hoka,hokb,min2]
   refine key (if (6:Int) < (x.args.length:Int) then 6 else (x.args.length:Int)) 0 (fun e8 e9=>?_) _ ?_ ?_ ?_ ?_ ?_
   ·omega
   ·exact (by simp +decide only [GS])
   ·exact (by simp +decide only [GS])
   ·exact (by simp +decide only [GS])
   ·exact (by simp +decide only [GS])
   ·exact congrArg V.bool (X2 e)
  ·have q:∀ k:Int,decide (x.op = k) = decide ((6:Int) = k):=fun k=>by rw [e]
   simp only [aA,Tryz.f143,KP,Ax.loadAt,↓reduceIte,Nat.reduceEqDiff,Nat.reduceLT,Nat.reduceAdd,reduceCtorEq,Int.reduceEq,h.oZ,h.cO,cutAt,q,hoka,hokb]
   refine key 0 1 (fun e8 e9=>?_) _ ?_ ?_ ?_ ?_ ?_
   ·omega
   ·exact (by simp +decide only [GS])
   ·exact (by simp +decide only [GS])
   ·exact (by simp +decide only [GS])
   ·exact (by simp +decide only [GS])
   ·exact congrArg V.bool (X1 e)
  ·have q:∀ k:Int,decide (x.op = k) = decide ((7:Int) = k):=fun k=>by rw [e]
   simp only [aA,Tryz.f143,KP,Ax.loadAt,↓reduceIte,Nat.reduceEqDiff,Nat.reduceLT,Nat.reduceAdd,reduceCtorEq,Int.reduceEq,h.oZ,h.cO,cutAt,q,hoka,hokb]
   refine key 1 1 (fun e8 e9=>?_) _ ?_ ?_ ?_ ?_ ?_
   ·omega
   ·exact (by simp +decide only [GS])
   ·exact (by simp +decide only [GS])
   ·exact (by simp +decide only [GS])
   ·exact (by simp +decide only [GS])
   ·exact congrArg V.bool (X0 e)
  ·have q:∀ k:Int,decide (x.op = k) = decide ((8:Int) = k):=fun k=>by rw [e]
   simp only [aA,Tryz.f143,KP,Ax.loadAt,↓reduceIte,Nat.reduceEqDiff,Nat.reduceLT,Nat.reduceAdd,reduceCtorEq,Int.reduceEq,h.oZ,h.cO,cutAt,q,hoka,hokb]
   refine key 1 2 (fun e8 e9=>?_) _ ?_ ?_ ?_ ?_ ?_
   ·intro e0; rw [e0] at e9; simp at e9
   ·exact (by simp +decide only [GS])
   ·exact (by simp +decide only [GS])
   ·exact (by simp +decide only [GS])
   ·exact (by simp +decide only [GS])
   ·exact congrArg V.bool (XZ e)
 ·have q:∀ k:Int,(k = 1 \/ k = 2 \/ k = 3 \/ k = 4 \/ k = 9 \/ k = 5 \/ k = 6 \/ k = 7 \/ k = 8) -> decide (x.op = k) = false:=fun k hk=>decide_eq_false (fun e=>hop (by rw [e]; exact hk))
  have q1:=q 1 (by simp)
  have q2:=q 2 (by simp)
  have q3:=q 3 (by simp)
  have q4:=q 4 (by simp)
  have q5:=q 5 (by simp)
  have q6:=q 6 (by simp)
  have q7:=q 7 (by simp)
  have q8:=q 8 (by simp)
  have q9:=q 9 (by simp)
  simp only [aA,Tryz.f143,KP,Ax.loadAt,↓reduceIte,Nat.reduceEqDiff,Nat.reduceLT,Nat.reduceAdd,reduceCtorEq,h.oZ,h.cO,hoka,hokb,q1,q2,q3,q4,q5,q6,q7,q8,q9]
  have e:cB x = false:=by
   unfold cB
   rw [decide_eq_false (by omega)]; rfl
  rw [e]
  exact rfl
theorem K1 (h:bM E) {v:V} {x:Step} (hv:LM v x) (hsm:x.lits.length <= 4294967296):KC E 143 [v] Z (.bool (cB x)) Z:=dO fun _=>LD h hv hsm
end
end
section
section
variable {E:Env} {Z:Sg} {K:V -> Sg -> Prop}
def sF (l:List aZ) (c:Nat):List aZ:=if c = 47 then l ++ [[]] else l.set (l.length - 1) ((l[l.length - 1]?).getD [] ++ [c])
theorem yD (c:Nat):∀ s:aZ,cE c s ≠ []
 | []=>by simp [cE]
 | a :: r=>by
  rw [cE]
  split
  ·simp
  ·split <;> simp
theorem vO {p:aZ} {l:List aZ} (hl:l ≠ []) (c:Nat):sF (p :: l) c = p :: sF l c:=by
 obtain ⟨x,r,rfl⟩:=List.exists_cons_of_ne_nil hl
 unfold sF
 split
 ·rfl
 ·simp
theorem sS (c:Nat):∀ s:aZ,cE 47 (s ++ [c]) = sF (cE 47 s) c
 | []=>by
  by_cases h:c = 47 <;> simp [cE,sF,h]
 | a :: r=>by
  have ih:=sS c r
  rw [List.cons_append,cE,cE]
  by_cases h:a = 47
  ·rw [if_pos h,if_pos h,ih,vO (yD 47 r)]
  ·rw [if_neg h,if_neg h,ih]
   obtain ⟨p,ps,hp⟩:=List.exists_cons_of_ne_nil (yD 47 r)
   rw [hp]
   cases ps with
   | nil=>
    unfold sF
    by_cases hc:c = 47
    ·simp [hc]
    ·simp [hc]
   | cons q qs=>
    have e1:sF (p :: q :: qs) c = p :: sF (q :: qs) c:=vO (by simp) c
    have e2:sF ((a :: p) :: q :: qs) c = (a :: p) :: sF (q :: qs) c:=vO (by simp) c
    rw [e1]
    exact e2.symm
theorem qY (c:Nat):∀ s:aZ,(cE c s).length <= s.length + 1
 | []=>Nat.le_refl _
 | a :: r=>by
  have ih:=qY c r
  rw [cE]
  split
  ·simp only [List.length_cons]; omega
  ·split
   ·rename_i h; rw [h] at ih; simp only [List.length_cons] at ih ⊢; omega
   ·simp
theorem sU {s:aZ}:∀ {P:List aZ},cE 47 s = P -> ∀ y ∈ P,y.length <= s.length:=by
 induction s with
 | nil=>intro P hP y hy; subst hP; simp [cE] at hy; subst hy; exact Nat.le_refl _
 | cons a r ih=>
  intro P hP y hy
  subst hP
  rw [cE] at hy
  split at hy
  ·rcases List.mem_cons.1 hy with rfl | hy
   ·simp
   ·have:=ih rfl y hy; simp only [List.length_cons]; omega
  ·split at hy
   ·rename_i p ps hp
    rcases List.mem_cons.1 hy with rfl | hy
    ·have:=ih hp p (List.mem_cons_self ..); simp only [List.length_cons]; omega
    ·have:=ih hp y (List.mem_cons_of_mem _ hy); simp only [List.length_cons]; omega
   ·simp at hy; subst hy; simp
theorem Df (n:Nat) (h0:0 < n) (h:n < 9223372036854775807):wr .i64 ((n:Int) - 1) = ((n - 1:Nat):Int):=by
 rw [yB,if_pos]
 ·omega
 ·have h1:lo .i64 = -9223372036854775808:=rfl
  have h2:hi .i64 = 9223372036854775807:=rfl
  rw [h1,h2,Bool.and_eq_true,decide_eq_true_eq,decide_eq_true_eq]
  omega
theorem JM (h:bM E) {s:aZ} {i c:Nat} (hc:s[i]? = some c):Ax.index E 9 (.str s) (.int .i64 (i:Int)) = some (.int .u8 (c:Int)):=by
 have hneg:¬ ((i:Int) < 0):=by omega
 unfold Ax.index
 simp only [h.cN,hneg,if_false,Int.toNat_natCast,hc]
theorem Kt (h:bM E) {s:aZ} {i c:Nat} (hc:s[i]? = some c):Ax.slice E Z 9 (.str s) (some (.int .i64 (i:Int))) (some (.int .i64 ((i + 1:Nat):Int))) none = some (.str [c]):=by
 have hi:=(List.getElem?_eq_some_iff.1 hc).1
 have hb:∀ n m:Nat,m <= n -> ∀ d,Ax.bound n (some (.int .i64 (m:Int))) d = some m:=fun n m hm d=>by
  unfold Ax.bound
  simp only []
  rw [if_pos (by simp only [Bool.and_eq_true,decide_eq_true_eq]; omega)]
  rfl
 unfold Ax.slice
 simp only [h.cN,Option.isSome_none,Bool.false_eq_true,if_false]
 rw [hb s.length (i + 1) hi]
 simp only []
 rw [hb (i + 1) i (by omega)]
 simp only []
 rw [show i + 1 - i = 1 by omega,List.drop_eq_getElem_cons hi]
 have:=(List.getElem?_eq_some_iff.1 hc).2
 rw [this]; rfl
theorem iN (s:aZ):Ax.fill (fun j=>some (j * 1,1)) (gK 1 [V.str []]) [(0,V.str s)] = some [.str s]:=rfl
theorem QZ (h:bM E) {s:aZ} (hsm:s.length <= 1000000000):aB E 177 [.str s] Z fun v σ'=>σ' = Z /\ jZ aK v (cE 47 s):=by
 rw [aH h.WH h.Ug h.Xy h.VO (args':=[.str s]) (by simp only [aW,cV]),a_ (by kernel_rfl)]
 simp only [aA,Tryz.f177,KP,↓reduceIte,Nat.reduceLT,Nat.reduceLeDiff,Nat.reduceMul,h.cN,h.aV,kS,iN]
 have d7:=h.S9
 simp only [aA,Tryz.f177,cutAt,Option.getD_some] at d7
 refine aR (fun i F Y=>F.get 0 = .str s /\ F.get 4 = .int .i64 (i:Int) /\ ∃ w,F.get 3 = w /\ bD aK 9 Y w (cE 47 (s.take i))) s.length ?_ ?_ s.length 0 _ _ (by omega) (kX (by simp +decide only [GS,and_self]) ⟨.sl 0 0 1 none,(by simp +decide only [GS]),.inr ⟨0,[[.str []]],true,rfl,rfl,.one rfl⟩⟩)
 ·rintro i F Y hi ⟨g0,g4,w,g3,ow⟩ next
  obtain ⟨c,hc⟩:∃ c,s[i]? = some c:=⟨_,List.getElem?_eq_getElem hi⟩
  have e1:=JM h hc
  have hlt:=dN hi
  have hadd:=bV i (by omega)
  have htk:s.take (i + 1) = s.take i ++ [c]:=by rw [List.take_add_one,hc]; rfl
  have hln:=qY 47 (s.take i)
  have hln2:(s.take i).length <= s.length:=by rw [List.length_take]; omega
  rw [aF]
  by_cases h47:c = 47
  ·have q:decide ((c:Int) = 47) = true:=decide_eq_true (by omega)
   obtain ⟨w',τ',ha,ow',-,-,-⟩:=jR (ats:=#[28,28]) (x:=.sl Y.length 0 1 none) (m:=[[]]) (new:=[[.str []]]) h.aV rfl h.cN rfl (by decide) (jE h) rfl (ow.app [.cells 9 [.str []] true]) (mE rfl) (.one rfl) (eS (b:=1000000002) (by decide) (by simp only [List.length_cons,List.length_nil]; omega))
   simp only [KP,↓reduceIte,Nat.reduceEqDiff,Nat.reduceLT,Nat.reduceLeDiff,Nat.reduceMul,reduceCtorEq,h.cN,h.aV,fG h,kS,g0,g3,g4,hlt,e1,q,iN,ha,hadd]
   refine next _ _ (kX (by simp +decide only [GS,g0,and_self]) ⟨w',(by simp +decide only [GS]),?_⟩)
   rw [htk,sS,sF,if_pos h47]
   exact ow'
  ·have q:decide ((c:Int) = 47) = false:=decide_eq_false (by omega)
   have hpos:0 < (cE 47 (s.take i)).length:=List.length_pos_iff.2 (yD 47 _)
   generalize hP:cE 47 (s.take i) = P at *
   obtain ⟨y,hy⟩:∃ y,P[P.length - 1]? = some y:=⟨_,List.getElem?_eq_getElem (by omega)⟩
   have hyl:y.length <= s.length:=by
    have:=sU hP y (List.mem_of_getElem? hy)
    omega
   obtain ⟨b,e2,-,τ',e3,ow',-,-⟩:=Kj (u:=.str (y ++ [c])) (y:=y ++ [c]) h.aV rfl h.cN rfl ow (i:=P.length - 1) (by omega) rfl rfl
   obtain ⟨p,r,e4,e5,-,e6,-⟩:=Ea (Z:=Y) h.aV rfl h.cN rfl ow.ls hy
   have e6:=e6 rfl (by decide)
   rw [e2] at e4
   cases e4
   rw [show r = [.str y] from e5] at e6
   have e6:loadAt E Y 9 (.ref b ((P.length - 1) * 1)) = some (.str y):=e6
   have e3:storeAt E Y 9 (.ref b ((P.length - 1) * 1)) (.str (y ++ [c])) = some τ':=e3
   have e2:indexAddr E 28 w (.int .i64 ((P.length - 1:Nat):Int)) = some (.ref b ((P.length - 1) * 1)):=e2
   have lw:∀ Z,lenOf E Z 28 w = some P.length:=fun Z=>by
    rcases ow with ⟨rfl,rfl⟩ | ⟨b,rs,ex,rfl,-⟩
    ·simp at hpos
    ·unfold lenOf; rw [h.aV]
   have hdn:=Df P.length hpos (by omega)
   have hsl:=fun Z=>Kt (Z:=Z) h hc
   have hcat:decide (y.length <= 9223372036854775806) = true:=decide_eq_true (by omega)
   simp only [KP,↓reduceIte,Nat.reduceEqDiff,Nat.reduceLT,Nat.reduceLeDiff,reduceCtorEq,fG h,g0,g3,g4,hlt,e1,q,lw,hdn,bA d7,bX,e2,e6,hadd,hsl,hcat,e3]
   refine next _ _ ⟨?_,?_,w,?_,?_⟩
   ·exact (by simp +decide only [GS,g0])
   ·exact (by simp +decide only [GS])
   ·exact (by simp +decide only [GS,g3])
   rw [htk,sS,hP,sF,if_neg h47,hy]
   exact ow'
 ·rintro F Y ⟨g0,g4,w,g3,ow⟩
  have hlt:=dQ (Nat.lt_irrefl s.length)
  rw [aF]
  rw [List.take_of_length_le (Nat.le_refl _)] at ow
  obtain ⟨v',e1,hv⟩:=nY h.cN rfl (fun r x hr c hc=>by rw [show r = [.str x] from hr] at hc; cases hc with | head=>rfl | tail _ h=>cases h) ow
  simp only [KP,↓reduceIte,Nat.reduceEqDiff,Nat.reduceLT,reduceCtorEq,fG h,g0,g3,g4,hlt,e1]
  exact hv
end
end
section
section
variable {E:Env} {Z:Sg} {K:V -> Sg -> Prop}
theorem Nf {s:aZ} (h1:n_ s = false) (h2:s.length <= 40):bG s = (cE 47 s).all rC:=by
 unfold bG; rw [h1,decide_eq_true h2]; simp
theorem yN {p:aZ} (h:p = [] \/ p = [46] \/ p = [46,46]):rC p = false:=by
 unfold rC
 rcases h with rfl | rfl | rfl <;> simp
theorem HX {p:aZ} (h1:p ≠ []) (h2:p ≠ [46]) (h3:p ≠ [46,46]):rC p = p.all sign:=by
 unfold rC; rw [decide_eq_false h1,decide_eq_false h2,decide_eq_false h3]; simp
theorem Og (h:bM E) {s:aZ}:aB E 144 [.str s] Z K = K (.bool (bG s)) Z:=by
 refine aB.of ?_
 rw [aH h.WS h.Ur h.XG h.VX (args':=[.str s]) (by simp only [aW,cV]),a_ (by kernel_rfl)]
 have ls:∀ Z,lenOf E Z 9 (.str s) = some s.length:=fun Z=>fG h
 by_cases h0:s = []
 ·subst h0
  simp only [aA,Tryz.f144,KP,↓reduceIte,Nat.reduceEqDiff,Nat.reduceLT,reduceCtorEq,Int.reduceLT,fG h]
  exact rfl
 have hl0:0 < s.length:=List.length_pos_iff.2 h0
 have q0:decide ((s.length:Int) < 1) = false:=decide_eq_false (by omega)
 by_cases h40:s.length <= 40
 case neg=>
  have q1:decide ((40:Int) < (s.length:Int)) = true:=decide_eq_true (by omega)
  simp only [aA,Tryz.f144,KP,↓reduceIte,Nat.reduceEqDiff,Nat.reduceLT,reduceCtorEq,fG h,q0,q1]
  show V.bool false = _
  unfold bG
  rw [decide_eq_false h40,Bool.and_false,Bool.false_and]
 have q1:decide ((40:Int) < (s.length:Int)) = false:=decide_eq_false (by omega)
 by_cases w3:s = [114,117,108,101]
 ·have e3:=gW w3
  simp only [aA,Tryz.f144,KP,↓reduceIte,Nat.reduceEqDiff,Nat.reduceLT,reduceCtorEq,fG h,CC,q0,q1,e3]
  rw [w3]
  exact rfl
 have e3:=fT w3
 by_cases w4:s = [105,110]
 ·have e4:=gW w4
  simp only [aA,Tryz.f144,KP,↓reduceIte,Nat.reduceEqDiff,Nat.reduceLT,reduceCtorEq,fG h,CC,E5,q0,q1,e3,e4]
  rw [w4]
  exact rfl
 have e4:=fT w4
 by_cases w5:s = [111,117,116]
 ·have e5:=gW w5
  simp only [aA,Tryz.f144,KP,↓reduceIte,Nat.reduceEqDiff,Nat.reduceLT,reduceCtorEq,fG h,CC,E5,Iu,q0,q1,e3,e4,e5]
  rw [w5]
  exact rfl
 have e5:=fT w5
 by_cases w6:s = [97,102,116,101,114]
 ·have e6:=gW w6
  simp only [aA,Tryz.f144,KP,↓reduceIte,Nat.reduceEqDiff,Nat.reduceLT,reduceCtorEq,fG h,CC,E5,Iu,N6,q0,q1,e3,e4,e5,e6]
  rw [w6]
  exact rfl
 have e6:=fT w6
 have hsm:s.length <= 1000000000:=by omega
 have hr:n_ s = false:=by unfold n_; rw [decide_eq_false w3,decide_eq_false w4,decide_eq_false w5,decide_eq_false w6]; rfl
 rw [Nf hr h40]
 simp only [aA,Tryz.f144,KP,↓reduceIte,Nat.reduceEqDiff,Nat.reduceLT,reduceCtorEq,fG h,CC,E5,Iu,N6,q0,q1,e3,e4,e5,e6]
 refine aL (QZ h hsm) ?_
 rintro v σ' ⟨rfl,hv⟩
 have iv:=hv.is
 have la:=bL h iv
 have hPl:=qY 47 s
 have hPp:=sU (s:=s) rfl
 generalize cE 47 s = P at *
 simp only [KP,↓reduceIte,Nat.reduceLT]
 refine aR (fun i F Y=>Y = [] /\ F.get 3 = v /\ F.get 4 = .int .i64 (i:Int) /\ ∀ j y,j < i -> P[j]? = some y -> rC y = true) P.length ?_ ?_ P.length 0 _ _ (by omega) ⟨rfl,(kX (by simp +decide only [GS,and_self]) (fun j y hj=>by omega))⟩
 ·rintro i F Y hi ⟨rfl,g3,g4,hp⟩ next
  obtain ⟨p,hpi⟩:∃ p,P[i]? = some p:=⟨_,List.getElem?_eq_getElem hi⟩
  have hpl:=hPp p (List.mem_of_getElem? hpi)
  obtain ⟨g,e1⟩:=fI h iv hpi
  have hlt:=dN hi
  have hadd:=bV i (by omega)
  rw [aF]
  by_cases b1:p = []
  ·have s1:=gW b1
   rw [gM hpi (yN (.inl b1))]
   simp only [KP,Ax.loadAt,↓reduceIte,Nat.reduceEqDiff,Nat.reduceLT,h.cN,kS,g3,g4,la,hlt,e1,s1]
   exact rfl
  have s1:=fT b1
  by_cases b2:p = [46]
  ·have s2:=gW b2
   rw [gM hpi (yN (.inr (.inl b2)))]
   simp only [KP,Ax.loadAt,↓reduceIte,Nat.reduceEqDiff,Nat.reduceLT,h.cN,kS,Lh,g3,g4,la,hlt,e1,s1,s2]
   exact rfl
  have s2:=fT b2
  by_cases b3:p = [46,46]
  ·have s3:=gW b3
   rw [gM hpi (yN (.inr (.inr b3)))]
   simp only [KP,Ax.loadAt,↓reduceIte,Nat.reduceEqDiff,Nat.reduceLT,h.cN,kS,Lh,QI,g3,g4,la,hlt,e1,s1,s2,s3]
   exact rfl
  have s3:=fT b3
  simp only [KP,Ax.loadAt,↓reduceIte,Nat.reduceEqDiff,Nat.reduceLT,h.cN,kS,Lh,QI,g3,g4,la,hlt,e1,s1,s2,s3]
  refine aR (fun k F Y=>Y = [] /\ F.get 3 = v /\ F.get 4 = .int .i64 (i:Int) /\ F.get 5 = .int .i64 (k:Int) /\ ∀ j y,j < k -> p[j]? = some y -> sign y = true) p.length ?_ ?_ p.length 0 _ _ (by omega) ⟨rfl,(fE (by simp +decide only [GS,g3,g4,and_self]) (fun j y hj=>by omega))⟩
  ·rintro k F Y hk ⟨rfl,g3,g4,g5,hq⟩ next2
   obtain ⟨c,hc⟩:∃ c,p[k]? = some c:=⟨_,List.getElem?_eq_getElem hk⟩
   have e2:=JM h hc
   have hlt2:=dN hk
   have hadd2:=bV k (by omega)
   have kf:=fun (Y:Sg)=>SO (Z:=Y) h (c:=c)
   rw [aF]
   by_cases hs:sign c = true
   ·simp only [KP,Ax.loadAt,↓reduceIte,Nat.reduceEqDiff,Nat.reduceLT,h.cN,fG h,g3,g4,g5,hlt2,e1,e2,kf,hs,hadd2]
    refine next2 _ _ ⟨rfl,(fE (by simp +decide only [GS,g3,g4,and_self]) (fun j y hj hy=>?_))⟩
    rcases Nat.lt_or_ge j k with g | g
    ·exact hq j y g hy
    ·obtain rfl:j = k:=by omega
     rw [hc] at hy; cases hy; exact hs
   ·have hs:sign c = false:=by simpa using hs
    rw [gM hpi (by rw [HX b1 b2 b3]; exact gM hc hs)]
    simp only [KP,Ax.loadAt,↓reduceIte,Nat.reduceEqDiff,Nat.reduceLT,h.cN,fG h,g3,g4,g5,hlt2,e1,e2,kf,hs]
    exact rfl
  ·rintro F Y ⟨rfl,g3,g4,g5,hq⟩
   have hlt2:=dQ (Nat.lt_irrefl p.length)
   rw [aF]
   simp only [KP,Ax.loadAt,↓reduceIte,Nat.reduceEqDiff,Nat.reduceLT,h.cN,fG h,g3,g4,g5,hlt2,e1,hadd]
   refine next _ _ ⟨rfl,(kX (by simp +decide only [GS,g3,and_self]) (fun j y hj hy=>?_))⟩
   rcases Nat.lt_or_ge j i with g | g
   ·exact hp j y g hy
   ·obtain rfl:j = i:=by omega
    rw [hpi] at hy; cases hy
    rw [HX b1 b2 b3]
    exact zP fun j y _ hy=>hq j y (List.getElem?_eq_some_iff.1 hy).1 hy
 ·rintro F Y ⟨rfl,g3,g4,hp⟩
  have hlt:=dQ (Nat.lt_irrefl P.length)
  rw [aF]
  rw [zP fun j y _ hy=>hp j y (List.getElem?_eq_some_iff.1 hy).1 hy]
  simp only [KP,↓reduceIte,Nat.reduceEqDiff,Nat.reduceLT,g3,g4,la,hlt]
  exact rfl
theorem NG (h:bM E) {s:aZ}:KC E 144 [.str s] Z (.bool (bG s)) Z:=dO fun _=>Og h
end
end
end Go.Proofs.YtlbbdpkjeeiahaaGreatDoor
end
