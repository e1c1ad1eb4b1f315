/- Part 15 of the proof. -/
import Derived.Test.YtmbikbgdbbcbmaaGreatDoorY
import Derived.Test.YtmbikbgdbbcbmaaGreatDoorZ0
import Derived.Test.YtmbikbgdbbcbmaaGreatDoorZ3
set_option maxHeartbeats 8000000
set_option linter.unusedVariables false
set_option maxRecDepth 10000
open Nat (reduceLT reduceAdd reduceEqDiff reduceLeDiff reduceMul)
open List (take_nil)
open Int (reduceNeg reduceEq)
section
namespace Go.Ax
open Go
section
def vP (r r':yM):Prop:=∀c fr Z x,r c fr Z=some x->r' c fr Z=some x
section
variable {E:Env}{r r':yM}
theorem DD (h:vP r r') {F:Fn}{args:List V}{Z:Sg}{x:V × Sg}(he:enter E r F args Z=some x):enter E r' F args Z=some x:=by
 unfold enter at he ⊢
 cases hi:Fr.init F.ntmps args with
 |none=>rw[hi]at he;cases he
 |some fr=>
  rw[hi]at he
  dsimp only at he ⊢
  cases hr:r F.code fr Z with
  |none=>rw[hr]at he;cases he
  |some y=>rw[h _ _ _ _ hr];rw[hr]at he;exact he
theorem tL (h:vP r r') {f:Nat}{args:List V}{Z:Sg}{x:V × Sg}(he:gT E r f args Z=some x):gT E r' f args Z=some x:=by
 unfold gT at he ⊢
 cases h1:E.hspec f with
 |some s=>rw[h1]at he;exact he
 |none=>
 rw[h1]at he
 dsimp only at he ⊢
 cases h2:E.spec f with
 |some s=>rw[h2]at he;exact he
 |none=>
 rw[h2]at he
 dsimp only at he ⊢
 cases h3:E.fn f with
 |none=>rw[h3]at he;cases he
 |some F=>
 rw[h3]at he
 dsimp only at he ⊢
 have fD:∀(g:Bool),(match aU (aQ Z E.ty g) args with
    |some args'=>match enter E r F args' [] with
     |some (v,σ1)=>match bW σ1 E.ty false v with
      |some v=>some (v,if g then Z else kill Z (args.flatMap (mK Z)))
      |none=>no ("result of function " ++ toString f)
     |none=>no ("in function " ++ toString f)
    |none=>no ("args of function " ++ toString f))=some x->(match aU (aQ Z E.ty g) args with
    |some args'=>match enter E r' F args' [] with
     |some (v,σ1)=>match bW σ1 E.ty false v with
      |some v=>some (v,if g then Z else kill Z (args.flatMap (mK Z)))
      |none=>no ("result of function " ++ toString f)
     |none=>no ("in function " ++ toString f)
    |none=>no ("args of function " ++ toString f))=some x:=by
  intro g he
  cases h4:aU (aQ Z E.ty g) args with
  |none=>rw[h4]at he;cases he
  |some args'=>
   rw[h4]at he
   dsimp only at he ⊢
   cases h5:enter E r F args' [] with
   |none=>rw[h5]at he;cases he
   |some y=>rw[DD h h5];rw[h5]at he;exact he
 cases hm:E.mode f with
 |shared=>
  rw[hm]at he
  dsimp only at he ⊢
  cases h5:enter E r F args Z with
  |none=>rw[h5]at he;cases he
  |some y=>rw[DD h h5];rw[h5]at he;exact he
 |fD=>rw[hm]at he;exact fD _ he
 |move=>rw[hm]at he;exact fD _ he
theorem y_ (h:vP r r') {dr:Fz}{op:Op}{fr:Fr}{Z:Sg}{x:V × Sg}(he:iX E r dr op fr Z=some x):iX E r' dr op fr Z=some x:=by
 unfold iX at he ⊢
 cases hc:comp E op with
 |plain f=>rw[hc]at he;exact he
 |lit t len parts=>rw[hc]at he;exact he
 |app args ats=>rw[hc]at he;exact he
 |call f args=>
  rw[hc]at he
  dsimp only at he ⊢
  split at he
  ·exact tL h he
  ·cases he
theorem Cr (h:vP r r') {dr:Fz}{ops:Array Oper}{o:Oper}{fr:Fr}{Z:Sg}{x:Fr × Sg}(he:bB E r dr ops o fr Z=some x):bB E r' dr ops o fr Z=some x:=by
 unfold bB at he ⊢
 split at he
 ·rename_i hw
  rw[b8 hw]
  cases ho:iX E r dr o.op fr Z with
  |none=>rw[ho]at he;cases he
  |some y=>rw[y_ h ho];rw[ho]at he;exact he
 ·rename_i hw
  rw[ay hw];exact he
theorem tI (h:vP r r') {dr:Fz}{ops:Array Oper}:∀{l:List Oper}{fr:Fr}{Z:Sg}{x:Fr × Sg},gR E r dr ops l fr Z=some x->gR E r' dr ops l fr Z=some x
 | [],_,_,_,he=>he
 |o::l,fr,Z,x,he=>by
  rw[gR]at he ⊢
  cases ho:bB E r dr ops o fr Z with
  |none=>rw[ho]at he;cases he
  |some y=>rw[Cr h ho];rw[ho]at he;exact tI h he
theorem Cm (h:vP r r') {dr:Fz}{ops:Array Oper}:∀{l:List Oper}{fr:Fr}{Z:Sg}{x:List (Fr × Sg)},eJ E r dr ops l fr Z=some x->eJ E r' dr ops l fr Z=some x
 | [],_,_,_,he=>he
 |o::l,fr,Z,x,he=>by
  rw[eJ]at he ⊢
  cases ho:bB E r dr ops o fr Z with
  |none=>rw[ho]at he;cases he
  |some y=>
   rw[Cr h ho];rw[ho]at he
   dsimp only at he ⊢
   cases ht:eJ E r dr ops l y.1 y.2 with
   |none=>rw[ht]at he;cases he
   |some z=>rw[Cm h ht];rw[ht]at he;exact he
theorem DV (h:vP r r') {dr:Fz}{ops:Array Oper}{o:Oper}{fr:Fr}{Z U:Sg}(he:again E r dr ops o fr Z U=true):again E r' dr ops o fr Z U=true:=by
 unfold again at he ⊢
 rw[ez]at he ⊢
 refine he.imp id λhe=>?_
 cases h1:iX E r dr o.op fr Z with
 |none=>rw[h1]at he;cases he
 |some y=>
  rw[h1]at he
  rw[y_ h h1]
  cases h2:iX E r dr o.op fr U with
  |none=>rw[h2]at he;cases he
  |some z=>rw[h2]at he;rw[y_ h h2];exact he
theorem HO (h:vP r r') {dr:Fz}{ops:Array Oper}{ts:List (Fr × Sg)}{d:Ej}(he:dM E r dr ops ts d=true):dM E r' dr ops ts d=true:=by
 unfold dM at he ⊢
 split at he
 ·simp only[ah,ez]at he ⊢
  exact⟨he.1.imp id (DV h),he.2.imp id (DV h)⟩
 ·cases he
theorem vH (h:vP r r') {ops:Array Oper}{fr:Fr}{Z:Sg}{x:Fr × Sg}(he:bG E r ops fr Z=some x):bG E r' ops fr Z=some x:=by
 unfold bG at he ⊢
 split at he
 ·cases he
 ·exact tI h he
 ·rename_i l hn e
  cases ht:eJ E r (eL E ops) ops ops.toList fr Z with
  |none=>rw[ht]at he;cases he
  |some ts=>
   rw[ht]at he
   rw[Cm h ht]
   dsimp only at he ⊢
   split at he
   ·rename_i hl
    rw[b8]
    ·cases l with
     |nil=>exact absurd rfl (hn ·)
     |cons d l=>exact he
    ·rw[dw]at hl ⊢
     exact λd hd=>HO h (hl d hd)
   ·cases he
end
theorem ID (E:Env):∀n,vP (ev E n) (ev E (n+1))
 |0=>λc fr Z x h=>by rw[ev]at h;cases h
 |n+1=>λc fr Z x h=>by
  have ih:=ID E n
  cases c with
  |skip=>rw[ev]at h ⊢;exact h
  |exit id=>rw[ev]at h ⊢;exact h
  |ret=>rw[ev]at h ⊢;exact h
  |seq a b=>
   rw[ev]at h ⊢
   try dsimp only at h ⊢
   cases ha:ev E n a fr Z with
   |none=>rw[ha]at h;cases h
   |some y=>
    rw[ih _ _ _ _ ha];rw[ha]at h
    obtain⟨x1,fr1,σ1⟩:=y
    cases x1 with
    |normal=>exact ih _ _ _ _ h
    |exit id=>cases h;rfl
    |ret=>cases h;rfl
  |cond c t e=>
   rw[ev]at h ⊢
   try dsimp only at h ⊢
   split at h
   ·exact ih _ _ _ _ h
   ·exact ih _ _ _ _ h
   ·cases h
  |block id a=>
   rw[ev]at h ⊢
   try dsimp only at h ⊢
   cases ha:ev E n a fr Z with
   |none=>rw[ha]at h;cases h
   |some y=>rw[ih _ _ _ _ ha];rw[ha]at h;exact h
  |loop a=>
   rw[ev]at h ⊢
   try dsimp only at h ⊢
   cases ha:ev E n a fr Z with
   |none=>rw[ha]at h;cases h
   |some y=>
    rw[ih _ _ _ _ ha];rw[ha]at h
    obtain⟨x1,fr1,σ1⟩:=y
    cases x1 with
    |normal=>exact ih _ _ _ _ h
    |exit id=>cases h;rfl
    |ret=>cases h;rfl
  |region id ops draw=>
   rw[ev]at h ⊢
   try dsimp only at h ⊢
   cases draw with
   |true=>
    simp only[b9]at h ⊢
    cases ha:bG E (ev E n) ops fr Z with
    |none=>rw[ha]at h;cases h
    |some y=>rw[vH ih ha];rw[ha]at h;exact h
   |false=>
    simp only[ai,aq]at h ⊢
    cases ha:gR E (ev E n) .no ops ops.toList fr Z with
    |none=>rw[ha]at h;cases h
    |some y=>rw[tI ih ha];rw[ha]at h;exact h
  |_=>unfold ev at h;cases h
theorem mH (E : Env) {n m : Nat} (h : n <= m) : vP (ev E n) (ev E m) := by
  induction m with
  | zero => obtain rfl : n = 0 := by omega
            exact fun _ _ _ _ h => h
  | succ m ih =>
    by_cases e : n = m + 1
    · subst e; exact fun _ _ _ _ h => h
    · exact fun c fr Z x hx => ID E m _ _ _ _ (ih (by omega) c fr Z x hx)
def Wp (E:Env) (c:Code) (fr:Fr) (Z:Sg) (Q:X->Fr->Sg->Prop):Prop:=∃n x fr' σ',ev E n c fr Z=some (x,fr',σ')/\Q x fr' σ'
def uA (E:Env) (ops:Array Oper) (l:List Oper) (fr:Fr) (Z:Sg) (Q:Fr->Sg->Prop):Prop:=∃n fr' σ',gR E (ev E n) .no ops l fr Z=some (fr',σ')/\Q fr' σ'
def Rz (E:Env) (ops:Array Oper) (fr:Fr) (Z:Sg) (Q:Fr->Sg->Prop):Prop:=∃n fr' σ',bG E (ev E n) ops fr Z=some (fr',σ')/\Q fr' σ'
def kQ (E:Env) (op:Op) (fr:Fr) (Z:Sg) (K:V->Sg->Prop):Prop:=∃n v σ',iX E (ev E n) .no op fr Z=some (v,σ')/\K v σ'
def aC (E:Env) (f:Nat) (args:List V) (Z:Sg) (K:V->Sg->Prop):Prop:=∃n v σ',gT E (ev E n) f args Z=some (v,σ')/\K v σ'
section
variable {E:Env}{fr:Fr}{Z:Sg}{Q:X->Fr->Sg->Prop}
theorem Wp.of {n:Nat}{c:Code}{x:X}{fr':Fr}{σ':Sg}(h:ev E n c fr Z=some (x,fr',σ'))(hq:Q x fr' σ'):Wp E c fr Z Q:=⟨n,x,fr',σ',h,hq⟩
theorem Wp.mono {Q':X->Fr->Sg->Prop}{c:Code}(h:Wp E c fr Z Q)(hq:∀x fr Z,Q x fr Z->Q' x fr Z):Wp E c fr Z Q':=by
 obtain⟨n,x,fr',σ',h1,h2⟩:=h
 exact⟨n,x,fr',σ',h1,hq _ _ _ h2⟩
theorem wp_skip:Wp E .skip fr Z Q=Q .normal fr Z:=propext ⟨λ⟨n,x,fr',σ',h,hq⟩=>by
 cases n with
 |zero=>cases h
 |succ n=>rw[ev]at h;cases h;exact hq,λh=>⟨1,_,_,_,rfl,h⟩⟩
theorem wp_exit {id:Nat}:Wp E (.exit id) fr Z Q=Q (.exit id) fr Z:=propext ⟨λ⟨n,x,fr',σ',h,hq⟩=>by
 cases n with
 |zero=>cases h
 |succ n=>rw[ev]at h;cases h;exact hq,λh=>⟨1,_,_,_,rfl,h⟩⟩
theorem wp_ret:Wp E .ret fr Z Q=Q .ret fr Z:=propext ⟨λ⟨n,x,fr',σ',h,hq⟩=>by
 cases n with
 |zero=>cases h
 |succ n=>rw[ev]at h;cases h;exact hq,λh=>⟨1,_,_,_,rfl,h⟩⟩
theorem wp_seq {a b:Code}:Wp E (.seq a b) fr Z Q=Wp E a fr Z λx fr Z=>match x with
  | .normal=>Wp E b fr Z Q
  |x=>Q x fr Z:=propext ⟨λ⟨n,x,fr',σ',h,hq⟩=>by
 cases n with
 |zero=>cases h
 |succ n=>
  rw[ev]at h
  try dsimp only at h
  cases ha:ev E n a fr Z with
  |none=>rw[ha]at h;cases h
  |some y=>
   rw[ha]at h
   obtain⟨x1,fr1,σ1⟩:=y
   refine⟨n,x1,fr1,σ1,ha,?_⟩
   cases x1 with
   |normal=>exact⟨n,x,fr',σ',h,hq⟩
   |_=>cases h;exact hq,λ⟨n,x,fr1,σ1,h,hq⟩=>by
 cases x with
 |normal=>
  obtain⟨m,x,fr',σ',h2,hq⟩:=hq
  refine⟨max n m+1,x,fr',σ',?_,hq⟩
  rw[ev]
  try dsimp only
  rw[mH E (Nat.le_max_left n m) _ _ _ _ h]
  exact mH E (Nat.le_max_right n m) _ _ _ _ h2
 |exit id=>exact⟨n+1,_,fr1,σ1,by rw[ev]; (try dsimp only);rw[h],hq⟩
 |ret=>exact⟨n+1,_,fr1,σ1,by rw[ev]; (try dsimp only);rw[h],hq⟩⟩
theorem wp_cond {c:Operand}{t e:Code}:Wp E (.cond c t e) fr Z Q=match aT fr c with
  |some (.bool true)=>Wp E t fr Z Q
  |some (.bool false)=>Wp E e fr Z Q
  |_=>False:=by
 apply propext
 constructor
 ·rintro⟨n,x,fr',σ',h,hq⟩
  cases n with
  |zero=>cases h
  |succ n=>
   rw[ev]at h
   try dsimp only at h
   split at h
   ·rename_i e1
    rw[e1];exact⟨n,_,_,_,h,hq⟩
   ·rename_i e1
    rw[e1];exact⟨n,_,_,_,h,hq⟩
   ·cases h
 ·intro h
  split at h
  ·rename_i e1
   obtain⟨n,x,fr',σ',h,hq⟩:=h
   refine⟨n+1,x,fr',σ',?_,hq⟩
   rw[ev]; (try dsimp only);rw[e1];exact h
  ·rename_i e1
   obtain⟨n,x,fr',σ',h,hq⟩:=h
   refine⟨n+1,x,fr',σ',?_,hq⟩
   rw[ev]; (try dsimp only);rw[e1];exact h
  ·exact h.elim
theorem wp_block {id:Nat}{c:Code}:Wp E (.block id c) fr Z Q=Wp E c fr Z λx fr Z=>match x with
  | .exit id'=>if id'=id then Q .normal fr Z else Q (.exit id') fr Z
  |x=>Q x fr Z:=propext ⟨λ⟨n,x,fr',σ',h,hq⟩=>by
 cases n with
 |zero=>cases h
 |succ n=>
  rw[ev]at h
  try dsimp only at h
  cases ha:ev E n c fr Z with
  |none=>rw[ha]at h;cases h
  |some y=>
   rw[ha]at h
   obtain⟨x1,fr1,σ1⟩:=y
   refine⟨n,x1,fr1,σ1,ha,?_⟩
   cases x1 with
   |exit id'=>
    try dsimp only at h ⊢
    split at h
    ·rename_i e;rw[b8 e];cases h;exact hq
    ·rename_i e;rw[ay e];cases h;exact hq
   |_=>cases h;exact hq,λ⟨n,x,fr1,σ1,h,hq⟩=>by
 cases x with
 |exit id'=>
  try dsimp only at hq
  split at hq
  ·rename_i e;exact⟨n+1,_,fr1,σ1,by rw[ev]; (try dsimp only);rw[h]; (try dsimp only);rw[b8 e],hq⟩
  ·rename_i e;exact⟨n+1,_,fr1,σ1,by rw[ev]; (try dsimp only);rw[h]; (try dsimp only);rw[ay e],hq⟩
 |normal=>exact⟨n+1,_,fr1,σ1,by rw[ev]; (try dsimp only);rw[h],hq⟩
 |ret=>exact⟨n+1,_,fr1,σ1,by rw[ev]; (try dsimp only);rw[h],hq⟩⟩
theorem wp_loop {c:Code}:Wp E (.loop c) fr Z Q=Wp E c fr Z λx fr Z=>match x with
  | .normal=>Wp E (.loop c) fr Z Q
  |x=>Q x fr Z:=propext ⟨λ⟨n,x,fr',σ',h,hq⟩=>by
 cases n with
 |zero=>cases h
 |succ n=>
  rw[ev]at h
  try dsimp only at h
  cases ha:ev E n c fr Z with
  |none=>rw[ha]at h;cases h
  |some y=>
   rw[ha]at h
   obtain⟨x1,fr1,σ1⟩:=y
   refine⟨n,x1,fr1,σ1,ha,?_⟩
   cases x1 with
   |normal=>exact⟨n,x,fr',σ',h,hq⟩
   |_=>cases h;exact hq,λ⟨n,x,fr1,σ1,h,hq⟩=>by
 cases x with
 |normal=>
  obtain⟨m,x,fr',σ',h2,hq⟩:=hq
  refine⟨max n m+1,x,fr',σ',?_,hq⟩
  rw[ev]
  try dsimp only
  rw[mH E (Nat.le_max_left n m) _ _ _ _ h]
  exact mH E (Nat.le_max_right n m) _ _ _ _ h2
 |exit id=>exact⟨n+1,_,fr1,σ1,by rw[ev]; (try dsimp only);rw[h],hq⟩
 |ret=>exact⟨n+1,_,fr1,σ1,by rw[ev]; (try dsimp only);rw[h],hq⟩⟩
theorem Oc {id:Nat}{ops:Array Oper}:Wp E (.region id ops false) fr Z Q=uA E ops ops.toList fr Z (Q .normal):=propext ⟨λ⟨n,x,fr',σ',h,hq⟩=>by
 cases n with
 |zero=>cases h
 |succ n=>
  rw[ev]at h
  simp only[ai,aq]at h
  cases ha:gR E (ev E n) .no ops ops.toList fr Z with
  |none=>rw[ha]at h;cases h
  |some y=>rw[ha]at h;cases h;exact⟨n,_,_,ha,hq⟩,λ⟨n,fr1,σ1,h,hq⟩=>⟨n+1,_,fr1,σ1,by rw[ev];simp only[ai,aq];rw[h],hq⟩⟩
theorem KL {id:Nat}{ops:Array Oper}:Wp E (.region id ops true) fr Z Q=Rz E ops fr Z (Q .normal):=propext ⟨λ⟨n,x,fr',σ',h,hq⟩=>by
 cases n with
 |zero=>cases h
 |succ n=>
  rw[ev]at h
  simp only[b9]at h
  cases ha:bG E (ev E n) ops fr Z with
  |none=>rw[ha]at h;cases h
  |some y=>rw[ha]at h;cases h;exact⟨n,_,_,ha,hq⟩,λ⟨n,fr1,σ1,h,hq⟩=>⟨n+1,_,fr1,σ1,by rw[ev];simp only[b9];rw[h],hq⟩⟩
section
variable {ops:Array Oper}{Q:Fr->Sg->Prop}
theorem Mr:uA E ops [] fr Z Q=Q fr Z:=propext ⟨λ⟨n,fr',σ',h,hq⟩=>by rw[gR]at h;cases h;exact hq,λh=>⟨0,fr,Z,rfl,h⟩⟩
theorem wpOps_cons {o:Oper}{l:List Oper}:uA E ops (o::l) fr Z Q=if bQ ops o fr=true then kQ E o.op fr Z (λv Z=>uA E ops l (eP fr o.dst v) Z Q) else uA E ops l (eP fr o.dst .undef) Z Q:=by
 by_cases hw:bQ ops o fr=true
 ·rw[b8 hw]
  refine propext ⟨λ⟨n,fr',σ',h,hq⟩=>?_,λ⟨n,v,σ1,h,m,fr',σ',h2,hq⟩=>?_⟩
  ·rw[gR]at h
   unfold bB at h
   rw[b8 hw]at h
   cases ho:iX E (ev E n) .no o.op fr Z with
   |none=>rw[ho]at h;cases h
   |some y=>rw[ho]at h;exact⟨n,y.1,y.2,ho,n,fr',σ',h,hq⟩
  ·refine⟨max n m,fr',σ',?_,hq⟩
   rw[gR]
   unfold bB
   rw[b8 hw,y_ (mH E (Nat.le_max_left n m)) h]
   exact tI (mH E (Nat.le_max_right n m)) h2
 ·rw[ay hw]
  refine propext ⟨λ⟨n,fr',σ',h,hq⟩=>?_,λ⟨n,fr',σ',h,hq⟩=>?_⟩
  ·rw[gR]at h
   unfold bB at h
   rw[ay hw]at h
   exact⟨n,fr',σ',h,hq⟩
  ·refine⟨n,fr',σ',?_,hq⟩
   rw[gR]
   unfold bB
   rw[ay hw]
   exact h
end
section
variable {K:V->Sg->Prop}
def got (o:Option (V × Sg)) (K:V->Sg->Prop):Prop:=match o with
 |some (v,Z)=>K v Z
 |none=>False
theorem bZ {op:Op}{f:Fr->Sg->Option (V × Sg)}(h:comp E op=.plain f):kQ E op fr Z K=got (f fr Z) K:=by
 unfold kQ iX
 rw[h]
 try dsimp only
 cases f fr Z with
 |none=>exact propext ⟨λ⟨_,_,_,h,_⟩=>(by cases h),λh=>h.elim⟩
 |some y=>exact propext ⟨λ⟨_,_,_,h,hk⟩=>(by cases h;exact hk),λh=>⟨0,_,_,rfl,h⟩⟩
end
theorem aC.of {f:Nat}{args:List V}{v:V}{σ':Sg}{K:V->Sg->Prop}(h:aC E f args Z λu U=>u=v/\U=σ'):aC E f args Z K=K v σ':=by
 obtain⟨n,u,U,h,rfl,rfl⟩:=h
 refine propext ⟨λ⟨m,w,ρ,h2,hk⟩=>?_,λhk=>⟨n,u,U,h,hk⟩⟩
 have a:=tL (mH E (Nat.le_max_left n m)) h
 rw[tL (mH E (Nat.le_max_right n m)) h2]at a
 cases a
 exact hk
end
end
section
def FT.set (F:FT) (t:Nat) (v:V):FT:=FT.put v (t+1) F t
theorem FT.dJ {F:FT}{u t:Nat}{v:V}:(FT.set F u v).get t=if t=u then v else F.get t:=FT.aG v (u+1) F u t (by omega)
theorem Fr.Ps {n u:Nat}{F:FT}{v:V}:Fr.put ⟨n,F⟩ u v=if u<n then ⟨n,FT.set F u v⟩ else ⟨n,F⟩:=by
 unfold Fr.put
 cases h:Nat.blt u n with
 |true=>rw[od]at h;rw[b8 h];rfl
 |false=>rw[ay];intro g;rw[<- od]at g;rw[h]at g;cases g
theorem Fr.VZ {n t:Nat}{F:FT}:Fr.get ⟨n,F⟩ t=if t<n then some (F.get t) else none:=by
 unfold Fr.get
 cases h:Nat.blt t n with
 |true=>rw[od]at h;rw[b8 h]
 |false=>rw[ay];intro g;rw[<- od]at g;rw[h]at g;cases g
section
variable {E:Env}{fr:Fr}{Z:Sg}{ops:Array Oper}{l:List Oper}{Q:Fr->Sg->Prop}{dst:Option Nat}{op:Op}{ty:Nat}{pos:String}{after:Array Edge}
theorem Ce:uA E ops (⟨dst,op,ty,pos,after,none⟩::l) fr Z Q=kQ E op fr Z λv Z=>uA E ops l (eP fr dst v) Z Q:=by
 rw[wpOps_cons];exact b8 rfl
end
section
variable {E:Env}{fr:Fr}{Z:Sg}{K:V->Sg->Prop}
theorem dO {o:Option (V × Sg)}:got o K=(match o with
  |some (v,Z)=>K v Z
  |none=>False):=rfl
def app3 (a b c:List V):Option (List V):=some (a++b++c)
theorem Mv {x:Operand}:kQ E (.move x) fr Z K=(match (aT fr x).map (·,Z) with
  |some (v,Z)=>K v Z
  |none=>False):=(bZ (f:=λfr Z=>(aT fr x).map (·,Z)) rfl).trans dO
theorem G1 {x:Operand}:kQ E (.assign x) fr Z K=(match (aT fr x).map (·,Z) with
  |some (v,Z)=>K v Z
  |none=>False):=(bZ (f:=λfr Z=>(aT fr x).map (·,Z)) rfl).trans dO
theorem Mt {c a b:Operand}:kQ E (.pick c a b) fr Z K=(match kA E fr Z c a b with
  |some (v,Z)=>K v Z
  |none=>False):=(bZ (f:=λfr Z=>kA E fr Z c a b) rfl).trans dO
theorem Jr {e:Nat}:kQ E (.alloc e) fr Z K=(match sS E fr Z e with
  |some (v,Z)=>K v Z
  |none=>False):=(bZ (f:=λfr Z=>sS E fr Z e) rfl).trans dO
theorem Od {e:Nat}{x:Operand}:kQ E (.box e x) fr Z K=(match HM E fr Z e x with
  |some (v,Z)=>K v Z
  |none=>False):=(bZ (f:=λfr Z=>HM E fr Z e x) rfl).trans dO
theorem Jp {t:Nat}{parts:Array (Nat × Operand)}:kQ E (.build t parts) fr Z K=(match qV E fr Z t parts with
  |some (v,Z)=>K v Z
  |none=>False):=(bZ (f:=λfr Z=>qV E fr Z t parts) rfl).trans dO
theorem Bz {t len:Nat}{parts:Array (Nat × Operand)}:kQ E (.buildSlice t len parts) fr Z K=(match fT E fr Z t len parts with
  |some (v,Z)=>K v Z
  |none=>False):=by
 refine propext ⟨λ⟨_,v,σ',h,hk⟩=>?_,λh=>?_⟩
 ·have h:fT E fr Z t len parts=some (v,σ'):=h
  rw[h];exact hk
 ·split at h
  ·rename_i v σ' e
   exact⟨0,v,σ',e,h⟩
  ·exact h.elim
theorem Mw {t:Nat}{a:Operand}:kQ E (.load t a) fr Z K=(match iJ E fr Z t a with
  |some (v,Z)=>K v Z
  |none=>False):=(bZ (f:=λfr Z=>iJ E fr Z t a) rfl).trans dO
theorem Jk {t:Nat}{a x:Operand}:kQ E (.store t a x) fr Z K=(match j_ E fr Z t a x with
  |some (v,Z)=>K v Z
  |none=>False):=(bZ (f:=λfr Z=>j_ E fr Z t a x) rfl).trans dO
theorem DZ {x:Operand}:kQ E (.nilCheck x) fr Z K=(match jF E fr Z x with
  |some (v,Z)=>K v Z
  |none=>False):=(bZ (f:=λfr Z=>jF E fr Z x) rfl).trans dO
theorem Jq {op:BinOp}{t u:Nat}{x y:Operand}:kQ E (.binOp op t x y u) fr Z K=(match eZ E fr Z op t x y with
  |some (v,Z)=>K v Z
  |none=>False):=(bZ (f:=λfr Z=>eZ E fr Z op t x y) rfl).trans dO
theorem Ms {op:UnOp}{t:Nat}{x:Operand}:kQ E (.unOp op t x) fr Z K=(match oB E fr Z op x with
  |some (v,Z)=>K v Z
  |none=>False):=(bZ (f:=λfr Z=>oB E fr Z op x) rfl).trans dO
theorem FM {s d:Nat}{x:Operand}:kQ E (.convert s d x) fr Z K=(match mB E fr Z s d x with
  |some (v,Z)=>K v Z
  |none=>False):=(bZ (f:=λfr Z=>mB E fr Z s d x) rfl).trans dO
theorem Jm {t:Nat}{x:Operand}:kQ E (.range t x) fr Z K=(match pI E fr Z t x with
  |some (v,Z)=>K v Z
  |none=>False):=(bZ (f:=λfr Z=>pI E fr Z t x) rfl).trans dO
theorem Mu {x:Operand}:kQ E (.next x true) fr Z K=(match wZ E fr Z x with
  |some (v,Z)=>K v Z
  |none=>False):=(bZ (f:=λfr Z=>wZ E fr Z x) rfl).trans dO
theorem xI {t:Nat}{x:Operand}:kQ E (.makeInterface t x) fr Z K=(match eF E fr Z t x with
  |some (v,Z)=>K v Z
  |none=>False):=(bZ (f:=λfr Z=>eF E fr Z t x) rfl).trans dO
theorem D3 {f:Nat}{a b:Array Operand}:kQ E (.makeFunc (.func f) a b) fr Z K=(match jG E fr Z f a b with
  |some (v,Z)=>K v Z
  |none=>False):=(bZ (f:=λfr Z=>jG E fr Z f a b) rfl).trans dO
theorem FK {t:Nat}{r:Option Operand}:kQ E (.makeMap t r) fr Z K=(match l_ E fr Z t r with
  |some (v,Z)=>K v Z
  |none=>False):=(bZ (f:=λfr Z=>l_ E fr Z t r) rfl).trans dO
theorem Cg {t:Nat}{l c:Operand}:kQ E (.makeSlice t l c) fr Z K=(match kB E fr Z t l c with
  |some (v,Z)=>K v Z
  |none=>False):=(bZ (f:=λfr Z=>kB E fr Z t l c) rfl).trans dO
theorem Jl {t:Nat}{x:Operand}{lo hi mx:Option Operand}:kQ E (.slice t x lo hi mx) fr Z K=(match sR E fr Z t x lo hi mx with
  |some (v,Z)=>K v Z
  |none=>False):=(bZ (f:=λfr Z=>sR E fr Z t x lo hi mx) rfl).trans dO
theorem Ci {t f:Nat}{x:Operand}:kQ E (.fieldAddr t x f) fr Z K=(match iE E fr Z t x f with
  |some (v,Z)=>K v Z
  |none=>False):=(bZ (f:=λfr Z=>iE E fr Z t x f) rfl).trans dO
theorem Jo {t f:Nat}{x:Operand}:kQ E (.field t x f) fr Z K=(match qU E fr Z t x f with
  |some (v,Z)=>K v Z
  |none=>False):=(bZ (f:=λfr Z=>qU E fr Z t x f) rfl).trans dO
theorem Ch {t:Nat}{x i:Operand}:kQ E (.indexAddr t x i) fr Z K=(match cC E fr Z t x i with
  |some (v,Z)=>K v Z
  |none=>False):=(bZ (f:=λfr Z=>cC E fr Z t x i) rfl).trans dO
theorem Jn {t:Nat}{x i:Operand}:kQ E (.index t x i) fr Z K=(match qT E fr Z t x i with
  |some (v,Z)=>K v Z
  |none=>False):=(bZ (f:=λfr Z=>qT E fr Z t x i) rfl).trans dO
theorem G0 {t:Nat}{x k:Operand}{ok:Bool}:kQ E (.lookup t x k ok) fr Z K=(match d_ E fr Z t x k ok with
  |some (v,Z)=>K v Z
  |none=>False):=(bZ (f:=λfr Z=>d_ E fr Z t x k ok) rfl).trans dO
theorem Cf {t:Nat}{m k x:Operand}:kQ E (.mapUpdate t m k x) fr Z K=(match dX E fr Z t m k x with
  |some (v,Z)=>K v Z
  |none=>False):=(bZ (f:=λfr Z=>dX E fr Z t m k x) rfl).trans dO
theorem FL {t:Operand}{i:Nat}:kQ E (.extract t i) fr Z K=(match cT E fr Z t i with
  |some (v,Z)=>K v Z
  |none=>False):=(bZ (f:=λfr Z=>cT E fr Z t i) rfl).trans dO
theorem FN {b:Builtin}{args:Array Operand}{ats:Array Nat}:kQ E (.call { callee:=.builtin b,args:=args,argTypes:=ats }) fr Z K=(match eR E fr Z b args ats with
  |some (v,Z)=>K v Z
  |none=>False):=by
 refine propext ⟨λ⟨_,v,σ',h,hk⟩=>?_,λh=>?_⟩
 ·have h:eR E fr Z b args ats=some (v,σ'):=by cases b <;> exact h
  rw[h];exact hk
 ·split at h
  ·rename_i v σ' e
   exact⟨0,v,σ',by cases b <;> exact e,h⟩
  ·exact h.elim
theorem Mx {f:Operand}{args:Array Operand}{ats:Array Nat}:kQ E (.call { callee:=.value f,args:=args,argTypes:=ats }) fr Z K=match aT fr f,fA fr args.toList with
  |some (.fn k first cap),some l=>(match app3 first l cap with
   |some l=>aC E k l Z K
   |none=>False)
  |_,_=>False:=by
 refine propext ⟨λ⟨n,v,σ',h,hk⟩=>?_,λh=>?_⟩
 ·have h:(match aT fr f,fA fr args.toList with
   |some (.fn k first cap),some l=>gT E (ev E n) k (first++l++cap) Z
   |_,_=>no "call")=some (v,σ'):=h
  split at h
  ·exact⟨n,v,σ',h,hk⟩
  ·cases h
 ·split at h
  ·rename_i e1 e2
   obtain⟨n,v,σ',h,hk⟩:=h
   refine⟨n,v,σ',?_,hk⟩
   show (match aT fr f,fA fr args.toList with
    |some (.fn k first cap),some l=>gT E (ev E n) k (first++l++cap) Z
    |_,_=>no "call")=some (v,σ')
   rw[e1,e2];exact h
  ·exact h.elim
def F_ (E:Env) (rs:List ResultVar) (K:V->Sg->Prop) (fr:Fr) (Z:Sg):Prop:=match results E fr Z rs with
 |some [v]=>K v Z
 |some vs=>K (.gB vs) Z
 |none=>False
def nM (E:Env) (F:Fn) (args:List V) (Z:Sg) (K:V->Sg->Prop):Prop:=match Fr.init F.ntmps args with
 |none=>False
 |some fr=>Wp E F.code fr Z λx fr Z=>match x with
  | .exit _=>False
  |_=>F_ E F.results K fr Z
theorem uF {F:Fn}{args:List V}:nM E F args Z K ↔ ∃n v σ',enter E (ev E n) F args Z=some (v,σ')/\K v σ':=by
 unfold nM enter
 cases hi:Fr.init F.ntmps args with
 |none=>exact⟨λh=>h.elim,λ⟨_,_,_,h,_⟩=>by cases h⟩
 |some fr=>
  try dsimp only
  constructor
  ·rintro⟨n,x,fr',σ',h,hq⟩
   refine⟨n,?_⟩
   rw[h]
   cases x with
   |exit id=>exact hq.elim
   |normal=>
    simp only[F_]at hq
    split at hq
    ·rename_i v e;exact⟨v,σ',by simp only[e],hq⟩
    ·rename_i vs hn e
     refine⟨.gB vs,σ',?_,hq⟩
     simp only[e]
    ·exact hq.elim
   |ret=>
    simp only[F_]at hq
    split at hq
    ·rename_i v e;exact⟨v,σ',by simp only[e],hq⟩
    ·rename_i vs hn e
     refine⟨.gB vs,σ',?_,hq⟩
     simp only[e]
    ·exact hq.elim
  ·rintro⟨n,v,σ',h,hk⟩
   have fin:∀(fr1:Fr) (σ1:Sg),(match results E fr1 σ1 F.results with
     |some [v]=>some (v,σ1)
     |some vs=>some (V.gB vs,σ1)
     |none=>no "results")=some (v,σ')->F_ E F.results K fr1 σ1:=by
    intro fr1 σ1 h
    unfold F_
    split at h
    ·cases h;exact hk
    ·rename_i vs hn e
     cases h
     cases vs with
     |nil=>exact hk
     |cons a l=>cases l with
      |nil=>exact absurd rfl (hn a)
      |cons b l=>exact hk
    ·cases h
   cases he:ev E n F.code fr Z with
   |none=>rw[he]at h;cases h
   |some y=>
    obtain⟨x,fr1,σ1⟩:=y
    rw[he]at h
    refine⟨n,x,fr1,σ1,he,?_⟩
    cases x with
    |exit id=>cases h
    |normal=>exact fin _ _ h
    |ret=>exact fin _ _ h
theorem sD {f:Nat}{args:List V}{s:List V->Sg->Option (V × Sg)}(h1:E.hspec f=some s):aC E f args Z K=got (s args Z) K:=by
 unfold aC gT
 rw[h1]
 dsimp only
 cases s args Z with
 |none=>exact propext ⟨λ⟨_,_,_,h,_⟩=>(by cases h),λh=>h.elim⟩
 |some y=>exact propext ⟨λ⟨_,_,_,h,hk⟩=>(by cases h;exact hk),λh=>⟨0,_,_,rfl,h⟩⟩
theorem qC {f:Nat}{args args':List V}{s:List V->Option V}{v v':V}(h1:E.hspec f=none)(h2:E.spec f=some s)(h3:aU (aQ Z E.ty true) args=some args')(h4:s args'=some v)(h5:bW [] E.ty false v=some v'):aC E f args Z K=K v' Z:=by
 have:∀r,gT E r f args Z=some (v',Z):=λr=>by
  unfold gT
  rw[h1,h2,h3]
  dsimp only
  rw[h4]
  dsimp only
  rw[h5]
 exact propext ⟨λ⟨n,_,_,h,hk⟩=>(by rw[this]at h;cases h;exact hk),λh=>⟨0,_,_,this _,h⟩⟩
theorem eD {f:Nat}{args:List V}{F:Fn}(h1:E.hspec f=none)(h2:E.spec f=none)(h3:E.fn f=some F)(h4:E.mode f=.shared):aC E f args Z K=nM E F args Z K:=by
 rw[propext uF]
 unfold aC gT
 rw[h1,h2,h3,h4]
 dsimp only
 refine propext ⟨λ⟨n,v,σ',h,hk⟩=>⟨n,v,σ',?_,hk⟩,λ⟨n,v,σ',h,hk⟩=>⟨n,v,σ',by rw[h],hk⟩⟩
 split at h
 ·rename_i e;rw[e];exact h
 ·cases h
theorem aH {f:Nat}{args args':List V}{F:Fn}(h1:E.hspec f=none)(h2:E.spec f=none)(h3:E.fn f=some F)(h4:E.mode f=.fD)(h5:aU (aQ Z E.ty true) args=some args') :
  aC E f args Z K=nM E F args' [] λv σ1=>match bW σ1 E.ty false v with
   |some v=>K v Z
   |none=>False:=by
 rw[propext uF]
 unfold aC gT
 rw[h1,h2,h3,h4]
 dsimp only
 rw[h5]
 dsimp only
 refine propext ⟨λ⟨n,v,σ',h,hk⟩=>?_,λ⟨n,v,σ',h,hk⟩=>?_⟩
 ·cases he:enter E (ev E n) F args' [] with
  |none=>rw[he]at h;cases h
  |some y=>
   obtain⟨u,σ1⟩:=y
   rw[he]at h
   dsimp only at h
   refine⟨n,u,σ1,he,?_⟩
   cases hs:bW σ1 E.ty false u with
   |none=>rw[hs]at h;cases h
   |some v1=>rw[hs]at h;cases h;exact hk
 ·cases hs:bW σ' E.ty false v with
  |none=>rw[hs]at hk;exact hk.elim
  |some v1=>
   rw[hs]at hk
   refine⟨n,v1,Z,?_,hk⟩
   rw[h]
   dsimp only
   rw[hs]
   rfl
theorem nM.mono {F:Fn}{args:List V}{K':V->Sg->Prop}(h:nM E F args Z K)(hk:∀v Z,K v Z->K' v Z):nM E F args Z K':=by
 rw[uF]at h ⊢
 obtain⟨n,v,σ',h,hk'⟩:=h
 exact⟨n,v,σ',h,hk _ _ hk'⟩
theorem aC.mono {f:Nat}{args:List V}{K':V->Sg->Prop}(h:aC E f args Z K)(hk:∀v Z,K v Z->K' v Z):aC E f args Z K':=by
 obtain⟨n,v,σ',h,hk'⟩:=h
 exact⟨n,v,σ',h,hk _ _ hk'⟩
def Lr:List Oper->Bool
 | []=>true
 |o::l=>(match o.op with
  | .buildSlice ..=>false
  | .call { callee:=.builtin .append,.. }=>false
  |_=>true)&&Lr l
theorem M5 {ev:yM}{dr:Fz}{op:Op}{fr:Fr}(h:(match op with
  | .buildSlice ..=>false
  | .call { callee:=.builtin .append,.. }=>false
  |_=>true)=true):iX E ev dr op fr Z=iX E ev .no op fr Z:=by
 cases op with
 |buildSlice t len parts=>cases h
 |call cc=>
  obtain⟨callee,args,ats⟩:=cc
  cases callee with
  |builtin b=>cases b <;> first | rfl | cases h
  |_=>rfl
 |_=>rfl
theorem Bl {ev:yM}{dr:Fz}{ops:Array Oper}:∀{l:List Oper}{fr:Fr}{Z:Sg},Lr l=true->gR E ev dr ops l fr Z=gR E ev .no ops l fr Z
 | [],_,_,_=>rfl
 |o::l,fr,Z,h=>by
  simp only[Lr,ah]at h
  have e:bB E ev dr ops o fr Z=bB E ev .no ops o fr Z:=by
   unfold bB
   rw[M5 h.1]
  rw[gR,gR,e]
  cases bB E ev .no ops o fr Z with
  |none=>rfl
  |some y=>exact Bl h.2
def aI (E:Env):Code->Bool
 | .region _ ops true=>(match cB E (eL E ops) ops with
  |some []=>true
  |_=>false)&&(Lr ops.toList||(match eL E ops with | .no=>true | _=>false))
 |_=>false
def a_:Code->Code
 | .region id ops _=>.region id ops false
 |c=>c
theorem Mq {c:Code}{fr:Fr}{Q:X->Fr->Sg->Prop}(h:aI E c=true):Wp E c fr Z Q=Wp E (a_ c) fr Z Q:=by
 unfold aI at h
 split at h
 case h_2=>cases h
 rename_i id ops
 rw[ah]at h
 obtain⟨h1,h2⟩:=h
 show _=Wp E (.region id ops false) fr Z Q
 rw[KL,Oc]
 unfold Rz uA bG
 cases hp:cB E (eL E ops) ops with
 |none=>rw[hp]at h1;cases h1
 |some l=>
  rw[hp]at h1
  cases l with
  |cons d l=>cases h1
  |nil=>
   simp only
   cases hd:eL E ops with
   |no=>rfl
   |_=>
    rw[hd]at h2
    simp only[Bool.or_false]at h2
    simp only[Bl h2]
def opsOf:Code->Array Oper
 | .region _ ops _=>ops
 |_=>#[]
def cutAt:List Nat->Code->Code
 | [],c=>c
 |0::p,.seq a _=>cutAt p a
 |1::p,.seq _ b=>cutAt p b
 |2::p,.block _ c=>cutAt p c
 |2::p,.loop c=>cutAt p c
 |0::p,.cond _ a _=>cutAt p a
 |1::p,.cond _ _ b=>cutAt p b
 |_,c=>c
end
end
section
theorem Un:((0:Nat):Int)=0:=rfl
theorem UG:(0:Int).toNat=0:=rfl
theorem Ws:(false==true)=false:=rfl
theorem Wr:(true==false)=false:=rfl
inductive iW where
 |k (c:Code) | blk (id:Nat) | lp (c:Code)
def M (E:Env):List iW->X->Fr->Sg->(X->Fr->Sg->Prop)->Prop
 | [],x,fr,Z,Q=>Q x fr Z
 | .k c::s,.normal,fr,Z,Q=>Wp E c fr Z λx fr Z=>M E s x fr Z Q
 | .k _::s,x,fr,Z,Q=>M E s x fr Z Q
 | .blk id::s,.exit i,fr,Z,Q=>if i=id then M E s .normal fr Z Q else M E s (.exit i) fr Z Q
 | .blk _::s,x,fr,Z,Q=>M E s x fr Z Q
 | .lp c::s,.normal,fr,Z,Q=>Wp E (.loop c) fr Z λx fr Z=>M E s x fr Z Q
 | .lp _::s,x,fr,Z,Q=>M E s x fr Z Q
def R (E:Env) (c:Code) (s:List iW) (fr:Fr) (Z:Sg) (Q:X->Fr->Sg->Prop):Prop:=Wp E c fr Z λx fr Z=>M E s x fr Z Q
def dU (E:Env) (ops:Array Oper) (l:List Oper) (st:Option (Fr × Sg)) (s:List iW) (Q:X->Fr->Sg->Prop):Prop:=match st with
 |some (fr,Z)=>uA E ops l fr Z λfr Z=>M E s .normal fr Z Q
 |none=>False
def xV (dst:Option Nat) (fr:Fr) (o:Option (V × Sg)):Option (Fr × Sg):=match o with
 |some (v,Z)=>some (eP fr dst v,Z)
 |none=>none
def FF (E:Env) (f:Nat) (args:List V) (Z:Sg) (dst:Option Nat) (fr:Fr) (ops:Array Oper) (l:List Oper) (s:List iW) (Q:X->Fr->Sg->Prop):Prop:=aC E f args Z λv Z=>dU E ops l (some (eP fr dst v,Z)) s Q
section
variable {E:Env}{s:List iW}{fr:Fr}{Z:Sg}{Q:X->Fr->Sg->Prop}
theorem Zr {x:X}:M E [] x fr Z Q=Q x fr Z:=rfl
theorem PU {c:Code}:M E (.k c::s) .normal fr Z Q=R E c s fr Z Q:=rfl
theorem PT {c:Code}{i:Nat}:M E (.k c::s) (.exit i) fr Z Q=M E s (.exit i) fr Z Q:=rfl
theorem Sl {c:Code}:M E (.k c::s) .ret fr Z Q=M E s .ret fr Z Q:=rfl
theorem Zs {id:Nat}:M E (.blk id::s) .normal fr Z Q=M E s .normal fr Z Q:=rfl
theorem J2 {id i:Nat}:M E (.blk id::s) (.exit i) fr Z Q=if i=id then M E s .normal fr Z Q else M E s (.exit i) fr Z Q:=rfl
theorem Na {id:Nat}:M E (.blk id::s) .ret fr Z Q=M E s .ret fr Z Q:=rfl
theorem m_lp {c:Code}:M E (.lp c::s) .normal fr Z Q=R E (.loop c) s fr Z Q:=rfl
theorem M_ {c:Code}{i:Nat}:M E (.lp c::s) (.exit i) fr Z Q=M E s (.exit i) fr Z Q:=rfl
theorem PS {c:Code}:M E (.lp c::s) .ret fr Z Q=M E s .ret fr Z Q:=rfl
theorem Vi:R E .skip s fr Z Q=M E s .normal fr Z Q:=wp_skip
theorem Vj {i:Nat}:R E (.exit i) s fr Z Q=M E s (.exit i) fr Z Q:=wp_exit
theorem Yh:R E .ret s fr Z Q=M E s .ret fr Z Q:=wp_ret
theorem Lp {a b:Code}:R E (.seq a b) s fr Z Q=R E a (.k b::s) fr Z Q:=by
 unfold R
 rw[wp_seq]
 congr 1
 funext x fr Z
 cases x <;> rfl
theorem R8 {id:Nat}{c:Code}:R E (.block id c) s fr Z Q=R E c (.blk id::s) fr Z Q:=by
 unfold R
 rw[wp_block]
 congr 1
 funext x fr Z
 cases x <;> rfl
theorem aF {c:Code}:R E (.loop c) s fr Z Q=R E c (.lp c::s) fr Z Q:=by
 unfold R
 rw[wp_loop]
 congr 1
 funext x fr Z
 cases x <;> rfl
def Kq (o:Option V):Option Bool:=match o with
 |some (.bool b)=>some b
 |_=>none
theorem IM {b:Bool}:Kq (some (.bool b))=some b:=rfl
theorem Vk {c:Operand}{t e:Code}:R E (.cond c t e) s fr Z Q=if Kq (aT fr c)=some true then R E t s fr Z Q else if Kq (aT fr c)=some false then R E e s fr Z Q else False:=by
 unfold R
 rw[wp_cond]
 cases aT fr c with
 |none=>rfl
 |some v=>
  cases v with
  |bool b=>cases b <;> rfl
  |_=>rfl
theorem Yi {id:Nat}{l:List Oper}:R E (.region id l.toArray false) s fr Z Q=dU E l.toArray l (some (fr,Z)) s Q:=Oc
theorem aK {c:Code}(h:aI E c=true):R E c s fr Z Q=R E (a_ c) s fr Z Q:=Mq h
variable {ops:Array Oper}{l:List Oper}{dst:Option Nat}{ty:Nat}{pos:String}{after:Array Edge}
theorem VK:dU E ops l none s Q=False:=rfl
theorem Zy:dU E ops [] (some (fr,Z)) s Q=M E s .normal fr Z Q:=Mr
theorem SH {op:Op}{j:Nat}{w:Bool}:dU E ops (⟨dst,op,ty,pos,after,some (j,w)⟩::l) (some (fr,Z)) s Q=if yielded ops fr j=some w then dU E ops (⟨dst,op,ty,pos,after,none⟩::l) (some (fr,Z)) s Q else dU E ops l (some (eP fr dst .undef,Z)) s Q:=by
 show uA E ops (⟨dst,op,ty,pos,after,some (j,w)⟩::l) fr Z _=_
 rw[wpOps_cons]
 by_cases h:yielded ops fr j=some w
 ·rw[b8 h,b8 (by show (yielded ops fr j==some w)=true;rw[h];simp)]
  exact Ce.symm
 ·rw[ay h,ay]
  ·rfl
  ·intro g
   have g:(yielded ops fr j==some w)=true:=g
   exact h (by simpa using g)
theorem mO {op:Op}{o:Option (V × Sg)}(h:∀K,kQ E op fr Z K=(match o with
  |some (v,Z)=>K v Z
  |none=>False)):dU E ops (⟨dst,op,ty,pos,after,none⟩::l) (some (fr,Z)) s Q=dU E ops l (xV dst fr o) s Q:=by
 show uA E ops (⟨dst,op,ty,pos,after,none⟩::l) fr Z _=_
 rw[Ce,h]
 cases o with
 |none=>rfl
 |some y=>rfl
theorem VM {x:Operand}:dU E ops (⟨dst,.move x,ty,pos,after,none⟩::l) (some (fr,Z)) s Q=dU E ops l (xV dst fr ((aT fr x).map (·,Z))) s Q:=mO λ_=>Mv
theorem Qf {x:Operand}:dU E ops (⟨dst,.assign x,ty,pos,after,none⟩::l) (some (fr,Z)) s Q=dU E ops l (xV dst fr ((aT fr x).map (·,Z))) s Q:=mO λ_=>G1
theorem VJ {c a b:Operand}:dU E ops (⟨dst,.pick c a b,ty,pos,after,none⟩::l) (some (fr,Z)) s Q=dU E ops l (xV dst fr (kA E fr Z c a b)) s Q:=mO λ_=>Mt
theorem SO {e:Nat}:dU E ops (⟨dst,.alloc e,ty,pos,after,none⟩::l) (some (fr,Z)) s Q=dU E ops l (xV dst fr (sS E fr Z e)) s Q:=mO λ_=>Jr
theorem Zz {e:Nat}{x:Operand}:dU E ops (⟨dst,.box e x,ty,pos,after,none⟩::l) (some (fr,Z)) s Q=dU E ops l (xV dst fr (HM E fr Z e x)) s Q:=mO λ_=>Od
theorem SL {t:Nat}{parts:Array (Nat × Operand)}:dU E ops (⟨dst,.build t parts,ty,pos,after,none⟩::l) (some (fr,Z)) s Q=dU E ops l (xV dst fr (qV E fr Z t parts)) s Q:=mO λ_=>Jp
theorem Gv {t len:Nat}{parts:Array (Nat × Operand)}:dU E ops (⟨dst,.buildSlice t len parts,ty,pos,after,none⟩::l) (some (fr,Z)) s Q=dU E ops l (xV dst fr (fT E fr Z t len parts)) s Q:=mO λ_=>Bz
theorem VN {t:Nat}{a:Operand}:dU E ops (⟨dst,.load t a,ty,pos,after,none⟩::l) (some (fr,Z)) s Q=dU E ops l (xV dst fr (iJ E fr Z t a)) s Q:=mO λ_=>Mw
theorem SC {t:Nat}{a x:Operand}:dU E ops (⟨dst,.store t a x,ty,pos,after,none⟩::l) (some (fr,Z)) s Q=dU E ops l (xV dst fr (j_ E fr Z t a x)) s Q:=mO λ_=>Jk
theorem J9 {x:Operand}:dU E ops (⟨dst,.nilCheck x,ty,pos,after,none⟩::l) (some (fr,Z)) s Q=dU E ops l (xV dst fr (jF E fr Z x)) s Q:=mO λ_=>DZ
theorem SN {op:BinOp}{t:Nat}{x y:Operand}{u:Nat}:dU E ops (⟨dst,.binOp op t x y u,ty,pos,after,none⟩::l) (some (fr,Z)) s Q=dU E ops l (xV dst fr (eZ E fr Z op t x y)) s Q:=mO λ_=>Jq
theorem VH {op:UnOp}{t:Nat}{x:Operand}:dU E ops (⟨dst,.unOp op t x,ty,pos,after,none⟩::l) (some (fr,Z)) s Q=dU E ops l (xV dst fr (oB E fr Z op x)) s Q:=mO λ_=>Ms
theorem Nk {u d:Nat}{x:Operand}:dU E ops (⟨dst,.convert u d x,ty,pos,after,none⟩::l) (some (fr,Z)) s Q=dU E ops l (xV dst fr (mB E fr Z u d x)) s Q:=mO λ_=>FM
theorem SE {t:Nat}{x:Operand}:dU E ops (⟨dst,.range t x,ty,pos,after,none⟩::l) (some (fr,Z)) s Q=dU E ops l (xV dst fr (pI E fr Z t x)) s Q:=mO λ_=>Jm
theorem BF {t:Nat}{x:Operand}:dU E ops (⟨dst,.makeInterface t x,ty,pos,after,none⟩::l) (some (fr,Z)) s Q=dU E ops l (xV dst fr (eF E fr Z t x)) s Q:=mO λ_=>xI
theorem Ni {t:Nat}{r:Option Operand}:dU E ops (⟨dst,.makeMap t r,ty,pos,after,none⟩::l) (some (fr,Z)) s Q=dU E ops l (xV dst fr (l_ E fr Z t r)) s Q:=mO λ_=>FK
theorem Ic {t:Nat}{a c:Operand}:dU E ops (⟨dst,.makeSlice t a c,ty,pos,after,none⟩::l) (some (fr,Z)) s Q=dU E ops l (xV dst fr (kB E fr Z t a c)) s Q:=mO λ_=>Cg
theorem SD {t:Nat}{x:Operand}{lo hi mx:Option Operand}:dU E ops (⟨dst,.slice t x lo hi mx,ty,pos,after,none⟩::l) (some (fr,Z)) s Q=dU E ops l (xV dst fr (sR E fr Z t x lo hi mx)) s Q:=mO λ_=>Jl
theorem Ig {t:Nat}{x:Operand}{f:Nat}:dU E ops (⟨dst,.fieldAddr t x f,ty,pos,after,none⟩::l) (some (fr,Z)) s Q=dU E ops l (xV dst fr (iE E fr Z t x f)) s Q:=mO λ_=>Ci
theorem SK {t:Nat}{x:Operand}{f:Nat}:dU E ops (⟨dst,.field t x f,ty,pos,after,none⟩::l) (some (fr,Z)) s Q=dU E ops l (xV dst fr (qU E fr Z t x f)) s Q:=mO λ_=>Jo
theorem Ie {t:Nat}{x i:Operand}:dU E ops (⟨dst,.indexAddr t x i,ty,pos,after,none⟩::l) (some (fr,Z)) s Q=dU E ops l (xV dst fr (cC E fr Z t x i)) s Q:=mO λ_=>Ch
theorem SG {t:Nat}{x i:Operand}:dU E ops (⟨dst,.index t x i,ty,pos,after,none⟩::l) (some (fr,Z)) s Q=dU E ops l (xV dst fr (qT E fr Z t x i)) s Q:=mO λ_=>Jn
theorem Qd {t:Nat}{x k:Operand}{ok:Bool}:dU E ops (⟨dst,.lookup t x k ok,ty,pos,after,none⟩::l) (some (fr,Z)) s Q=dU E ops l (xV dst fr (d_ E fr Z t x k ok)) s Q:=mO λ_=>G0
theorem Ib {t:Nat}{m k x:Operand}:dU E ops (⟨dst,.mapUpdate t m k x,ty,pos,after,none⟩::l) (some (fr,Z)) s Q=dU E ops l (xV dst fr (dX E fr Z t m k x)) s Q:=mO λ_=>Cf
theorem Nj {t:Operand}{i:Nat}:dU E ops (⟨dst,.extract t i,ty,pos,after,none⟩::l) (some (fr,Z)) s Q=dU E ops l (xV dst fr (cT E fr Z t i)) s Q:=mO λ_=>FL
theorem VL {x:Operand}:dU E ops (⟨dst,.next x true,ty,pos,after,none⟩::l) (some (fr,Z)) s Q=dU E ops l (xV dst fr (wZ E fr Z x)) s Q:=mO λ_=>Mu
theorem J_ {f:Nat}{a b:Array Operand}:dU E ops (⟨dst,.makeFunc (.func f) a b,ty,pos,after,none⟩::l) (some (fr,Z)) s Q=dU E ops l (xV dst fr (jG E fr Z f a b)) s Q:=mO λ_=>D3
theorem Nl {b:Builtin}{args:Array Operand}{ats:Array Nat}:dU E ops (⟨dst,.call { callee:=.builtin b,args:=args,argTypes:=ats },ty,pos,after,none⟩::l) (some (fr,Z)) s Q=dU E ops l (xV dst fr (eR E fr Z b args ats)) s Q:=mO λ_=>FN
theorem VP {f:Operand}{args:List Operand}{ats:Array Nat}:dU E ops (⟨dst,.call { callee:=.value f,args:=args.toArray,argTypes:=ats },ty,pos,after,none⟩::l) (some (fr,Z)) s Q=match aT fr f,fA fr args with
  |some (.fn k first cap),some l'=>FF E k (first++l'++cap) Z dst fr ops l s Q
  |_,_=>False:=by
 show uA E ops (⟨dst,.call { callee:=.value f,args:=args.toArray,argTypes:=ats },ty,pos,after,none⟩::l) fr Z _=_
 rw[Ce,Mx]
 rfl
theorem QL {f:Nat}{args:List V}{v:V}{σ':Sg}(h:∀K,aC E f args Z K=K v σ'):FF E f args Z dst fr ops l s Q=dU E ops l (some (eP fr dst v,σ')) s Q:=h _
abbrev KC (E:Env) (f:Nat) (args:List V) (Z:Sg) (v:V) (σ':Sg):Prop:=∀(dst:Option Nat) (fr:Fr) (ops:Array Oper) (l:List Oper) (s:List iW) (Q:X->Fr->Sg->Prop),FF E f args Z dst fr ops l s Q=dU E ops l (some (eP fr dst v,σ')) s Q
theorem cH {f:Nat}{args:List V}{v:V}{σ':Sg}(h:∀K,aC E f args Z K=K v σ'):KC E f args Z v σ':=λ_ _ _ _ _ _=>h _
theorem aO {f:Nat}{args:List V}{P:V->Sg->Prop}(h:aC E f args Z P)(hp:∀v σ',P v σ'->dU E ops l (some (eP fr dst v,σ')) s Q):FF E f args Z dst fr ops l s Q:=h.mono hp
end
theorem fP {E:Env}{s:List iW}{fr fr':Fr}{Z σ':Sg}{Q:X->Fr->Sg->Prop}{id n:Nat}{ops:Array Oper}(h:bG E (ev E n) ops fr Z=some (fr',σ')):R E (.region id ops true) s fr Z Q=M E s .normal fr' σ' Q:=by
 unfold R
 rw[KL]
 refine propext ⟨λ⟨m,fr1,σ1,h1,hq⟩=>?_,λhq=>⟨n,fr',σ',h,hq⟩⟩
 have a:=vH (mH E (Nat.le_max_left n m)) h
 rw[vH (mH E (Nat.le_max_right n m)) h1]at a
 cases a
 exact hq
def mQ (E:Env) (rs:List ResultVar) (K:V->Sg->Prop) (x:X) (fr:Fr) (Z:Sg):Prop:=match x with
 | .exit _=>False
 |_=>F_ E rs K fr Z
theorem Tp {E:Env}{rs:List ResultVar}{K:V->Sg->Prop}{fr:Fr}{Z:Sg}:mQ E rs K .ret fr Z=F_ E rs K fr Z:=rfl
theorem Kk {E:Env}{rs:List ResultVar}{K:V->Sg->Prop}{fr:Fr}{Z:Sg}:mQ E rs K .normal fr Z=F_ E rs K fr Z:=rfl
theorem V_ {E:Env}{F:Fn}{args:List V}{Z:Sg}{K:V->Sg->Prop}{fr:Fr}(h:Fr.init F.ntmps args=some fr):nM E F args Z K=R E F.code [] fr Z (mQ E F.results K):=by
 unfold nM
 rw[h]
 show Wp E F.code fr Z _=Wp E F.code fr Z _
 congr 1
theorem aao {F:FT}{u:Nat}{v:V}:(FT.set F u v).get u=v:=by rw[FT.dJ,b8 rfl]
theorem aan {F:FT}{t u:Nat}{v:V}(h:t≠u):(FT.set F u v).get t=F.get t:=by rw[FT.dJ,ay h]
def FT.fill (F:FT) (i:Nat):List V->FT
 | []=>F
 |v::r=>FT.fill (FT.set F i v) (i+1) r
theorem aa8 {F:FT}{i:Nat}:FT.fill F i []=F:=rfl
theorem aa7 {F:FT}{i:Nat}{v:V}{r:List V}:FT.fill F i (v::r)=FT.fill (FT.set F i v) (i+1) r:=rfl
abbrev GS:=And.intro @aao (And.intro @aan (And.intro @aa8 (And.intro @aa7 @Un)))
theorem fill_eq {n:Nat}:∀(l:List V) (F:FT) (i:Nat),i+l.length<=n->Fr.fill ⟨n,F⟩ i l=⟨n,FT.fill F i l⟩
 | [],_,_,_=>rfl
 |v::l,F,i,h=>by
  simp only[aa]at h
  rw[Fr.fill,Fr.Ps,b8 (by omega),fill_eq l _ _ (by omega)]
  rfl
theorem aX {E:Env}{F:Fn}{args:List V}{Z:Sg}{K:V->Sg->Prop}(h:Nat.ble args.length F.ntmps=true):nM E F args Z K=R E F.code [] ⟨F.ntmps,FT.fill .leaf 0 args⟩ Z (mQ E F.results K):=by
 refine V_ ?_
 unfold Fr.init
 rw[h]
 dsimp only
 rw[fill_eq _ _ _ (by rw[cz];exact je h)]
end
end Go.Ax
end
section
namespace Go.Proofs.YtmbikbgdbbcbmaaGreatDoor
open Go Go.Ax
abbrev KP:=(And.intro (And.intro (And.intro (And.intro (And.intro (And.intro (And.intro (And.intro @Un @UG) (And.intro @Ws @Wr)) (And.intro (And.intro @Zr @PU) (And.intro @PT @Sl))) (And.intro (And.intro (And.intro @Zs @J2) (And.intro @Na @m_lp)) (And.intro (And.intro @M_ @PS) (And.intro @Vi @Vj)))) (And.intro (And.intro (And.intro (And.intro @Yh @Lp) (And.intro @R8 @Vk)) (And.intro (And.intro @Yi @IM) (And.intro @Tp @Kk))) (And.intro (And.intro (And.intro @VM @Qf) (And.intro @VJ @SO)) (And.intro (And.intro @Zz @SL) (And.intro @Gv @VN))))) (And.intro (And.intro (And.intro (And.intro (And.intro @SC @J9) (And.intro @SN @VH)) (And.intro (And.intro @Nk @SE) (And.intro @VL @BF))) (And.intro (And.intro (And.intro @J_ @Ni) (And.intro @Ic @SD)) (And.intro (And.intro @Ig @SK) (And.intro @Ie @SG)))) (And.intro (And.intro (And.intro (And.intro @Qd @Ib) (And.intro @Nj @Nl)) (And.intro (And.intro @VP @SH) (And.intro @Zy @VK))) (And.intro (And.intro (And.intro @Ax.Fr.Ps @Ax.Fr.VZ) (And.intro @FT.dJ @FT.vD)) (And.intro (And.intro @b9.{1} @aq.{1}) (And.intro @ite_true.{1} @ite_false.{1})))))) (And.intro (And.intro (And.intro (And.intro (And.intro (And.intro @true_and @cn) (And.intro @false_and @and_false)) (And.intro (And.intro @bt.{0,0} @Option.map_none.{0,0}) (And.intro @fq.{0,0} @Option.bind_none.{0,0}))) (And.intro (And.intro (And.intro @iy.{0} @ag.{0}) (And.intro @Option.getD_none.{0} @gk.{0})) (And.intro (And.intro @jj.{0} @bz.{0}) (And.intro @cw.{0} @List.getElem?_nil.{0})))) (And.intro (And.intro (And.intro (And.intro @cr.{0} @di) (And.intro @mh @j9)) (And.intro (And.intro @Bool.or_false @Bool.false_or) (And.intro @Bool.or_true @Bool.true_or))) (And.intro (And.intro (And.intro @ai @Bool.true_eq_false) (And.intro @iz @mg)) (And.intro (And.intro @mj @Bool.and_false) (And.intro @oz @BEq.rfl.{0}))))) (And.intro (And.intro (And.intro (And.intro (And.intro @beq_self_eq_true.{0} @decide_true) (And.intro @decide_false @Nat.beq_refl)) (And.intro (And.intro @aa.{0} @bf.{0}) (And.intro @kz.{0} @og.{0}))) (And.intro (And.intro (And.intro @take_nil.{0} @eu.{0}) (And.intro @mz.{0} @pc.{0})) (And.intro (And.intro @List.append_eq.{0} @cq.{0}) (And.intro @dy.{0} @fh.{0})))) (And.intro (And.intro (And.intro (And.intro @jk.{0} @ni.{0}) (And.intro @cz @kj)) (And.intro (And.intro @ig.{0} @jm.{0}) (And.intro @iu.{0} @ae))) (And.intro (And.intro (And.intro @Int.natCast_nonneg @GF) (And.intro @jA @P8)) (And.intro (And.intro @GU @FW) (And.intro @fu.{0} (And.intro @Bool.not_eq_true @ne_eq.{1})))))))) (And.intro (And.intro (And.intro (And.intro (And.intro (And.intro (And.intro @not_true_eq_false @nu) (And.intro @gt_iff_lt.{0} @bg)) (And.intro (And.intro @FT.fill.eq_1 @FT.fill.eq_2) (And.intro @xV.eq_1 @xV.eq_2))) (And.intro (And.intro (And.intro @Ax.yielded.eq_1 @aT.eq_1) (And.intro @aT.eq_2 @aT.eq_3)) (And.intro (And.intro @aT.eq_4 @fA.eq_1) (And.intro @fA.eq_2 @lI.eq_1)))) (And.intro (And.intro (And.intro (And.intro @lI.eq_2 @pV.eq_1) (And.intro @pV.eq_2 @Ax.ofValue.eq_1)) (And.intro (And.intro @Ax.ofValue.eq_2 @bK.eq_1) (And.intro @bK.eq_2 @bK.eq_3))) (And.intro (And.intro (And.intro @bK.eq_4 @bK.eq_5) (And.intro @bK.eq_6 @bK.eq_7)) (And.intro (And.intro @bK.eq_8 @bK.eq_9) (And.intro @Ax.ofValues.eq_1 @Ax.ofValues.eq_2))))) (And.intro (And.intro (And.intro (And.intro (And.intro @eP.eq_1 @eP.eq_2) (And.intro @kA.eq_1 @sS.eq_1)) (And.intro (And.intro @HM.eq_1 @qV.eq_1) (And.intro @fT.eq_1 @iJ.eq_1))) (And.intro (And.intro (And.intro @j_.eq_1 @jF.eq_1) (And.intro @eZ.eq_1 @oB.eq_1)) (And.intro (And.intro @mB.eq_1 @eF.eq_1) (And.intro @jG.eq_1 @l_.eq_1)))) (And.intro (And.intro (And.intro (And.intro @kB.eq_1 @sR.eq_1) (And.intro @iE.eq_1 @qU.eq_1)) (And.intro (And.intro @cC.eq_1 @qT.eq_1) (And.intro @d_.eq_1 @dX.eq_1))) (And.intro (And.intro (And.intro @cT.eq_1 @eR.eq_1) (And.intro @Ax.builtin.eq_1 @Ax.builtin.eq_2)) (And.intro (And.intro @Ax.builtin.eq_3 @Ax.builtin.eq_4) (And.intro @Ax.builtin.eq_5 (And.intro @Ax.builtin.eq_6 @Ax.builtin.eq_7))))))) (And.intro (And.intro (And.intro (And.intro (And.intro (And.intro @Ax.builtin.eq_8 @Ax.builtin.eq_9) (And.intro @Ax.builtin.eq_10 @Ax.builtin.eq_11)) (And.intro (And.intro @Ax.builtin.eq_12 @Ax.isAgg.eq_1) (And.intro @Ax.isAgg.eq_2 @Ax.isAgg.eq_3))) (And.intro (And.intro (And.intro @Gy.eq_1 @Gy.eq_2) (And.intro @Gy.eq_3 @Ax.fieldAddr.eq_1)) (And.intro (And.intro @Ax.field.eq_1 @Ax.field.eq_2) (And.intro @Ax.part.eq_1 @Ax.bin.eq_1)))) (And.intro (And.intro (And.intro (And.intro @Ax.bin.eq_2 @Ax.bin.eq_3) (And.intro @Ax.bin.eq_4 @Ax.bin.eq_5)) (And.intro (And.intro @Ax.bin.eq_6 @Ax.bin.eq_7) (And.intro @tU.eq_1 @tU.eq_2))) (And.intro (And.intro (And.intro @tU.eq_3 @tU.eq_4) (And.intro @tU.eq_5 @tU.eq_6)) (And.intro (And.intro @tU.eq_7 @tU.eq_8) (And.intro @Ax.arith.eq_1 @Ax.arith.eq_2))))) (And.intro (And.intro (And.intro (And.intro (And.intro @Ax.arith.eq_3 @Ax.arith.eq_4) (And.intro @Ax.arith.eq_5 @Ax.arith.eq_6)) (And.intro (And.intro @Ax.arith.eq_7 @Ax.arith.eq_8) (And.intro @Ax.arith.eq_9 @Ax.arith.eq_10))) (And.intro (And.intro (And.intro @Ax.arith.eq_11 @Ax.arith.eq_12) (And.intro @Ax.arith.eq_13 @Ax.arith.eq_14)) (And.intro (And.intro @Ax.arith.eq_15 @Ax.arith.eq_16) (And.intro @Ax.unop.eq_1 @Ax.unop.eq_2)))) (And.intro (And.intro (And.intro (And.intro @Ax.unop.eq_3 @Ax.isConst.eq_1) (And.intro @Ax.isConst.eq_2 @Ax.V.aW.eq_1)) (And.intro (And.intro @Ax.V.aW.eq_2 @Ax.V.aW.eq_3) (And.intro @Ax.V.aW.eq_4 @Ax.V.cells.eq_1))) (And.intro (And.intro (And.intro @Ax.V.cells.eq_2 @Ax.setCells.eq_1) (And.intro @F_.eq_1 @Ax.results.eq_1)) (And.intro (And.intro @Ax.results.eq_2 @Ax.results.eq_3) (And.intro @Ax.Fr.init.eq_1 (And.intro @Ax.Fr.fill.eq_1 @Ax.Fr.fill.eq_2)))))))))
end Go.Proofs.YtmbikbgdbbcbmaaGreatDoor
end
section
namespace Go.Ax
open Go
theorem lT {a0 a1 r:Prop}(h:a0/\a1) (k:r):a0/\a1/\r:=by simp only[h,k,aj]
theorem gE {a0 a1 a2 r:Prop}(h:a0/\a1/\a2) (k:r):a0/\a1/\a2/\r:=by simp only[h,k,aj]
theorem fZ {a0 a1 a2 a3 r:Prop}(h:a0/\a1/\a2/\a3) (k:r):a0/\a1/\a2/\a3/\r:=by simp only[h,k,aj]
theorem mT {a0 a1 a2 a3 a4 r:Prop}(h:a0/\a1/\a2/\a3/\a4) (k:r):a0/\a1/\a2/\a3/\a4/\r:=by simp only[h,k,aj]
theorem Bt {a0 a1 a2 a3 a4 a5 r:Prop}(h:a0/\a1/\a2/\a3/\a4/\a5) (k:r):a0/\a1/\a2/\a3/\a4/\a5/\r:=by simp only[h,k,aj]
theorem Fp {a0 a1 a2 a3 a4 a5 a6 r:Prop}(h:a0/\a1/\a2/\a3/\a4/\a5/\a6) (k:r):a0/\a1/\a2/\a3/\a4/\a5/\a6/\r:=by simp only[h,k,aj]
theorem Br {a0 a1 a2 a3 a4 a5 a6 a7 a8 r:Prop}(h:a0/\a1/\a2/\a3/\a4/\a5/\a6/\a7/\a8) (k:r):a0/\a1/\a2/\a3/\a4/\a5/\a6/\a7/\a8/\r:=by simp only[h,k,aj]
theorem Ko {a0 a1 a2 a3 a4 a5 a6 a7 a8 a9 r:Prop}(h:a0/\a1/\a2/\a3/\a4/\a5/\a6/\a7/\a8/\a9) (k:r):a0/\a1/\a2/\a3/\a4/\a5/\a6/\a7/\a8/\a9/\r:=by simp only[h,k,aj]
inductive dS {α β:Type} (P:α->β->Prop):List α->List β->Prop
 |nil:dS P [] []
 |cons {a b l m}:P a b->dS P l m->dS P (a::l) (b::m)
namespace dS
variable {α β:Type}{P Q:α->β->Prop}{l l':List α}{m m':List β}
theorem len (h:dS P l m):l.length=m.length:=by
 induction h with
 |nil=>rfl
 |cons _ _ ih=>simp[ih]
theorem append (h:dS P l m) (k:dS P l' m'):dS P (l++l') (m++m'):=by
 induction h with
 |nil=>exact k
 |cons p _ ih=>exact .cons p ih
theorem take (h:dS P l m):∀n,dS P (l.take n) (m.take n):=by
 induction h with
 |nil=>intro n;rw[take_nil,take_nil];exact .nil
 |cons p _ ih=>
  intro n
  cases n with
  |zero=>exact .nil
  |succ n=>exact .cons p (ih n)
theorem drop (h:dS P l m):∀n,dS P (l.drop n) (m.drop n):=by
 induction h with
 |nil=>intro n;rw[pc,pc];exact .nil
 |cons p q ih=>
  intro n
  cases n with
  |zero=>exact .cons p q
  |succ n=>exact ih n
theorem get (h:dS P l m):∀(i:Nat) (x:β),m[i]?=some x->∃r,l[i]?=some r/\P r x:=by
 induction h with
 |nil=>intro i x e;cases e
 |cons p _ ih=>
  intro i x e
  cases i with
  |zero=>cases e;exact⟨_,rfl,p⟩
  |succ i=>exact ih i x e
theorem mem (h:dS P l m) {r:α}(hr:r∈l):∃x∈m,P r x:=by
 induction h with
 |nil=>cases hr
 |cons p _ ih=>
  rcases By.1 hr with rfl | hr
  ·exact⟨_,IN ..,p⟩
  ·obtain⟨x,h1,h2⟩:=ih hr;exact⟨x,No _ h1,h2⟩
theorem imp (h:dS P l m) (k:∀a b,P a b->Q a b):dS Q l m:=by
 induction h with
 |nil=>exact .nil
 |cons p _ ih=>exact .cons (k _ _ p) ih
theorem one {a:α}{b:β} (p:P a b):dS P [a] [b]:=.cons p .nil
theorem map {γ:Type}{f:γ->α}{g:γ->β} (k:∀c,P (f c) (g c)):∀l:List γ,dS P (l.map f) (l.map g)
 | []=>.nil
 |c::l=>.cons (k c) (map k l)
end dS
def bF:V->Bool
 | .bT .. | .dH .. | .imp .. | .bool _ | .int .. | .str _ | .fJ | .aB | .b_ | .rK | .rJ=>true
 |_=>false
theorem aL {c:V}(h:bF c=true):c.aW=true:=by cases c <;> first | rfl | cases h
theorem gW {Z:Sg}{ty:Nat->Option Ty}{g:Bool}{n:Nat}{c:V}(h:bF c=true):bI Z ty g (n+1) c=some c:=by
 cases c <;> first | rfl | cases h
theorem cU {Z:Sg}{ty:Nat->Option Ty}{g:Bool}{c:V}(h:bF c=true)(ht:bU g c=true):aQ Z ty g c=some c:=by
 have e:aQ.one Z ty g c=some c:=by
  unfold aQ.one
  rw[show eE=11+1 from rfl,gW h]
  simp only[ht,b9]
 cases c <;> first | exact e | cases h
theorem Ex {Z:Sg}{ty:Nat->Option Ty}{g:Bool}{c:V}(h:bF c=true)(ht:bU g c=true):bW Z ty g c=some c:=by
 have:=cU (Z:=Z) (ty:=ty) h ht
 cases c <;> first | exact this | cases h
theorem cF {c:V}(h:bF c=true):bU true c=true:=by cases c <;> first | rfl | cases h
theorem iS {α:Type}{f:α->Option α}:∀{l:List α},(∀x∈l,f x=some x)->aU f l=some l
 | [],_=>rfl
 |x::l,h=>by rw[aU,h x (IN ..),iS λy hy=>h y (No _ hy)]
theorem CA {Z:Sg}{ty:Nat->Option Ty}{g:Bool}{b n t:Nat}{cs:List V}{ex:Bool}{i:Ty}(hb:Z[b]?=some (.cells t cs ex))(hty:ty t=some i)(hlen:n*i.size<=cs.length)
  (hi:∀c∈cs.take (n*i.size),bF c=true/\bU g c=true):∃full,aQ Z ty g (.sl b 0 n none)=some (.bT g (rows i.size n (cs.take (n*i.size))) full):=by
 have hm:aU (λv=>match bI Z ty g 11 v with
   |some v=>if bU g v then some v else no "snap: borrowed"
   |none=>none) ((cs.drop 0).take (n*i.size))=some (cs.take (n*i.size)):=by
  rw[eu]
  refine iS λx hx=>?_
  rw[show 11=10+1 from rfl,gW (hi x hx).1]
  simp only[(hi x hx).2,b9]
 refine⟨ex&&decide (0<i.size)&&(0+n*i.size==cs.length),?_⟩
 show (match bI Z ty g 12 (.sl b 0 n none) with
  |some v=>if bU g v then some v else no "snap: borrowed"
  |none=>none)=_
 have e:bI Z ty g 12 (.sl b 0 n none)=some (.bT g (rows i.size n (cs.take (n*i.size))) (ex&&decide (0<i.size)&&(0+n*i.size==cs.length))):=by
  rw[bI]
  simp only[hb,hty]
  rw[b8 (by omega)]
  exact au (λo=>match o with
   |some l=>some (V.bT g (rows i.size n l) (ex&&decide (0<i.size)&&(0+n*i.size==cs.length)))
   |none=>none) hm
 rw[e]
 show (if (g || !g)=true then _ else _)=_
 rw[b8 (by cases g <;> rfl)]
theorem kK {sz:Nat}:∀(rs:List (List V)),(∀r∈rs,r.length=sz)->rows sz rs.length rs.flatten=rs
 | [],_=>rfl
 |r::rs,h=>by
  have hr:=h r (IN ..)
  rw[aa,rows,da,List.take_append_of_le_length (by omega),ak (by omega),List.drop_append_of_le_length (by omega),ja (by omega),cq,kK rs λx hx=>h x (No _ hx)]
theorem lS {sz:Nat}:∀(rs:List (List V)),(∀r∈rs,r.length=sz)->rs.flatten.length=rs.length*sz
 | [],_=>by simp
 |r::rs,h=>by
  rw[da,an,h r (IN ..),lS rs λx hx=>h x (No _ hx),aa,j8,ki]
theorem Ds {sz:Nat}:∀(rs:List (List V)),(∀r∈rs,r.length=sz)->∀(i:Nat) (r:List V),rs[i]?=some r->(rs.flatten.drop (i*sz)).take sz=r
 | [],_,i,r,e=>by cases e
 |x::rs,h,0,r,e=>by
  cases e
  have hr:=h x (IN ..)
  rw[fl,eu,da,List.take_append_of_le_length (by omega),ak (by omega)]
 |x::rs,h,i+1,r,e=>by
  have hr:=h x (IN ..)
  rw[da,qf,ja (by rw[j8];omega),cq,show (i+1)*sz-x.length=i*sz by rw[j8];omega]
  exact Ds rs (λy hy=>h y (No _ hy)) i r e
structure Lay (α:Type) where
 P:List V->α->Prop
 n:Nat
 len:∀r x,P r x->r.length=n
 im:∀r x,P r x->∀c∈r,bF c=true
def IS {α:Type} (L:Lay α) (v:V) (l:List α):Prop:=(v=.aB/\l=[])\/∃g rs full,v=.bT g rs full/\dS L.P rs l
def iO {α:Type} (L:Lay α) (v:V) (l:List α):Prop:=(v=.aB/\l=[])\/∃rs full,v=.bT false rs full/\dS L.P rs l
def LS {α:Type} (L:Lay α) (t:Nat) (Z:Sg) (v:V) (l:List α):Prop:=IS L v l\/∃b cs ex rs,v=.sl b 0 l.length none/\Z[b]?=some (.cells t cs ex)/\dS L.P rs l/\cs.take (l.length*L.n)=rs.flatten
def OS {α:Type} (L:Lay α) (t:Nat) (lo:Nat) (Z:Sg) (v:V) (l:List α):Prop:=(v=.aB/\l=[])\/∃b rs,lo<=b/\v=.sl b 0 l.length none/\Z[b]?=some (.cells t rs.flatten false)/\dS L.P rs l
section
variable {α:Type}{L:Lay α}{E:Env}{Z:Sg}{v:V}{l:List α}{t:Nat}
theorem iO.is (h:iO L v l):IS L v l:=h.imp id λ⟨rs,full,e,a⟩=>⟨false,rs,full,e,a⟩
theorem IS.ls (h:IS L v l) (Z:Sg) (t:Nat):LS L t Z v l:=.inl h
theorem IS.bF (h:IS L v l):bF v=true:=by rcases h with⟨rfl,-⟩ | ⟨_,_,_,rfl,-⟩ <;> rfl
theorem iO.tag (h:iO L v l):bU false v=true:=by rcases h with⟨rfl,-⟩ | ⟨_,_,rfl,-⟩ <;> rfl
theorem Lay.lens {rs:List (List V)}(h:dS L.P rs l):∀r∈rs,r.length=L.n:=λr hr=>by
 obtain⟨x,-,hx⟩:=h.mem hr
 exact L.len r x hx
theorem Lay.flat {rs:List (List V)}(h:dS L.P rs l):rs.flatten.length=l.length*L.n:=by rw[lS rs (Lay.lens h),h.len]
theorem OS.ls {lo:Nat}(h:OS L t lo Z v l):LS L t Z v l:=by
 rcases h with h | ⟨b,rs,-,e,hb,ha⟩
 ·exact .inl (.inl h)
 ·exact .inr ⟨b,_,_,rs,e,hb,ha,ak (by rw[Lay.flat ha];exact ae _)⟩
theorem LS.keep {U:Sg}(h:LS L t Z v l) (k:∀(b t:Nat) (cs:List V) (ex:Bool),Z[b]?=some (.cells t cs ex)->U[b]?=some (.cells t cs ex)):LS L t U v l:=
 h.imp id λ⟨b,cs,ex,rs,e,hb,r⟩=>⟨b,cs,ex,rs,e,k _ _ _ _ hb,r⟩
theorem OS.keep {U:Sg}{lo:Nat}(h:OS L t lo Z v l) (k:∀(b t:Nat) (cs:List V) (ex:Bool),lo<=b->Z[b]?=some (.cells t cs ex)->U[b]?=some (.cells t cs ex)):OS L t lo U v l:=
 h.imp id λ⟨b,rs,hl,e,hb,r⟩=>⟨b,rs,hl,e,k _ _ _ _ hl hb,r⟩
theorem pM {ts e:Nat}{si:Ty}(hts:E.ty ts=some si)(hk:si.kd=.sl e)(h:LS L t Z v l):lenOf E Z ts v=some l.length:=by
 unfold lenOf
 rw[hts]
 simp only[hk]
 rcases h with (⟨rfl,rfl⟩ | ⟨g,rs,full,rfl,ha⟩) | ⟨b,cs,ex,rs,rfl,-⟩
 ·rfl
 ·show some rs.length=_;rw[ha.len]
 ·rfl
theorem Fv {ts:Nat}{si ei:Ty}(hts:E.ty ts=some si)(hk:si.kd=.sl t)(ht:E.ty t=some ei)(hn:ei.size=L.n)(h:LS L t Z v l) {i:Nat}{x:α}(hx:l[i]?=some x) :
  ∃p r,indexAddr E ts v (.int .i64 (i:Int))=some p/\L.P r x/\(isAgg ei.kd=true->loadAt E Z t p=some (.agg r))/\(isAgg ei.kd=false->0<L.n->loadAt E Z t p=r.head?) /\
   ((∃g,p=.dH g r)\/∃b o,p=.ref b o/\∃u cs ex,Z[b]?=some (.cells u cs ex)/\o+L.n<=cs.length/\(cs.drop o).take L.n=r):=by
 have hneg:¬ ((i:Int)<0):=by omega
 obtain⟨kd,size,bytes,zero⟩:=si
 replace hk:kd=.sl t:=hk
 subst hk
 rcases h with (⟨rfl,rfl⟩ | ⟨g,rs,full,rfl,ha⟩) | ⟨b,cs,ex,rs,rfl,hb,ha,hc⟩
 ·cases hx
 ·obtain⟨r,hr,hp⟩:=ha.get i x hx
  have hl:=L.len r x hp
  refine⟨.dH g r,r,?_,hp,λhg=>?_,λhg hn0=>?_,.inl ⟨g,rfl⟩⟩
  ·unfold indexAddr
   simp only[hneg,aq,hts,ht,dj,hr]
   rw[b8 (by rw[hl,hn];exact BEq.rfl)]
  ·unfold loadAt
   simp only[ht,hg,b9]
   rw[b8 (by omega),ak (by omega)]
  ·unfold loadAt
   simp only[ht,hg,ai,aq]
 ·obtain⟨r,hr,hp⟩:=ha.get i x hx
  have hi:=(AS.1 hx).1
  have hl:=L.len r x hp
  have hfl:=Lay.flat ha
  have hlen:l.length*L.n<=cs.length:=by
   have:=au List.length hc
   rw[bl,hfl]at this
   omega
  have him:(i+1)*L.n<=l.length*L.n:=gr _ hi
  rw[j8]at him
  have ho:i*L.n+L.n<=cs.length:=by omega
  have hd:(cs.drop (i*L.n)).take L.n=r:=by
   have:=Ds rs (Lay.lens ha) i r hr
   rw[<- hc,List.drop_take,qa,mw (by omega)]at this
   exact this
  refine⟨.ref b (i*L.n),r,?_,hp,λhg=>?_,λhg hn0=>?_,.inr ⟨b,_,rfl,_,_,_,hb,ho,hd⟩⟩
  ·unfold indexAddr
   simp only[hneg,aq,hts,ht,dj]
   rw[b8 hi,hn,cz]
  ·unfold loadAt
   simp only[ht,hb,hg,b9]
   rw[hn,b8 ho,hd]
  ·unfold loadAt
   simp only[ht,hb,hg,ai,aq]
   rw[<- hd,List.head?_take,ay (by omega),List.head?_drop]
theorem BU {ei:Ty}(ht:E.ty t=some ei)(hn:ei.size=L.n)(h:LS L t Z v l):∃v',aQ Z E.ty true v=some v'/\IS L v' l:=by
 rcases h with h | ⟨b,cs,ex,rs,rfl,hb,ha,hc⟩
 ·exact⟨v,cU h.bF (cF h.bF),h⟩
 ·have hlen:l.length*L.n<=cs.length:=by
   have:=au List.length hc
   rw[bl,Lay.flat ha]at this
   omega
  obtain⟨full,e⟩:=CA (g:=true) (n:=l.length) hb ht (by rw[hn];exact hlen) (λc hcm=>by
   rw[hn,hc]at hcm
   obtain⟨r,hr,hcr⟩:=List.mem_flatten.1 hcm
   obtain⟨x,-,hp⟩:=ha.mem hr
   have:=L.im r x hp c hcr
   exact⟨this,cF this⟩)
  refine⟨_,e,.inr ⟨true,rs,full,?_,ha⟩⟩
  rw[hn,hc,<- ha.len,kK rs (Lay.lens ha)]
end
theorem aV {E:Env}{c:Code}{s:List iW}{w:Nat}{Q:X->Fr->Sg->Prop} (I:Nat->FT->Sg->Prop) (n:Nat)
  (step:∀i F Z,i<n->I i F Z->(∀F' σ',I (i+1) F' σ'->R E (.loop c) s ⟨w,F'⟩ σ' Q)->R E (.loop c) s ⟨w,F⟩ Z Q)
  (fin:∀F Z,I n F Z->R E (.loop c) s ⟨w,F⟩ Z Q):∀(k i:Nat) (F:FT) (Z:Sg),i+k=n->I i F Z->R E (.loop c) s ⟨w,F⟩ Z Q:=by
 intro k
 induction k with
 |zero=>intro i F Z e h;rw[kj]at e;subst e;exact fin F Z h
 |succ k ih=>intro i F Z e h;exact step i F Z (by omega) h λF' σ' h'=>ih (i+1) F' σ' (by omega) h'
end Go.Ax
end
section
namespace Go.Ax
open Go
section
def bH {α:Type} (L:Lay α) (t:Nat) (Z:Sg) (v:V) (l:List α):Prop:=(v=.aB/\l=[])\/∃b rs ex,v=.sl b 0 l.length none/\Z[b]?=some (.cells t rs.flatten ex)/\dS L.P rs l
def aZ:V->Option Nat
 | .sl b _ _ _=>some b
 |_=>none
def Sp (Z σ':Sg) (w:V):Prop:=∀(c:Nat) (o:O),Z[c]?=some o->aZ w≠some c->σ'[c]?=some o
section
variable {α:Type}{L:Lay α}{E:Env}{Z:Sg}{w x:V}{l m:List α}{t ts:Nat}{si ei:Ty}{ats:Array Nat}
theorem bH.ls (h:bH L t Z w l):LS L t Z w l:=by
 rcases h with h | ⟨b,rs,ex,e,hb,ha⟩
 ·exact .inl (.inl h)
 ·exact .inr ⟨b,_,_,rs,e,hb,ha,ak (by rw[Lay.flat ha];exact ae _)⟩
theorem bH.keep {σ':Sg}(h:bH L t Z w l) (k:∀c o,aZ w=some c->Z[c]?=some o->σ'[c]?=some o):bH L t σ' w l:=by
 rcases h with h | ⟨b,rs,ex,rfl,hb,ha⟩
 ·exact .inl h
 ·exact .inr ⟨b,rs,ex,rfl,k b _ rfl hb,ha⟩
theorem bH.app (h:bH L t Z w l) (U:Sg):bH L t (Z++U) w l:=h.keep λc o _ e=>by
 rw[bq (AS.1 e).1];exact e
theorem Sp.refl (Z:Sg) (w:V):Sp Z Z w:=λ_ _ h _=>h
theorem cZ {a b c:Nat}(h:roomy b c=true)(hab:a<=b):roomy a c=true:=by
 unfold roomy at h ⊢
 rw[IT]at h ⊢
 generalize 281474976710656=B at h ⊢
 have h2:(2*a+256)*(c+1)<=(2*b+256)*(c+1):=gr _ (Nat.add_le_add_right (Nat.mul_le_mul_left 2 hab) 256)
 exact gh h2 h
theorem Am {a b c:Nat}(h:roomy b c=true)(hab:a<=b):lF a c=true:=by
 unfold roomy at h
 unfold lF
 rw[IT]at h ⊢
 generalize 281474976710656=B at h ⊢
 have h2:a*(c+1)<=(2*b+256)*(c+1):=gr _ (by omega)
 exact gh h2 h
theorem iB (hts:E.ty ts=some si)(hk:si.kd=.sl t)(ht:E.ty t=some ei)(hn:ei.size=L.n)(hn0:0<L.n)(hpl:eY E ats=true)(hats:ats[0]?=some ts)(h:bH L t Z w l) {new:List (List V)}
  (hx:elems Z ei.size x=some (new.flatten,m.length))(hm:dS L.P new m)(hr:roomy (l.length+m.length) ei.bytes=true) :
  ∃w' σ',append E Z ats w x=some (w',σ')/\bH L t σ' w' (l++m)/\Sp Z σ' w/\Z.length<=σ'.length/\∀b,aZ w'=some b->aZ w=some b\/Z.length<=b:=by
 obtain⟨kd,size,bytes,zero⟩:=si
 replace hk:kd=.sl t:=hk
 subst hk
 have hfm:=Lay.flat hm
 have hne:(ei.size==0)=false:=by rw[hn];simp;omega
 have hr2:lF m.length ei.bytes=true:=Am hr (by omega)
 unfold append
 simp only[hats,hts,ht,hpl,hne,hx,di,j9,ai,aq]
 rcases h with⟨rfl,rfl⟩ | ⟨b,rs,ex,rfl,hbk,ha⟩
 ·by_cases h0:m.length=0
  ·simp only[h0,b9]
   obtain rfl:=jh.1 h0
   exact⟨_,_,rfl,.inl ⟨rfl,rfl⟩,Sp.refl _ _,ae _,λb e=>by cases e⟩
  ·simp only[h0,aq,hr2,b9]
   refine⟨_,_,rfl,.inr ⟨Z.length,new,false,by rw[cq],by simp,by rw[cq];exact hm⟩,λc o e _=>?_,by simp,λb e=>by cases e;exact .inr (ae _)⟩
   rw[bq (AS.1 e).1];exact e
 ·have hfa:=Lay.flat ha
  have hlt:=(AS.1 hbk).1
  have hform:(t==t&&decide (l.length*ei.size<=rs.flatten.length)&&roomy (l.length+m.length) ei.bytes)=true:=by
   rw[hr,hfa,hn];simp
  simp only[hbk,cz,hform,di,ai,aq]
  by_cases h0:m.length=0
  ·obtain rfl:=jh.1 h0
   have hnew:new=[]:=by
    have:=hm.len
    exact jh.1 (by simpa using this)
   subst hnew
   rw[b8 (by rw[hfa,hn];simp)]
   refine⟨_,_,rfl,.inr ⟨b,rs,ex,by simp,?_,by simpa using ha⟩,λc o e hne=>?_,by simp,λb e=>.inl e⟩
   ·rw[bp hlt]
    unfold setCells
    rw[hn,ak (by rw[hfa];exact ae _),ja (by rw[hfa];simp)]
    simp
   ·rw[OF (λe2=>hne (by rw[e2];rfl))];exact e
  ·have hbig:¬ (l.length+m.length)*ei.size<=rs.flatten.length:=by
    rw[hfa,hn,ot]
    have:0<m.length*L.n:=Nat.mul_pos (Nat.pos_of_ne_zero h0) hn0
    omega
   have htk:rs.flatten.take (l.length*ei.size)=rs.flatten:=ak (by rw[hfa,hn];exact ae _)
   have hfl:rs.flatten++new.flatten=(rs++new).flatten:=by simp
   simp only[hbig,aq,b9,htk,eu,hfl]
   cases ex with
   |true=>
    refine⟨_,_,rfl,.inr ⟨Z.length,rs++new,false,by simp,by simp,ha.append hm⟩,λc o e _=>?_,by simp,λb e=>by cases e;exact .inr (ae _)⟩
    rw[bq (AS.1 e).1];exact e
   |false=>
    refine⟨_,_,rfl,.inr ⟨Z.length,rs++new,false,by simp,by simp,ha.append hm⟩,λc o e hne=>?_,by simp,λb e=>by cases e;exact .inr (ae _)⟩
    have hc:=(AS.1 e).1
    rw[bq (by simpa using hc),OF (λe2=>hne (by rw[e2];rfl))];exact e
theorem Rs (hts:E.ty ts=some si)(hk:si.kd=.sl t)(ht:E.ty t=some ei)(hn:ei.size=L.n)(hn0:0<L.n)(hpl:eY E ats=true)(hats:ats[0]?=some ts) {new:List (List V)}
  (hx:elems Z ei.size x=some (new.flatten,m.length))(hm:dS L.P new m)(hr:lF m.length ei.bytes=true) :
  ∃w' σ',append E Z ats .aB x=some (w',σ')/\bH L t σ' w' m:=by
 obtain⟨kd,size,bytes,zero⟩:=si
 replace hk:kd=.sl t:=hk
 subst hk
 have hne:(ei.size==0)=false:=by rw[hn];simp;omega
 unfold append
 simp only[hats,hts,ht,hpl,hne,hx,di,j9,ai,aq]
 by_cases h0:m.length=0
 ·simp only[h0,b9]
  obtain rfl:=jh.1 h0
  exact⟨_,_,rfl,.inl ⟨rfl,rfl⟩⟩
 ·simp only[h0,aq,hr,b9]
  exact⟨_,_,rfl,.inr ⟨Z.length,new,false,rfl,by simp,hm⟩⟩
theorem kO {r:List V}{ex:Bool}{U:Sg}{n:Nat}(hr:r.length=n):elems (U++[.cells t r ex]) n (.sl U.length 0 1 none)=some ([r].flatten,1):=by
 unfold elems
 simp[ak (Nat.le_of_eq hr),hr]
theorem Ep {rs:List (List V)}(h:dS L.P rs l):BB L.n rs=true:=by
 cases h with
 |nil=>rfl
 |cons p _=>show (_==_)=true;rw[L.len _ _ p];exact BEq.rfl
theorem mI (ia:IS L x l) (Z:Sg):∃rs,elems Z L.n x=some (rs.flatten,l.length)/\dS L.P rs l:=by
 rcases ia with⟨rfl,rfl⟩ | ⟨g,rs,full,rfl,ha⟩
 ·exact⟨[],rfl,.nil⟩
 ·exact⟨rs,by unfold elems;simp only[];rw[b8 (Ep ha),ha.len],ha⟩
theorem Qw (ia:LS L t Z x l):∃rs,elems Z L.n x=some (rs.flatten,l.length)/\dS L.P rs l:=by
 rcases ia with ia | ⟨b,cs,ex,rs,rfl,hb,ha,hc⟩
 ·exact mI ia Z
 ·refine⟨rs,?_,ha⟩
  have:l.length*L.n<=cs.length:=by
   have:=au List.length hc
   rw[bl,Lay.flat ha]at this
   omega
  unfold elems
  simp only[hb,cz,eu]
  rw[b8 this,hc]
theorem dS.set {β γ:Type}{P:β->γ->Prop}{a:List β}{b:List γ}(h:dS P a b) {r:β}{y:γ}(hr:P r y):∀i,dS P (a.set i r) (b.set i y):=by
 induction h with
 |nil=>intro i;cases i <;> exact .nil
 |cons p q ih=>
  intro i
  cases i with
  |zero=>exact .cons hr q
  |succ i=>exact .cons p (ih i)
theorem CE {sz:Nat}:∀(rs:List (List V)) (i:Nat) (r:List V),(∀x∈rs,x.length=sz)->r.length=sz->i<rs.length->setCells rs.flatten (i*sz) r=(rs.set i r).flatten
 | [],i,r,_,_,h=>by simp at h
 |y::rs,0,r,hl,hr,_=>by
  have hy:=hl y (IN ..)
  unfold setCells
  rw[fl,kz,cq,cz,jk,da,da,hr,<- hy,List.drop_left]
 |y::rs,i+1,r,hl,hr,h=>by
  have hy:=hl y (IN ..)
  have ih:=CE rs i r (λx hx=>hl x (No _ hx)) hr (by simpa using h)
  unfold setCells at ih ⊢
  rw[ni,da,da,<- ih,j8,List.take_append,qf,ak (by omega),ja (by omega),cq,show i*sz+sz-y.length=i*sz by omega,show i*sz+sz+r.length-y.length=i*sz+r.length by omega,cm,cm,cm]
theorem Et (hts:E.ty ts=some si)(hk:si.kd=.sl t)(ht:E.ty t=some ei)(hn:ei.size=L.n)(h:bH L t Z w l) {i:Nat}(hi:i<l.length) {u:V}{y:α}(hu:L.P u.cells y)(hok:u.cells.all V.aW=true) :
  ∃b,indexAddr E ts w (.int .i64 (i:Int))=some (.ref b (i*L.n))/\aZ w=some b/\∃σ',storeAt E Z t (.ref b (i*L.n)) u=some σ'/\bH L t σ' w (l.set i y)/\Sp Z σ' w/\σ'.length=Z.length:=by
 obtain⟨kd,size,bytes,zero⟩:=si
 replace hk:kd=.sl t:=hk
 subst hk
 have hneg:¬ ((i:Int)<0):=by omega
 rcases h with⟨rfl,rfl⟩ | ⟨b,rs,ex,rfl,hbk,ha⟩
 ·simp at hi
 ·have hlt:=(AS.1 hbk).1
  have hfa:=Lay.flat ha
  have hul:=L.len _ _ hu
  have him:(i+1)*L.n<=l.length*L.n:=gr _ hi
  rw[j8]at him
  have hrl:i<rs.length:=by rw[ha.len];exact hi
  refine⟨b,?_,rfl,_,?_,.inr ⟨b,rs.set i u.cells,ex,by rw[fc],bp hlt,ha.set hu i⟩,λc o e hne=>?_,by simp⟩
  ·unfold indexAddr
   simp only[hneg,aq,hts,ht,dj,hi,b9,hn,cz]
  ·unfold storeAt
   simp only[ht,hbk]
   rw[b8 (by simp only[hul,hn,hok,mg,BEq.rfl,iz,IT];rw[hfa];omega),CE rs i u.cells (Lay.lens ha) hul hrl]
  ·rw[OF (λe2=>hne (by rw[e2];rfl))];exact e
theorem oV (ht:E.ty t=some ei)(hn:ei.size=L.n)(hF:∀r x,L.P r x->∀c∈r,bU false c=true)(h:bH L t Z w l):∃v',bW Z E.ty false w=some v'/\iO L v' l:=by
 rcases h with⟨rfl,rfl⟩ | ⟨b,rs,ex,rfl,hb,ha⟩
 ·exact⟨.aB,rfl,.inl ⟨rfl,rfl⟩⟩
 ·have hfl:=Lay.flat ha
  have htk:rs.flatten.take (l.length*L.n)=rs.flatten:=ak (by omega)
  obtain⟨full,e⟩:=CA (g:=false) (n:=l.length) hb ht (by rw[hn];omega) (λc hcm=>by
   rw[hn,htk]at hcm
   obtain⟨r,hr,hcr⟩:=List.mem_flatten.1 hcm
   obtain⟨x,-,hp⟩:=ha.mem hr
   exact⟨L.im r x hp c hcr,hF r x hp c hcr⟩)
  refine⟨_,e,.inr ⟨rs,full,?_,ha⟩⟩
  rw[hn,htk,<- ha.len,kK rs (Lay.lens ha)]
theorem rD {lo hi:Option V}{a b:Nat}(hts:E.ty ts=some si)(hk:si.kd=.sl t)(ht:E.ty t=some ei)(hn:ei.size=L.n) (ia:IS L w l)(hb:hi=none/\b=l.length\/hi=some (.int .i64 (b:Int)))(ha:lo=none/\a=0\/lo=some (.int .i64 (a:Int)))(hab:a<=b)(hbl:b<=l.length) :
  ∃w',(∀Z,slice E Z ts w lo hi none=some w')/\IS L w' ((l.take b).drop a)/\(iO L w l->iO L w' ((l.take b).drop a)):=by
 obtain⟨kd,size,bytes,zero⟩:=si
 replace hk:kd=.sl t:=hk
 subst hk
 have bd:∀(n d:Nat) (o:Option V) (c:Nat),(o=none/\c=d\/o=some (.int .i64 (c:Int)))->c<=n->bound n o d=some c:=by
  intro n d o c h hc
  rcases h with⟨rfl,rfl⟩ | rfl
  ·rfl
  ·unfold bound
   simp only[]
   rw[b8]
   ·rfl
   ·simp only[ah,IT];omega
 rcases ia with⟨rfl,rfl⟩ | ⟨g,rs,full,rfl,hal⟩
 ·have hb0:b=0:=by simpa using hbl
  subst hb0
  obtain rfl:a=0:=by omega
  refine⟨.aB,λZ=>?_,.inl ⟨rfl,by simp⟩,λ_=>.inl ⟨rfl,by simp⟩⟩
  unfold slice
  simp only[hts,ht,jj,mj]
  rw[show bound 0 none 0=some 0 from rfl]
  simp only[]
  rw[bd 0 0 hi 0 (by rcases hb with⟨e,_⟩ | e;exact .inl ⟨e,rfl⟩;exact .inr e) (ae _)]
  simp only
  rw[bd 0 0 lo 0 ha (ae _)]
 ·have hlen:=hal.len
  have hres:dS L.P ((rs.drop a).take (b-a)) ((l.take b).drop a):=by
   rw[show (l.take b).drop a=(l.drop a).take (b-a) by rw[List.drop_take]]
   exact (hal.drop a).take _
  refine⟨.bT g ((rs.drop a).take (b-a)) (qX none rs.length b full rs.length),λZ=>?_,.inr ⟨g,_,_,rfl,hres⟩,λhF=>.inr ⟨(rs.drop a).take (b-a),qX none rs.length b full rs.length,?_,hres⟩⟩
  ·unfold slice
   simp only[hts,ht,jj,mj]
   rw[hn,Ep hal]
   simp only[di,ai,aq]
   rw[show bound rs.length none rs.length=some rs.length from rfl]
   simp only
   rw[bd rs.length rs.length hi b (by rw[hlen];exact hb) (by omega)]
   simp only
   rw[bd b 0 lo a ha hab]
  ·rcases hF with⟨e,-⟩ | ⟨_,_,e,-⟩
   ·cases e
   ·cases e;rfl
end
end
end Go.Ax
end
section
namespace Go.Proofs.YtmbikbgdbbcbmaaGreatDoor
open Go Go.Ax Go.AxS
section
structure bJ (E:Env):Prop where
 oU:E.ty 3=some { kd:=.int .i64,size:=1,bytes:=8,zero:=.int .i64 0 }
 uC:E.ty 4=some { kd:=.bool,size:=1,bytes:=1,zero:=.bool false }
 ty5:E.ty 5=some { kd:=.int .u8,size:=1,bytes:=1,zero:=.int .u8 0 }
 cM:E.ty 9=some { kd:=.str,size:=1,bytes:=16,zero:=.str [] }
 qA:E.ty 22=some { kd:=.sl 46,size:=1,bytes:=24,zero:=.aB }
 fO:E.ty 23=some { kd:=.sl 51,size:=1,bytes:=24,zero:=.aB }
 aY:E.ty 24=some { kd:=.sl 9,size:=1,bytes:=24,zero:=.aB }
 Om:E.ty 40=some { kd:=.sl 24,size:=1,bytes:=24,zero:=.aB }
 fN:E.ty 44=some { kd:=.sl 82,size:=1,bytes:=24,zero:=.aB }
 bC:E.ty 46=some { kd:=.jR [(0,9),(1,24),(2,24),(3,24),(4,44)],size:=5,bytes:=112,zero:=.agg [.str [],.aB,.aB,.aB,.aB] }
 cL:E.ty 51=some { kd:=.jR [(0,4),(1,9)],size:=2,bytes:=24,zero:=.agg [.bool false,.str []] }
 ty64:E.ty 64=some { kd:=.int .i64,size:=1,bytes:=8,zero:=.int .i64 0 }
 uH:E.ty 68=some { kd:=.sl 105,size:=1,bytes:=24,zero:=.aB }
 cN:E.ty 82=some { kd:=.jR [(0,9),(1,3),(2,24),(3,24),(4,3)],size:=5,bytes:=80,zero:=.agg [.str [],.int .i64 0,.aB,.aB,.int .i64 0] }
 D4:E.ty 97=some { kd:=.map 9 9,size:=1,bytes:=8,zero:=.b_ }
 lO:E.ty 105=some { kd:=.sl 4,size:=1,bytes:=24,zero:=.aB }
 W6:E.ty 107=some { kd:=.map 9 24,size:=1,bytes:=8,zero:=.b_ }
 tT:E.ty 109=some { kd:=.map 9 4,size:=1,bytes:=8,zero:=.b_ }
 Oo:E.ty 115=some { kd:=.sl 3,size:=1,bytes:=24,zero:=.aB }
 ZR:E.hspec 197=none
 Xt:E.spec 197=none
 aaF:E.fn 197=some (aA Tryz.f197)
 Y0:E.mode 197=.fD
 ZS:E.hspec 196=none
 Xu:E.spec 196=none
 aaG:E.fn 196=some (aA Tryz.f196)
 Y1:E.mode 196=.fD
 ZY:E.hspec 173=none
 XA:E.spec 173=none
 aaL:E.fn 173=some (aA Tryz.f173)
 Y6:E.mode 173=.fD
 aaj:E.hspec 100=none
 XV:E.spec 100=none
 aa5:E.fn 100=some (aA Tryz.f100)
 Zp:E.mode 100=.fD
 ZZ:E.hspec 172=none
 XB:E.spec 172=none
 aaM:E.fn 172=some (aA Tryz.f172)
 Y7:E.mode 172=.fD
 Z6:E.hspec 138=none
 XI:E.spec 138=none
 aaS:E.fn 138=some (aA Tryz.f138)
 Zc:E.mode 138=.fD
 Z7:E.hspec 137=none
 XJ:E.spec 137=none
 aaT:E.fn 137=some (aA Tryz.f137)
 Zd:E.mode 137=.fD
 aaf:E.hspec 111=none
 XR:E.spec 111=none
 aa1:E.fn 111=some (aA Tryz.f111)
 Zl:E.mode 111=.fD
 hs54:E.hspec 54=none
 sp54:E.spec 54=none
 fn54:E.fn 54=some (aA Tryz.f54)
 md54:E.mode 54=.fD
 hs56:E.hspec 56=none
 sp56:E.spec 56=none
 fn56:E.fn 56=some (aA Tryz.f56)
 md56:E.mode 56=.fD
 hs84:E.hspec 84=none
 sp84:E.spec 84=none
 fn84:E.fn 84=some (aA Tryz.f84)
 md84:E.mode 84=.fD
 hs96:E.hspec 96=none
 sp96:E.spec 96=none
 fn96:E.fn 96=some (aA Tryz.f96)
 md96:E.mode 96=.fD
 aae:E.hspec 112=none
 XQ:E.spec 112=none
 aa0:E.fn 112=some (aA Tryz.f112)
 Zk:E.mode 112=.fD
 hs46:E.hspec 46=none
 sp46:E.spec 46=none
 fn46:E.fn 46=some (aA Tryz.f46)
 md46:E.mode 46=.fD
 hs45:E.hspec 45=none
 sp45:E.spec 45=none
 fn45:E.fn 45=some (aA Tryz.f45)
 md45:E.mode 45=.fD
 aag:E.hspec 110=none
 XS:E.spec 110=none
 aa2:E.fn 110=some (aA Tryz.f110)
 Zm:E.mode 110=.fD
 hs74:E.hspec 74=none
 sp74:E.spec 74=none
 fn74:E.fn 74=some (aA Tryz.f74)
 md74:E.mode 74=.shared
 hs12:E.hspec 12=none
 OW:E.spec 12=none
 fn12:E.fn 12=some (aA Tryz.f12)
 md12:E.mode 12=.fD
 ZJ:E.hspec 236=none
 Xl:E.spec 236=none
 aax:E.fn 236=some (aA Tryz.f236)
 YS:E.mode 236=.fD
 ZE:E.hspec 266=none
 Xg:E.spec 266=none
 aas:E.fn 266=some (aA Tryz.f266)
 YN:E.mode 266=.fD
 ZI:E.hspec 237=none
 Xk:E.spec 237=none
 aaw:E.fn 237=some (aA Tryz.f237)
 YR:E.mode 237=.fD
 ZF:E.hspec 265=none
 Xh:E.spec 265=none
 aat:E.fn 265=some (aA Tryz.f265)
 YO:E.mode 265=.fD
 ZQ:E.hspec 199=none
 Xs:E.spec 199=none
 aaE:E.fn 199=some (aA Tryz.f199)
 YZ:E.mode 199=.fD
 ZV:E.hspec 183=none
 Xx:E.spec 183=none
 aaI:E.fn 183=some (aA Tryz.f183)
 Y3:E.mode 183=.fD
 Z4:E.hspec 150=none
 XG:E.spec 150=none
 aaQ:E.fn 150=some (aA Tryz.f150)
 Za:E.mode 150=.fD
 ZU:E.hspec 184=none
 Xw:E.spec 184=none
 aaH:E.fn 184=some (aA Tryz.f184)
 Y2:E.mode 184=.fD
 ZP:E.hspec 212=none
 Xr:E.spec 212=none
 aaD:E.fn 212=some (aA Tryz.f212)
 YY:E.mode 212=.fD
 ZX:E.hspec 181=none
 Xz:E.spec 181=none
 aaK:E.fn 181=some (aA Tryz.f181)
 Y5:E.mode 181=.fD
 ZN:E.hspec 214=none
 Xp:E.spec 214=none
 aaB:E.fn 214=some (aA Tryz.f214)
 YW:E.mode 214=.fD
 ZM:E.hspec 215=none
 Xo:E.spec 215=none
 aaA:E.fn 215=some (aA Tryz.f215)
 YV:E.mode 215=.fD
 ZW:E.hspec 182=none
 Xy:E.spec 182=none
 aaJ:E.fn 182=some (aA Tryz.f182)
 Y4:E.mode 182=.fD
 ZL:E.hspec 216=none
 Xn:E.spec 216=none
 aaz:E.fn 216=some (aA Tryz.f216)
 YU:E.mode 216=.fD
 ZK:E.hspec 217=none
 Xm:E.spec 217=none
 aay:E.fn 217=some (aA Tryz.f217)
 YT:E.mode 217=.fD
 Z5:E.hspec 149=none
 XH:E.spec 149=none
 aaR:E.fn 149=some (aA Tryz.f149)
 Zb:E.mode 149=.fD
 aab:E.hspec 119=none
 XO:E.spec 119=none
 aaY:E.fn 119=some (aA Tryz.f119)
 Zi:E.mode 119=.fD
 Z3:E.hspec 156=none
 XF:E.spec 156=none
 aaP:E.fn 156=some (aA Tryz.f156)
 Y_:E.mode 156=.fD
 Z2:E.hspec 157=none
 XE:E.spec 157=none
 aaO:E.fn 157=some (aA Tryz.f157)
 Y9:E.mode 157=.fD
 Z1:E.hspec 158=none
 XD:E.spec 158=none
 aaN:E.fn 158=some (aA Tryz.f158)
 Y8:E.mode 158=.fD
 aaa:E.hspec 120=none
 XN:E.spec 120=none
 aaX:E.fn 120=some (aA Tryz.f120)
 Zh:E.mode 120=.fD
 hs68:E.hspec 68=none
 sp68:E.spec 68=none
 fn68:E.fn 68=some (aA Tryz.f68)
 md68:E.mode 68=.fD
 ZG:E.hspec 264=none
 Xi:E.spec 264=none
 aau:E.fn 264=some (aA Tryz.f264)
 YP:E.mode 264=.fD
 ZD:E.hspec 300=none
 Xe:E.spec 300=none
 aar:E.fn 300=some (aA Tryz.f300)
 YM:E.mode 300=.fD
 ZC:E.hspec 321=none
 Xd:E.spec 321=none
 aaq:E.fn 321=some (aA Tryz.f321)
 YL:E.mode 321=.fD
 hs82:E.hspec 82=none
 sp82:E.spec 82=none
 fn82:E.fn 82=some (aA Tryz.f82)
 md82:E.mode 82=.fD
 hs80:E.hspec 80=none
 sp80:E.spec 80=none
 fn80:E.fn 80=some (aA Tryz.f80)
 md80:E.mode 80=.fD
 ZO:E.hspec 213=none
 Xq:E.spec 213=none
 aaC:E.fn 213=some (aA Tryz.f213)
 YX:E.mode 213=.fD
 ZH:E.hspec 250=none
 Xj:E.spec 250=none
 aav:E.fn 250=some (aA Tryz.f250)
 YQ:E.mode 250=.fD
 hs99:E.hspec 99=none
 sp99:E.spec 99=none
 fn99:E.fn 99=some (aA Tryz.f99)
 md99:E.mode 99=.fD
 Z8:E.hspec 132=none
 XK:E.spec 132=none
 aaU:E.fn 132=some (aA Tryz.f132)
 Ze:E.mode 132=.fD
 hs91:E.hspec 91=none
 sp91:E.spec 91=none
 fn91:E.fn 91=some (aA Tryz.f91)
 md91:E.mode 91=.shared
 Z9:E.hspec 122=none
 XL:E.spec 122=none
 aaV:E.fn 122=some (aA Tryz.f122)
 Zf:E.mode 122=.shared
 ZT:E.hspec 185=none
 Xv:E.spec 185=some kH
 Z0:E.hspec 159=none
 XC:E.spec 159=some nR
 Ql:E.hspec 79=some (pQ 9)
 Wf:aI E (cutAt [1,1,0,1,2,2,1,0,2,1] (aA Tryz.f196).code)=true
 Wj:aI E (cutAt [1,0,1,2,2,1,0,2,0] (aA Tryz.f138).code)=true
 Uw:eL E (opsOf (cutAt [1,0] (aA Tryz.f137).code))=.no
 Vo:cB E .no (opsOf (cutAt [1,0] (aA Tryz.f137).code))=some [⟨2,4,true,false⟩,  ⟨2,7,true,false⟩,  ⟨2,10,true,false⟩,  ⟨5,7,true,false⟩,  ⟨5,10,true,false⟩,  ⟨8,10,true,false⟩]
 Uv:eL E (opsOf (cutAt [1,1,0,1,2,2,1,0,2,1] (aA Tryz.f137).code))=.no
 Vn:cB E .no (opsOf (cutAt [1,1,0,1,2,2,1,0,2,1] (aA Tryz.f137).code))=some [⟨7,10,true,false⟩,  ⟨7,14,true,false⟩,  ⟨8,10,true,false⟩,  ⟨8,14,true,false⟩]
 Tw:aI E (cutAt [1,1,1,0,1,2,2,1,0,2,1,1,0,1,2,2,1,0,2,0] (aA Tryz.f111).code)=true
 Tv:aI E (cutAt [1,1,1,1,0,1,2,2,1,0,2,0] (aA Tryz.f111).code)=true
 Wa:aI E (cutAt [1,1,1,1,0,1,2,2,1,0,2,1,2,2,1,0,2,1,2,2,1,0,2] (aA Tryz.f96).code)=true
 Wm:aI E (cutAt [1,1,1,1,0,1,2,2,1,0,2,0] (aA Tryz.f112).code)=true
 Tu:aI E (cutAt [1,1,1,1,1,1,1,1,1,1,1,1,1,1,0,1,2,2,1,0,2,1,0,1,2,2,1,0,2,0] (aA Tryz.f112).code)=true
 abH:aI E (cutAt [1,0,1,2,2,1,0,2,1,1,0,0] (aA Tryz.f46).code)=true
 Wd:aI E (cutAt [1,1,1,0,1,2,2,1,0,2,1,1,1,0,0] (aA Tryz.f46).code)=true
 Wc:aI E (cutAt [1,1,1,1,0,1,2,2,1,0,2,1,2,2,1,1,0,2,1,1,0,0] (aA Tryz.f46).code)=true
 Wb:aI E (cutAt [1,1,1,1,1,0,1,1,0,0] (aA Tryz.f46).code)=true
 Uy:eL E (opsOf (cutAt [1,0] (aA Tryz.f110).code))=.no
 Vr:cB E .no (opsOf (cutAt [1,0] (aA Tryz.f110).code))=some [⟨1,31,false,true⟩,  ⟨3,31,false,true⟩,  ⟨5,31,false,true⟩,  ⟨6,31,false,true⟩,  ⟨8,31,false,true⟩,  ⟨10,31,false,true⟩,  ⟨12,31,false,true⟩,  ⟨13,31,false,true⟩,  ⟨15,31,false,true⟩,  ⟨17,31,false,true⟩,  ⟨19,31,false,true⟩,  ⟨20,31,false,true⟩,  ⟨22,31,false,true⟩,  ⟨24,31,false,true⟩,  ⟨26,31,false,true⟩,  ⟨27,31,false,true⟩,  ⟨29,31,false,true⟩]
 Ux:eL E (opsOf (cutAt [1,1,1,0,1,2,2,1,1,0,2,1] (aA Tryz.f110).code))=.no
 Vq:cB E .no (opsOf (cutAt [1,1,1,0,1,2,2,1,1,0,2,1] (aA Tryz.f110).code))=some [⟨4,38,false,true⟩,  ⟨33,38,false,true⟩,  ⟨35,38,false,true⟩]
 WS:eL E (opsOf (cutAt [1,0] (aA Tryz.f74).code))=.app
 Yv:cB E .app (opsOf (cutAt [1,0] (aA Tryz.f74).code))=some [⟨1,12,false,true⟩,  ⟨3,12,false,true⟩,  ⟨4,12,false,true⟩,  ⟨6,12,false,true⟩,  ⟨7,12,false,true⟩,  ⟨9,12,false,true⟩,  ⟨10,12,false,true⟩]
 WR:eL E (opsOf (cutAt [1,1,0,1,2,2,1,0,2,1,0] (aA Tryz.f74).code))=.app
 Yu:cB E .app (opsOf (cutAt [1,1,0,1,2,2,1,0,2,1,0] (aA Tryz.f74).code))=some []
 W5:eL E (opsOf (cutAt [1,1,0,1,2,2,1,1,0,2,1,0] (aA Tryz.f12).code))=.lit
 YE:cB E .lit (opsOf (cutAt [1,1,0,1,2,2,1,1,0,2,1,0] (aA Tryz.f12).code))=some [⟨1,2,true,false⟩]
 Wl:aI E (cutAt [1,0,1,2,2,1,1,0,2,1,1,1,0,0] (aA Tryz.f119).code)=true
 Tt:aI E (cutAt [1,1,1,1,0,1,2,2,1,1,0,2,1,1,0,1,0,0] (aA Tryz.f119).code)=true
 Ts:aI E (cutAt [1,1,1,1,1,0,1,2,2,1,1,0,2,1,1,0,0] (aA Tryz.f119).code)=true
 RF:eL E (opsOf (cutAt [1,1,1,1,0,1,2,2,1,1,0,2,1,1,1,1] (aA Tryz.f158).code))=.no
 R_:cB E .no (opsOf (cutAt [1,1,1,1,0,1,2,2,1,1,0,2,1,1,1,1] (aA Tryz.f158).code))=some [⟨2,4,false,true⟩]
 aby:aI E (cutAt [1,1,0,1,1,0,0] (aA Tryz.f68).code)=true
 Wk:aI E (cutAt [1,1,0,1,2,2,1,0,2,0] (aA Tryz.f122).code)=true
 Tr:aI E (cutAt [1,1,0,1,2,2,1,0,2,1,0,1,0,1,2,2,1,0,2,0] (aA Tryz.f122).code)=true
def aM:Lay bD:=⟨λr s=>r=[.str s],1,λ_ _ h=>by rw[h];rfl,λ_ _ h c hc=>by rw[h]at hc;cases hc with | head=>rfl | tail _ h=>cases h⟩
def eK:Lay Step:=⟨λr x=>∃a l,r=[.str x.out,.int .i64 x.op,a,l,.int .i64 x.n]/\IS aM a x.args/\IS aM l x.lits,5,λ_ _ ⟨_,_,h,_⟩=>by rw[h];rfl,λ_ _ ⟨a,l,h,h1,h2⟩ c hc=>by
 rw[h]at hc
 simp only[By,br,dz]at hc
 rcases hc with rfl | rfl | rfl | rfl | rfl
 ·rfl
 ·rfl
 ·exact h1.bF
 ·exact h2.bF
 ·rfl⟩
def bS:Lay aD:=⟨λr x=>∃i o a s,r=[.str x.name,i,o,a,s]/\IS aM i x.ins/\IS aM o x.outs/\IS aM a x.after/\IS eK s x.steps,5,λ_ _ ⟨_,_,_,_,h,_⟩=>by rw[h];rfl,λ_ _ ⟨i,o,a,s,h,h1,h2,h3,h4⟩ c hc=>by
 rw[h]at hc
 simp only[By,br,dz]at hc
 rcases hc with rfl | rfl | rfl | rfl | rfl
 ·rfl
 ·exact h1.bF
 ·exact h2.bF
 ·exact h3.bF
 ·exact h4.bF⟩
def rV:Lay Bool:=⟨λr b=>r=[.bool b],1,λ_ _ h=>by rw[h];rfl,λ_ _ h c hc=>by rw[h]at hc;cases hc with | head=>rfl | tail _ h=>cases h⟩
def rE:Lay (List Bool):=⟨λr l=>∃v,r=[v]/\IS rV v l,1,λ_ _ ⟨_,h,_⟩=>by rw[h];rfl,λ_ _ ⟨v,h,h1⟩ c hc=>by rw[h]at hc;cases hc with | head=>exact h1.bF | tail _ h=>cases h⟩
section
variable {E:Env}{Z:Sg}{v:V}
theorem gF (h:bJ E) {s:bD}{Z:Sg}:lenOf E Z 9 (.str s)=some s.length:=by
 unfold lenOf;rw[h.cM]
theorem IS.at {α:Type}{L:Lay α}{ts t:Nat}{si ei:Ty}{l:List α}(hts:E.ty ts=some si)(hk:si.kd=.sl t)(ht:E.ty t=some ei)(hn:ei.size=L.n)(h:IS L v l) {i:Nat}{x:α}(hx:l[i]?=some x) :
  ∃g r,indexAddr E ts v (.int .i64 (i:Int))=some (.dH g r)/\L.P r x:=by
 obtain⟨p,r,h1,h2,-,-,⟨g,rfl⟩ | ⟨b,o,rfl,-⟩⟩:=Fv (Z:=[]) hts hk ht hn (h.ls [] t) hx
 ·exact⟨g,r,h1,h2⟩
 ·exfalso
  rcases h with⟨rfl,rfl⟩ | ⟨g,rs,full,rfl,ha⟩
  ·cases hx
  ·unfold indexAddr at h1
   repeat' (split at h1)
   all_goals first
    |(cases h1;done)
    |contradiction
theorem iD (h:bJ E):eY E #[24,24]=true:=by
 show (match E.ty 24 with
  |some xi=>!nZ xi.kd
  |none=>false)=true
 rw[h.aY];rfl
theorem bP (h:bJ E) {l} (ia:IS aM v l) (Z:Sg):lenOf E Z 24 v=some l.length:=pM h.aY rfl (ia.ls Z 9)
theorem TY (h:bJ E) {l} (ia:IS aM v l) {i:Nat} {x}(hx:l[i]?=some x):∃g r,indexAddr E 24 v (.int .i64 (i:Int))=some (.dH g r)/\(aM).P r x:=IS.at h.aY rfl h.cM rfl ia hx
theorem iP (h:bJ E) {l}(ha:LS aM 9 Z v l):∃v',aQ Z E.ty true v=some v'/\IS aM v' l:=BU h.cM rfl ha
theorem Bb (h:bJ E):eY E #[44,44]=true:=by
 show (match E.ty 44 with
  |some xi=>!nZ xi.kd
  |none=>false)=true
 rw[h.fN];rfl
theorem jJ (h:bJ E) {l} (ia:IS eK v l) (Z:Sg):lenOf E Z 44 v=some l.length:=pM h.fN rfl (ia.ls Z 82)
theorem Rm (h:bJ E) {l} (ia:IS eK v l) {i:Nat} {x}(hx:l[i]?=some x):∃g r,indexAddr E 44 v (.int .i64 (i:Int))=some (.dH g r)/\(eK).P r x:=IS.at h.fN rfl h.cN rfl ia hx
theorem Cv (h:bJ E) {l}(ha:LS eK 82 Z v l):∃v',aQ Z E.ty true v=some v'/\IS eK v' l:=BU h.cN rfl ha
theorem qE (h:bJ E):eY E #[22,22]=true:=by
 show (match E.ty 22 with
  |some xi=>!nZ xi.kd
  |none=>false)=true
 rw[h.qA];rfl
theorem cI (h:bJ E) {l} (ia:IS bS v l) (Z:Sg):lenOf E Z 22 v=some l.length:=pM h.qA rfl (ia.ls Z 46)
theorem Rn (h:bJ E) {l} (ia:IS bS v l) {i:Nat} {x}(hx:l[i]?=some x):∃g r,indexAddr E 22 v (.int .i64 (i:Int))=some (.dH g r)/\(bS).P r x:=IS.at h.qA rfl h.bC rfl ia hx
theorem dQ (h:bJ E) {l}(ha:LS bS 46 Z v l):∃v',aQ Z E.ty true v=some v'/\IS bS v' l:=BU h.bC rfl ha
theorem HI (h:bJ E):eY E #[105,105]=true:=by
 show (match E.ty 105 with
  |some xi=>!nZ xi.kd
  |none=>false)=true
 rw[h.lO];rfl
theorem Rp (h:bJ E) {l} (ia:IS rV v l) {i:Nat} {x}(hx:l[i]?=some x):∃g r,indexAddr E 105 v (.int .i64 (i:Int))=some (.dH g r)/\(rV).P r x:=IS.at h.lO rfl h.uC rfl ia hx
theorem JS (h:bJ E):eY E #[68,68]=true:=by
 show (match E.ty 68 with
  |some xi=>!nZ xi.kd
  |none=>false)=true
 rw[h.uH];rfl
theorem P5 (h:bJ E) {l} (ia:IS rE v l) (Z:Sg):lenOf E Z 68 v=some l.length:=pM h.uH rfl (ia.ls Z 105)
theorem Mm (h:bJ E) {l} (ia:IS rE v l) {i:Nat} {x}(hx:l[i]?=some x):∃g r,indexAddr E 68 v (.int .i64 (i:Int))=some (.dH g r)/\(rE).P r x:=IS.at h.uH rfl h.lO rfl ia hx
theorem uX (h:bJ E) {g:Bool}{u:V}{r:List V}:loadAt E Z 4 (.dH g (u::r))=some u:=by
 unfold loadAt
 rw[h.uC]
 rfl
theorem qW (h:bJ E) {g:Bool}{u:V}{r:List V}:loadAt E Z 9 (.dH g (u::r))=some u:=by
 unfold loadAt
 rw[h.cM]
 rfl
theorem LG (h:bJ E) {g:Bool}{u:V}{r:List V}:loadAt E Z 24 (.dH g (u::r))=some u:=by
 unfold loadAt
 rw[h.aY]
 rfl
theorem LF (h:bJ E) {g:Bool}{v0 v1 v2 v3 v4:V}:loadAt E Z 46 (.dH g [v0,v1,v2,v3,v4])=some (.agg [v0,v1,v2,v3,v4]):=by
 unfold loadAt
 rw[h.bC]
 rfl
theorem jO (h:bJ E) {g:Bool}{u:V}{r:List V}:loadAt E Z 105 (.dH g (u::r))=some u:=by
 unfold loadAt
 rw[h.lO]
 rfl
theorem kX:Ax.bytes ⟨#[]⟩=[]:=rfl
theorem NF:Ax.bytes ⟨#[46]⟩=[46]:=rfl
theorem TE:Ax.bytes ⟨#[46,46]⟩=[46,46]:=rfl
theorem DG:Ax.bytes ⟨#[114,117,108,101]⟩=[114,117,108,101]:=rfl
theorem GH:Ax.bytes ⟨#[105,110]⟩=[105,110]:=rfl
theorem Kn:Ax.bytes ⟨#[111,117,116]⟩=[111,117,116]:=rfl
theorem QE:Ax.bytes ⟨#[97,102,116,101,114]⟩=[97,102,116,101,114]:=rfl
theorem gI (h:bJ E) {l} (ia:IS aM v l) {i:Nat} {x}(hx:l[i]?=some x):∃g,indexAddr E 24 v (.int .i64 (i:Int))=some (.dH g [.str x]):=by
 obtain⟨g,r,e,hr⟩:=TY h ia hx
 exact⟨g,by rw[e,show r=[.str x] from hr]⟩
theorem qM (h:bJ E) {l} (ia:IS eK v l) {i:Nat} {x}(hx:l[i]?=some x):∃g a b,indexAddr E 44 v (.int .i64 (i:Int))=some (.dH g [.str x.out,.int .i64 x.op,a,b,.int .i64 x.n])/\IS aM a x.args/\IS aM b x.lits:=by
 obtain⟨g,r,e,a,b,hr,h1,h2⟩:=Rm h ia hx
 exact⟨g,a,b,by rw[e,hr],h1,h2⟩
theorem dK (h:bJ E) {l} (ia:IS bS v l) {i:Nat} {x}(hx:l[i]?=some x):∃g a b c d,indexAddr E 22 v (.int .i64 (i:Int))=some (.dH g [.str x.name,a,b,c,d])/\IS aM a x.ins/\IS aM b x.outs/\IS aM c x.after/\IS eK d x.steps:=by
 obtain⟨g,r,e,a,b,c,d,hr,h1⟩:=Rn h ia hx
 exact⟨g,a,b,c,d,by rw[e,hr],h1⟩
theorem dD (Z:Sg) (s:bD):aQ Z E.ty true (.str s)=some (.str s):=rfl
theorem oW {α:Type}{L:Lay α}{l:List α} (ia:IS L v l) (Z:Sg):aQ Z E.ty true v=some v:=cU ia.bF (cF ia.bF)
def I9 (v:V) (x:aD):Prop:=∃a b c d,v=.agg [.str x.name,a,b,c,d]/\IS aM a x.ins/\IS aM b x.outs/\IS aM c x.after/\IS eK d x.steps
def KG (v:V) (x:Step):Prop:=∃a b,v=.agg [.str x.out,.int .i64 x.op,a,b,.int .i64 x.n]/\IS aM a x.args/\IS aM b x.lits
theorem Hq {cs:List V}(hc:∀c∈cs,Ax.bF c=true) (Z:Sg):aQ Z E.ty true (.agg cs)=some (.agg cs):=by
 have e:aU (aQ.one Z E.ty true) cs=some cs:=iS λc hx=>by
  have:=cU (Z:=Z) (ty:=E.ty) (g:=true) (hc c hx) (cF (hc c hx))
  have h2:=hc c hx
  cases c <;> first | exact this | cases h2
 show (match aU (aQ.one Z E.ty true) cs with
  |some l=>some (V.agg l)
  |none=>none)=_
 rw[e]
theorem I9.snap {x:aD}(h:I9 v x) (Z:Sg):aQ Z E.ty true v=some v:=by
 obtain⟨a,b,c,d,rfl,h1,h2,h3,h4⟩:=h
 refine Hq (λy hy=>?_) Z
 simp only[By,br,dz]at hy
 rcases hy with rfl | rfl | rfl | rfl | rfl
 ·rfl
 ·exact h1.bF
 ·exact h2.bF
 ·exact h3.bF
 ·exact h4.bF
theorem KG.snap {x:Step}(h:KG v x) (Z:Sg):aQ Z E.ty true v=some v:=by
 obtain⟨a,b,rfl,h1,h2⟩:=h
 refine Hq (λy hy=>?_) Z
 simp only[By,br,dz]at hy
 rcases hy with rfl | rfl | rfl | rfl | rfl
 ·rfl
 ·rfl
 ·exact h1.bF
 ·exact h2.bF
 ·rfl
theorem gC {a b:bD} (e:a=b):Ax.seq a b=true:=by rw[vY];exact AT e
theorem fU {a b:bD} (e:a≠b):Ax.seq a b=false:=by rw[vY];exact AI e
theorem eC {i n:Nat}(h:i<n):decide ((i:Int)<(n:Int))=true:=AT (by omega)
theorem eG {i n:Nat}(h:¬ i<n):decide ((i:Int)<(n:Int))=false:=AI (by omega)
theorem bY (i:Nat)(h:i<9223372036854775807):wr .i64 ((i:Int)+1)=((i+1:Nat):Int):=by
 rw[Cd,b8]
 ·exact (Int.natCast_succ i).symm
 ·have h1:lo .i64 = -9223372036854775808:=rfl
  have h2:hi .i64=9223372036854775807:=rfl
  rw[h1,h2,ah,IT,IT]
  omega
structure Small (x:aD):Prop where
 ins:x.ins.length<=10
 outs:x.outs.length<=6
 after:x.after.length<=10
 steps:x.steps.length<=14
 args:∀s∈x.steps,s.args.length<=8
 lits:∀s∈x.steps,s.lits.length<=3
structure Mid (x:aD):Prop where
 ins:x.ins.length<=10
 outs:x.outs.length<=6
 after:x.after.length<=10
 steps:x.steps.length<=14
 args:∀s∈x.steps,s.args.length<=8796093022208
 lits:∀s∈x.steps,s.lits.length<=8796093022208
theorem Small.mid {x:aD}(h:Small x):Mid x:=⟨h.ins,h.outs,h.after,h.steps,λs hs=>by have:=h.args s hs;omega,λs hs=>by have:=h.lits s hs;omega⟩
def idx:Option Nat->Int
 |some i=>i
 |none=>-1
theorem fR {α:Type}{p:α->Bool}:∀{l:List α},(∀x∈l,p x=false)->bN p l=none
 | [],_=>rfl
 |x::l,h=>by rw[bN,h x (IN ..),fR λy hy=>h y (No _ hy)];rfl
theorem iA {α:Type}{p:α->Bool}:∀{l:List α}{i:Nat}{x:α},(∀j y,j<i->l[j]?=some y->p y=false)->l[i]?=some x->p x=true->bN p l=some i
 | [],i,x,_,hx,_=>by cases hx
 |y::l,0,x,_,hx,hp=>by cases hx;rw[bN,b8 hp]
 |y::l,i+1,x,h,hx,hp=>by
  rw[bN,ay (by rw[h 0 y (by omega) rfl];simp),iA (i:=i) (x:=x) (λj z hj hz=>h (j+1) z (by omega) hz) hx hp]
  rfl
theorem AX {α:Type}{p:α->Bool}{l:List α}(h:∀j y,j<l.length->l[j]?=some y->p y=true):l.all p=true:=by
 rw[dw];intro x hx
 obtain⟨i,hi,e⟩:=fg hx
 exact h i x hi (by rw[BY hi,e])
theorem iF {α:Type}{p:α->Bool}{l:List α}{i:Nat}{x:α}(hx:l[i]?=some x)(hp:p x=false):l.all p=false:=by
 rw[List.all_eq_false];exact⟨x,af hx,by simp[hp]⟩
end
end
section
section
variable {E:Env}{Z:Sg}{K:V->Sg->Prop}
theorem Ra (h:bJ E) {a:V}{l:List bD}{s:bD}(ha:LS aM 9 Z a l)(hsm:l.length<=4294967296):aC E 100 [a,.str s] Z K=K (.int .i64 (idx (bN (λx=>decide (x=s)) l))) Z:=by
 refine aC.of ?_
 obtain⟨a',ea,ia⟩:=iP h ha
 rw[aH h.aaj h.XV h.aa5 h.Zp (args':=[a',.str s]) (by simp only[aU,ea,dD]),aX (by kernel_rfl)]
 simp only[aA,Tryz.f100,KP,↓reduceIte,reduceLT,reduceAdd,reduceNeg]
 have la:=bP h ia
 refine aV (λi F U=>U=[]/\F.get 0=a'/\F.get 1=.str s/\F.get 5=.int .i64 (i:Int)/\∀j y,j<i->l[j]?=some y->y≠s) l.length ?_ ?_ l.length 0 _ _ (by omega) ⟨rfl,(gE (by simp +decide only[GS,aj]) (λj y hj=>by omega))⟩
 ·rintro i F U hi ⟨rfl,g0,g1,g5,hp⟩ next
  obtain⟨x,hx⟩:∃x,l[i]?=some x:=⟨_,BY hi⟩
  obtain⟨g,e1⟩:=gI h ia hx
  have hlt:=eC hi
  have hadd:=bY i (by omega)
  rw[aF]
  by_cases hxs:x=s
  ·have hs:=gC hxs
   simp only[KP,Ax.loadAt,↓reduceIte,reduceEqDiff,reduceLT,reduceCtorEq,reduceNeg,h.cM,g0,g1,g5,la,hlt,e1,hs]
   rw[iA (i:=i) (x:=x) (λj y hj hy=>AI (hp j y hj hy)) hx (AT hxs)]
   exact rfl
  ·have hs:=fU hxs
   simp only[KP,Ax.loadAt,↓reduceIte,reduceEqDiff,reduceLT,reduceCtorEq,reduceNeg,h.cM,g0,g1,g5,la,hlt,e1,hs,hadd]
   refine next _ _ ⟨rfl,(gE (by simp +decide only[GS,g0,g1,aj]) (λj y hj hy=>?_))⟩
   rcases cj j i with g | g
   ·exact hp j y g hy
   ·obtain rfl:j=i:=by omega
    rw[hx]at hy;cases hy;exact hxs
 ·rintro F U ⟨rfl,g0,g1,g5,hp⟩
  have hlt:=eG (bg l.length)
  rw[aF]
  simp only[KP,↓reduceIte,reduceEqDiff,reduceLT,reduceCtorEq,reduceNeg,g0,g5,la,hlt]
  rw[fR λx hx=>by
   obtain⟨j,hj,e⟩:=fg hx
   exact AI (hp j x hj (by rw[BY hj,e]))]
  exact rfl
theorem sX (h:bJ E) {a:V}{l:List bD}{s:bD}(ha:LS aM 9 Z a l)(hsm:l.length<=4294967296):KC E 100 [a,.str s] Z ((.int .i64 (idx (bN (λx=>decide (x=s)) l)))) Z:=cH λ_=>Ra h ha hsm
theorem WE (h:bJ E) {a:V}{l:List aD}{s:bD}(ha:LS bS 46 Z a l)(hsm:l.length<=4294967296):aC E 56 [a,.str s] Z K=K (.int .i64 (idx (fF l s))) Z:=by
 refine aC.of ?_
 obtain⟨a',ea,ia⟩:=dQ h ha
 rw[aH h.hs56 h.sp56 h.fn56 h.md56 (args':=[a',.str s]) (by simp only[aU,ea,dD]),aX (by kernel_rfl)]
 simp only[aA,Tryz.f56,KP,↓reduceIte,reduceLT,reduceAdd,reduceNeg]
 have la:=cI h ia
 refine aV (λi F U=>U=[]/\F.get 0=a'/\F.get 1=.str s/\F.get 5=.int .i64 (i:Int)/\∀j y,j<i->l[j]?=some y->y.name≠s) l.length ?_ ?_ l.length 0 _ _ (by omega) ⟨rfl,(gE (by simp +decide only[GS,aj]) (λj y hj=>by omega))⟩
 ·rintro i F U hi ⟨rfl,g0,g1,g5,hp⟩ next
  obtain⟨x,hx⟩:∃x,l[i]?=some x:=⟨_,BY hi⟩
  obtain⟨g,a1,a2,a3,a4,e1,-⟩:=dK h ia hx
  have hlt:=eC hi
  have hadd:=bY i (by omega)
  rw[aF]
  by_cases hxs:x.name=s
  ·have hs:=gC hxs
   simp only[KP,Ax.loadAt,↓reduceIte,reduceEqDiff,reduceLT,reduceCtorEq,reduceNeg,h.cM,h.bC,g0,g1,g5,la,hlt,e1,hs]
   rw[show fF l s=some i from iA (i:=i) (x:=x) (λj y hj hy=>AI (hp j y hj hy)) hx (AT hxs)]
   exact rfl
  ·have hs:=fU hxs
   simp only[KP,Ax.loadAt,↓reduceIte,reduceEqDiff,reduceLT,reduceCtorEq,reduceNeg,h.cM,h.bC,g0,g1,g5,la,hlt,e1,hs,hadd]
   refine next _ _ ⟨rfl,(gE (by simp +decide only[GS,g0,g1,aj]) (λj y hj hy=>?_))⟩
   rcases cj j i with g | g
   ·exact hp j y g hy
   ·obtain rfl:j=i:=by omega
    rw[hx]at hy;cases hy;exact hxs
 ·rintro F U ⟨rfl,g0,g1,g5,hp⟩
  have hlt:=eG (bg l.length)
  rw[aF]
  simp only[KP,↓reduceIte,reduceEqDiff,reduceLT,reduceCtorEq,reduceNeg,g0,g5,la,hlt]
  rw[show fF l s=none from fR λx hx=>by
   obtain⟨j,hj,e⟩:=fg hx
   exact AI (hp j x hj (by rw[BY hj,e]))]
  exact rfl
theorem VT (h:bJ E) {a:V}{l:List aD}{s:bD}(ha:LS bS 46 Z a l)(hsm:l.length<=4294967296):KC E 56 [a,.str s] Z ((.int .i64 (idx (fF l s)))) Z:=cH λ_=>WE h ha hsm
theorem lH {o:Option Nat}:decide ((0:Int)<=idx o)=o.isSome:=by
 cases o with
 |none=>rfl
 |some i=>exact AT (by simp only[idx];omega)
theorem Dj {o:Option Nat}:decide (idx o<(0:Int))=o.isNone:=by
 cases o with
 |none=>rfl
 |some i=>exact AI (by simp only[idx];omega)
theorem cG {α:Type}{p:α->Bool}:∀{l:List α},(bN p l).isSome=l.any p
 | []=>rfl
 |x::l=>by
  rw[bN,List.any_cons]
  by_cases hx:p x=true
  ·rw[b8 hx,hx];rfl
  ·rw[ay hx,Option.isSome_map,cG];simp[hx]
theorem any_eq {l:List bD}{s:bD}:(l.any λx=>decide (x=s))=decide (s∈l):=by
 rw[dn,ek,IT]
 constructor
 ·rintro⟨x,hx,e⟩;rw[IT]at e;subst e;exact hx
 ·intro hx;exact⟨s,hx,by simp⟩
theorem Ca (h:bJ E) {a:V}{l:List aD}{s:bD}(ha:LS bS 46 Z a l)(ho:∀x∈l,x.outs.length<=4294967296)(hsm:l.length<=4294967296):aC E 54 [a,.str s] Z K=K (.int .i64 (idx (c_ l s))) Z:=by
 refine aC.of ?_
 obtain⟨a',ea,ia⟩:=dQ h ha
 rw[aH h.hs54 h.sp54 h.fn54 h.md54 (args':=[a',.str s]) (by simp only[aU,ea,dD]),aX (by kernel_rfl)]
 simp only[aA,Tryz.f54,KP,↓reduceIte,reduceLT,reduceAdd,reduceNeg]
 have la:=cI h ia
 refine aV (λi F U=>U=[]/\F.get 0=a'/\F.get 1=.str s/\F.get 5=.int .i64 (i:Int)/\∀j y,j<i->l[j]?=some y->s ∉ y.outs) l.length ?_ ?_ l.length 0 _ _ (by omega) ⟨rfl,(gE (by simp +decide only[GS,aj]) (λj y hj=>by omega))⟩
 ·rintro i F U hi ⟨rfl,g0,g1,g5,hp⟩ next
  obtain⟨x,hx⟩:∃x,l[i]?=some x:=⟨_,BY hi⟩
  obtain⟨g,a1,a2,a3,a4,e1,-,h2,-⟩:=dK h ia hx
  have kf:=λ(U:Sg)=>sX (Z:=U) h (s:=s) (h2.ls U 9) (ho x (af hx))
  have hlt:=eC hi
  have hadd:=bY i (by omega)
  rw[aF]
  by_cases hxs:s∈x.outs
  ·have hs:(bN (λy=>decide (y=s)) x.outs).isSome=true:=by rw[cG,any_eq];exact AT hxs
   simp only[KP,Ax.loadAt,↓reduceIte,reduceEqDiff,reduceLT,reduceCtorEq,reduceNeg,h.aY,h.bC,g0,g1,g5,la,hlt,e1,kf,lH,hs]
   rw[show c_ l s=some i from iA (i:=i) (x:=x) (λj y hj hy=>AI (hp j y hj hy)) hx (AT hxs)]
   exact rfl
  ·have hs:(bN (λy=>decide (y=s)) x.outs).isSome=false:=by rw[cG,any_eq];exact AI hxs
   simp only[KP,Ax.loadAt,↓reduceIte,reduceEqDiff,reduceLT,reduceCtorEq,reduceNeg,h.aY,h.bC,g0,g1,g5,la,hlt,e1,kf,lH,hs,hadd]
   refine next _ _ ⟨rfl,(gE (by simp +decide only[GS,g0,g1,aj]) (λj y hj hy=>?_))⟩
   rcases cj j i with g | g
   ·exact hp j y g hy
   ·obtain rfl:j=i:=by omega
    rw[hx]at hy;cases hy;exact hxs
 ·rintro F U ⟨rfl,g0,g1,g5,hp⟩
  have hlt:=eG (bg l.length)
  rw[aF]
  simp only[KP,↓reduceIte,reduceEqDiff,reduceLT,reduceCtorEq,reduceNeg,g0,g5,la,hlt]
  rw[show c_ l s=none from fR λx hx=>by
   obtain⟨j,hj,e⟩:=fg hx
   exact AI (hp j x hj (by rw[BY hj,e]))]
  exact rfl
theorem LO (h:bJ E) {a:V}{l:List aD}{s:bD}(ha:LS bS 46 Z a l)(ho:∀x∈l,x.outs.length<=4294967296)(hsm:l.length<=4294967296):KC E 54 [a,.str s] Z ((.int .i64 (idx (c_ l s)))) Z:=cH λ_=>Ca h ha ho hsm
end
end
section
section
variable {E:Env}{Z:Sg}{K:V->Sg->Prop}
theorem Wy (h:bJ E) {c:Nat}:aC E 197 [.int .u8 (c:Int)] Z K=K (.bool (sign c)) Z:=by
 refine aC.of ?_
 rw[aH h.ZR h.Xt h.aaF h.Y0 (args':=[.int .u8 (c:Int)]) (by simp only[aU,show aQ Z E.ty true (.int .u8 (c:Int))=some (.int .u8 (c:Int)) from rfl]),aX (by kernel_rfl)]
 have hcut:(0<=c/\c<=44)\/(45<=c/\c<=45)\/(46<=c/\c<=46)\/(47<=c/\c<=47)\/(48<=c/\c<=57)\/(58<=c/\c<=64)\/(65<=c/\c<=90)\/(91<=c/\c<=94)\/(95<=c/\c<=95)\/(96<=c/\c<=96)\/(97<=c/\c<=122)\/(123<=c/\123<=c):=by omega
 rcases hcut with⟨h1,h2⟩ | ⟨h1,h2⟩ | ⟨h1,h2⟩ | ⟨h1,h2⟩ | ⟨h1,h2⟩ | ⟨h1,h2⟩ | ⟨h1,h2⟩ | ⟨h1,h2⟩ | ⟨h1,h2⟩ | ⟨h1,h2⟩ | ⟨h1,h2⟩ | ⟨h1,h2⟩
 ·rw[show sign c=false from by unfold sign;simp;omega]
  have q0:decide ((97:Int)<=(c:Int))=false:=AI (by omega)
  have q2:decide ((65:Int)<=(c:Int))=false:=AI (by omega)
  have q4:decide ((48:Int)<=(c:Int))=false:=AI (by omega)
  have q6:decide ((c:Int)=46)=false:=AI (by omega)
  have q7:decide ((c:Int)=95)=false:=AI (by omega)
  have q8:decide ((c:Int)=45)=false:=AI (by omega)
  simp only[aA,Tryz.f197,KP,↓reduceIte,reduceEqDiff,reduceLT,reduceCtorEq,q0,q2,q4,q6,q7,q8]
  exact rfl
 ·rw[show sign c=true from by unfold sign;simp;omega]
  have q0:decide ((97:Int)<=(c:Int))=false:=AI (by omega)
  have q2:decide ((65:Int)<=(c:Int))=false:=AI (by omega)
  have q4:decide ((48:Int)<=(c:Int))=false:=AI (by omega)
  have q6:decide ((c:Int)=46)=false:=AI (by omega)
  have q7:decide ((c:Int)=95)=false:=AI (by omega)
  have q8:decide ((c:Int)=45)=true:=AT (by omega)
  simp only[aA,Tryz.f197,KP,↓reduceIte,reduceEqDiff,reduceLT,reduceCtorEq,q0,q2,q4,q6,q7,q8]
  exact rfl
 ·rw[show sign c=true from by unfold sign;simp;omega]
  have q0:decide ((97:Int)<=(c:Int))=false:=AI (by omega)
  have q2:decide ((65:Int)<=(c:Int))=false:=AI (by omega)
  have q4:decide ((48:Int)<=(c:Int))=false:=AI (by omega)
  have q6:decide ((c:Int)=46)=true:=AT (by omega)
  simp only[aA,Tryz.f197,KP,↓reduceIte,reduceEqDiff,reduceLT,reduceCtorEq,q0,q2,q4,q6]
  exact rfl
 ·rw[show sign c=false from by unfold sign;simp;omega]
  have q0:decide ((97:Int)<=(c:Int))=false:=AI (by omega)
  have q2:decide ((65:Int)<=(c:Int))=false:=AI (by omega)
  have q4:decide ((48:Int)<=(c:Int))=false:=AI (by omega)
  have q6:decide ((c:Int)=46)=false:=AI (by omega)
  have q7:decide ((c:Int)=95)=false:=AI (by omega)
  have q8:decide ((c:Int)=45)=false:=AI (by omega)
  simp only[aA,Tryz.f197,KP,↓reduceIte,reduceEqDiff,reduceLT,reduceCtorEq,q0,q2,q4,q6,q7,q8]
  exact rfl
 ·rw[show sign c=true from by unfold sign;simp;omega]
  have q0:decide ((97:Int)<=(c:Int))=false:=AI (by omega)
  have q2:decide ((65:Int)<=(c:Int))=false:=AI (by omega)
  have q4:decide ((48:Int)<=(c:Int))=true:=AT (by omega)
  have q5:decide ((c:Int)<=57)=true:=AT (by omega)
  simp only[aA,Tryz.f197,KP,↓reduceIte,reduceEqDiff,reduceLT,reduceCtorEq,q0,q2,q4,q5]
  exact rfl
 ·rw[show sign c=false from by unfold sign;simp;omega]
  have q0:decide ((97:Int)<=(c:Int))=false:=AI (by omega)
  have q2:decide ((65:Int)<=(c:Int))=false:=AI (by omega)
  have q4:decide ((48:Int)<=(c:Int))=true:=AT (by omega)
  have q5:decide ((c:Int)<=57)=false:=AI (by omega)
  have q6:decide ((c:Int)=46)=false:=AI (by omega)
  have q7:decide ((c:Int)=95)=false:=AI (by omega)
  have q8:decide ((c:Int)=45)=false:=AI (by omega)
  simp only[aA,Tryz.f197,KP,↓reduceIte,reduceEqDiff,reduceLT,reduceCtorEq,q0,q2,q4,q5,q6,q7,q8]
  exact rfl
 ·rw[show sign c=true from by unfold sign;simp;omega]
  have q0:decide ((97:Int)<=(c:Int))=false:=AI (by omega)
  have q2:decide ((65:Int)<=(c:Int))=true:=AT (by omega)
  have q3:decide ((c:Int)<=90)=true:=AT (by omega)
  simp only[aA,Tryz.f197,KP,↓reduceIte,reduceEqDiff,reduceLT,reduceCtorEq,q0,q2,q3]
  exact rfl
 ·rw[show sign c=false from by unfold sign;simp;omega]
  have q0:decide ((97:Int)<=(c:Int))=false:=AI (by omega)
  have q2:decide ((65:Int)<=(c:Int))=true:=AT (by omega)
  have q3:decide ((c:Int)<=90)=false:=AI (by omega)
  have q4:decide ((48:Int)<=(c:Int))=true:=AT (by omega)
  have q5:decide ((c:Int)<=57)=false:=AI (by omega)
  have q6:decide ((c:Int)=46)=false:=AI (by omega)
  have q7:decide ((c:Int)=95)=false:=AI (by omega)
  have q8:decide ((c:Int)=45)=false:=AI (by omega)
  simp only[aA,Tryz.f197,KP,↓reduceIte,reduceEqDiff,reduceLT,reduceCtorEq,q0,q2,q3,q4,q5,q6,q7,q8]
  exact rfl
 ·rw[show sign c=true from by unfold sign;simp;omega]
  have q0:decide ((97:Int)<=(c:Int))=false:=AI (by omega)
  have q2:decide ((65:Int)<=(c:Int))=true:=AT (by omega)
  have q3:decide ((c:Int)<=90)=false:=AI (by omega)
  have q4:decide ((48:Int)<=(c:Int))=true:=AT (by omega)
  have q5:decide ((c:Int)<=57)=false:=AI (by omega)
  have q6:decide ((c:Int)=46)=false:=AI (by omega)
  have q7:decide ((c:Int)=95)=true:=AT (by omega)
  simp only[aA,Tryz.f197,KP,↓reduceIte,reduceEqDiff,reduceLT,reduceCtorEq,q0,q2,q3,q4,q5,q6,q7]
  exact rfl
 ·rw[show sign c=false from by unfold sign;simp;omega]
  have q0:decide ((97:Int)<=(c:Int))=false:=AI (by omega)
  have q2:decide ((65:Int)<=(c:Int))=true:=AT (by omega)
  have q3:decide ((c:Int)<=90)=false:=AI (by omega)
  have q4:decide ((48:Int)<=(c:Int))=true:=AT (by omega)
  have q5:decide ((c:Int)<=57)=false:=AI (by omega)
  have q6:decide ((c:Int)=46)=false:=AI (by omega)
  have q7:decide ((c:Int)=95)=false:=AI (by omega)
  have q8:decide ((c:Int)=45)=false:=AI (by omega)
  simp only[aA,Tryz.f197,KP,↓reduceIte,reduceEqDiff,reduceLT,reduceCtorEq,q0,q2,q3,q4,q5,q6,q7,q8]
  exact rfl
 ·rw[show sign c=true from by unfold sign;simp;omega]
  have q0:decide ((97:Int)<=(c:Int))=true:=AT (by omega)
  have q1:decide ((c:Int)<=122)=true:=AT (by omega)
  simp only[aA,Tryz.f197,KP,↓reduceIte,reduceEqDiff,reduceLT,reduceCtorEq,q0,q1]
  exact rfl
 ·rw[show sign c=false from by unfold sign;simp;omega]
  have q0:decide ((97:Int)<=(c:Int))=true:=AT (by omega)
  have q1:decide ((c:Int)<=122)=false:=AI (by omega)
  have q2:decide ((65:Int)<=(c:Int))=true:=AT (by omega)
  have q3:decide ((c:Int)<=90)=false:=AI (by omega)
  have q4:decide ((48:Int)<=(c:Int))=true:=AT (by omega)
  have q5:decide ((c:Int)<=57)=false:=AI (by omega)
  have q6:decide ((c:Int)=46)=false:=AI (by omega)
  have q7:decide ((c:Int)=95)=false:=AI (by omega)
  have q8:decide ((c:Int)=45)=false:=AI (by omega)
  simp only[aA,Tryz.f197,KP,↓reduceIte,reduceEqDiff,reduceLT,reduceCtorEq,q0,q1,q2,q3,q4,q5,q6,q7,q8]
  exact rfl
theorem VS (h:bJ E) {c:Nat}:KC E 197 [.int .u8 (c:Int)] Z (.bool (sign c)) Z:=cH λ_=>Wy h
theorem xQ (h:bJ E) {v:V}{l:List bD} (ia:IS aM v l) {b:Nat}(hb:b<=l.length):∃w,(∀Z,Ax.slice E Z 24 v none (some (.int .i64 (b:Int))) none=some w)/\IS aM w (l.take b):=by
 obtain⟨w,h1,h2,-⟩:=rD (lo:=none) (hi:=some (.int .i64 (b:Int))) (a:=0) (b:=b) h.aY rfl h.cM rfl ia (.inr rfl) (.inl ⟨rfl,rfl⟩) (gz _) hb
 exact⟨w,h1,by simpa using h2⟩
theorem Cl:∀{l:List bD}{i:Nat}{x:bD},l[i]?=some x->x∈l.take i->kZ l=true
 | [],i,x,hx,_=>by cases hx
 |y::l,0,x,_,h=>by simp at h
 |y::l,i+1,x,hx,h=>by
  have hx':l[i]?=some x:=hx
  rw[og,By]at h
  rw[kZ]
  rcases h with h | h
  ·rw[AT (h ▸ af hx')];rfl
  ·rw[Cl hx' h];simp
theorem Af:∀{l:List bD},(∀(i:Nat) (x:bD),l[i]?=some x->x ∉ l.take i)->kZ l=false
 | [],_=>rfl
 |y::l,h=>by
  rw[kZ,Af λi x hx hm=>h (i+1) x hx (by rw[og];exact No _ hm)]
  rw[Bool.or_false]
  refine AI λhy=>?_
  obtain⟨i,hi,e⟩:=fg hy
  exact h (i+1) y (by rw[cw,BY hi,e]) (by rw[og];exact IN ..)
theorem TJ (h:bJ E) {a:V}{l:List bD}(ha:LS aM 9 Z a l)(hsm:l.length<=4294967296):aC E 138 [a] Z K=K (.bool (kZ l)) Z:=by
 refine aC.of ?_
 obtain⟨a',ea,ia⟩:=iP h ha
 rw[aH h.Z6 h.XI h.aaS h.Zc (args':=[a']) (by simp only[aU,ea]),aX (by kernel_rfl)]
 simp only[aA,Tryz.f138,KP,↓reduceIte,reduceLT]
 have la:=bP h ia
 have d4:=h.Wj
 simp only[aA,Tryz.f138,cutAt,ag]at d4
 refine aV (λi F U=>U=[]/\F.get 0=a'/\F.get 3=.int .i64 (i:Int)/\∀j y,j<i->l[j]?=some y->y ∉ l.take j) l.length ?_ ?_ l.length 0 _ _ (by omega) ⟨rfl,(lT (by simp +decide only[GS,aj]) (λj y hj=>by omega))⟩
 ·rintro i F U hi ⟨rfl,g0,g3,hp⟩ next
  obtain⟨x,hx⟩:∃x,l[i]?=some x:=⟨_,BY hi⟩
  obtain⟨g,e1⟩:=gI h ia hx
  obtain⟨w,e2,iw⟩:=xQ h ia (Nat.le_of_lt hi)
  have hlt:=eC hi
  have hadd:=bY i (by omega)
  have kf:=λ(U:Sg)=>sX (Z:=U) h (s:=x) (iw.ls U 9) (by rw[bl];omega)
  rw[aF]
  by_cases hm:x∈l.take i
  ·have hs:(bN (λy=>decide (y=x)) (l.take i)).isSome=true:=by rw[cG,any_eq];exact AT hm
   simp only[KP,Ax.loadAt,↓reduceIte,reduceEqDiff,reduceLT,reduceCtorEq,h.cM,g0,g3,la,hlt,aK d4,a_,e1,e2,kf,lH,hs]
   rw[Cl hx hm]
   exact rfl
  ·have hs:(bN (λy=>decide (y=x)) (l.take i)).isSome=false:=by rw[cG,any_eq];exact AI hm
   simp only[KP,Ax.loadAt,↓reduceIte,reduceEqDiff,reduceLT,reduceCtorEq,h.cM,g0,g3,la,hlt,aK d4,a_,e1,e2,kf,lH,hs,hadd]
   refine next _ _ ⟨rfl,(lT (by simp +decide only[GS,g0,aj]) (λj y hj hy=>?_))⟩
   rcases cj j i with g | g
   ·exact hp j y g hy
   ·obtain rfl:j=i:=by omega
    rw[hx]at hy;cases hy;exact hm
 ·rintro F U ⟨rfl,g0,g3,hp⟩
  have hlt:=eG (bg l.length)
  rw[aF]
  simp only[KP,↓reduceIte,reduceEqDiff,reduceLT,reduceCtorEq,g0,g3,la,hlt]
  rw[Af λi x hx=>hp i x (AS.1 hx).1 hx]
  exact rfl
theorem Gu (h:bJ E) {a:V}{l:List bD}(ha:LS aM 9 Z a l)(hsm:l.length<=4294967296):KC E 138 [a] Z (.bool (kZ l)) Z:=cH λ_=>TJ h ha hsm
end
end
section
section
variable {E:Env}{Z:Sg}{K:V->Sg->Prop}
theorem min2 (k:IntKind) (a b:Int):jM false k a [.int k b]=some (if b<a then b else a):=rfl
def lC (x:Step) (A B:Int):Bool:=decide ((x.args.length:Int)=A)&&(decide ((x.lits.length:Int)=B)&&((!decide (x.op=8)||decide (x.lits.head?≠some []))&&(decide (0<=x.n)&&(decide (x.n<=2000)&&(decide (x.op=9)||decide (x.n=0))))))
theorem Vw (h:bJ E) {x:Step}{a b:V} (ia:IS aM a x.args) (ib:IS aM b x.lits) {A B:Int}(h8:x.op=8->(x.lits.length:Int)=B->x.lits≠[]) (F:FT) (g1:F.get 1=.ref 0 0) (g3:F.get 3=.int .i64 A) (g4:F.get 4=.int .i64 B)(hk:K (.bool (lC x A B)) [.cells 82 [.str x.out,.int .i64 x.op,a,b,.int .i64 x.n] true]) :
  R E (cutAt [1,1,1,1] (aA Tryz.f172).code) [] ⟨85,F⟩ [.cells 82 [.str x.out,.int .i64 x.op,a,b,.int .i64 x.n] true] (mQ E (aA Tryz.f172).results K):=by
 have la:=bP h ia
 have lb:=bP h ib
 unfold lC at hk
 by_cases p1:(x.args.length:Int)=A
 case neg=>
  have q1:decide ((x.args.length:Int)=A)=false:=AI p1
  rw[q1]at hk
  simp only[aA,Tryz.f172,KP,Ax.loadAt,↓reduceIte,reduceEqDiff,reduceLT,reduceCtorEq,h.aY,h.cN,cutAt,g1,g3,la,q1]
  exact hk
 have q1:decide ((x.args.length:Int)=A)=true:=AT p1
 by_cases p2:(x.lits.length:Int)=B
 case neg=>
  have q2:decide ((x.lits.length:Int)=B)=false:=AI p2
  rw[q1,q2]at hk
  simp only[aA,Tryz.f172,KP,Ax.loadAt,↓reduceIte,reduceEqDiff,reduceLT,reduceCtorEq,h.aY,h.cN,cutAt,g1,g3,g4,la,lb,q1,q2]
  exact hk
 have q2:decide ((x.lits.length:Int)=B)=true:=AT p2
 have rest:∀(q3:(!decide (x.op=8)||decide (x.lits.head?≠some []))=true) (e:x.op=8->∃g y,indexAddr E 24 b (.int .i64 0)=some (.dH g [.str y])/\Ax.seq y []=false),R E (cutAt [1,1,1,1] (aA Tryz.f172).code) [] ⟨85,F⟩ [.cells 82 [.str x.out,.int .i64 x.op,a,b,.int .i64 x.n] true] (mQ E (aA Tryz.f172).results K):=by
  intro q3 e
  rw[q1,q2,q3]at hk
  have tail:∀(c8:Bool),decide (x.op=8)=c8->(c8=true->∃g y,indexAddr E 24 b (.int .i64 0)=some (.dH g [.str y])/\Ax.seq y []=false)->R E (cutAt [1,1,1,1] (aA Tryz.f172).code) [] ⟨85,F⟩ [.cells 82 [.str x.out,.int .i64 x.op,a,b,.int .i64 x.n] true] (mQ E (aA Tryz.f172).results K):=by
   intro c8 hc8 e
   by_cases p4:0<=x.n
   case neg=>
    have q4:decide (0<=x.n)=false:=AI p4
    rw[q4]at hk
    cases c8 with
    |false=>
     simp only[aA,Tryz.f172,KP,Ax.loadAt,↓reduceIte,reduceEqDiff,reduceLT,reduceCtorEq,h.oU,h.aY,h.cN,cutAt,g1,g3,g4,la,lb,q1,q2,hc8,q4]
     exact hk
    |true=>
     obtain⟨g,y,e1,e2⟩:=e rfl
     simp only[aA,Tryz.f172,KP,Ax.loadAt,↓reduceIte,reduceEqDiff,reduceLT,reduceCtorEq,h.oU,h.cM,h.aY,h.cN,kX,cutAt,g1,g3,g4,la,lb,q1,q2,hc8,q4,e1,e2]
     exact hk
   have q4:decide (0<=x.n)=true:=AT p4
   by_cases p5:x.n<=2000
   case neg=>
    have q5:decide (x.n<=2000)=false:=AI p5
    rw[q4,q5]at hk
    cases c8 with
    |false=>
     simp only[aA,Tryz.f172,KP,Ax.loadAt,↓reduceIte,reduceEqDiff,reduceLT,reduceCtorEq,h.oU,h.aY,h.cN,cutAt,g1,g3,g4,la,lb,q1,q2,hc8,q4,q5]
     exact hk
    |true=>
     obtain⟨g,y,e1,e2⟩:=e rfl
     simp only[aA,Tryz.f172,KP,Ax.loadAt,↓reduceIte,reduceEqDiff,reduceLT,reduceCtorEq,h.oU,h.cM,h.aY,h.cN,kX,cutAt,g1,g3,g4,la,lb,q1,q2,hc8,q4,q5,e1,e2]
     exact hk
   have q5:decide (x.n<=2000)=true:=AT p5
   rw[q4,q5]at hk
   by_cases p9:x.op=9
   ·have q9:decide (x.op=9)=true:=AT p9
    have q8:decide (x.op=8)=false:=AI (by omega)
    rw[q9]at hk
    simp only[aA,Tryz.f172,KP,Ax.loadAt,↓reduceIte,reduceEqDiff,reduceLT,reduceCtorEq,h.oU,h.aY,h.cN,cutAt,g1,g3,g4,la,lb,q1,q2,q8,q4,q5,q9]
    exact hk
   ·have q9:decide (x.op=9)=false:=AI p9
    by_cases p0:x.n=0
    ·have q0:decide (x.n=0)=true:=AT p0
     rw[q9,q0]at hk
     cases c8 with
     |false=>
      simp only[aA,Tryz.f172,KP,Ax.loadAt,↓reduceIte,reduceEqDiff,reduceLT,reduceCtorEq,h.oU,h.aY,h.cN,cutAt,g1,g3,g4,la,lb,q1,q2,hc8,q4,q5,q9,q0]
      exact hk
     |true=>
      obtain⟨g,y,e1,e2⟩:=e rfl
      simp only[aA,Tryz.f172,KP,Ax.loadAt,↓reduceIte,reduceEqDiff,reduceLT,reduceCtorEq,h.oU,h.cM,h.aY,h.cN,kX,cutAt,g1,g3,g4,la,lb,q1,q2,hc8,q4,q5,q9,q0,e1,e2]
      exact hk
    ·have q0:decide (x.n=0)=false:=AI p0
     rw[q9,q0]at hk
     cases c8 with
     |false=>
      simp only[aA,Tryz.f172,KP,Ax.loadAt,↓reduceIte,reduceEqDiff,reduceLT,reduceCtorEq,h.oU,h.aY,h.cN,cutAt,g1,g3,g4,la,lb,q1,q2,hc8,q4,q5,q9,q0]
      exact hk
     |true=>
      obtain⟨g,y,e1,e2⟩:=e rfl
      simp only[aA,Tryz.f172,KP,Ax.loadAt,↓reduceIte,reduceEqDiff,reduceLT,reduceCtorEq,h.oU,h.cM,h.aY,h.cN,kX,cutAt,g1,g3,g4,la,lb,q1,q2,hc8,q4,q5,q9,q0,e1,e2]
      exact hk
  exact tail _ rfl λhc=>e (dx hc)
 by_cases p8:x.op=8
 ·have hne:=h8 p8 p2
  obtain⟨y,r,hyr⟩:=nj hne
  obtain⟨g,e1⟩:=gI h ib (i:=0) (x:=y) (by rw[hyr];rfl)
  by_cases hy:y=[]
  ·have e2:=gC hy
   have q8:decide (x.op=8)=true:=AT p8
   have q3:decide (x.lits.head?≠some [])=false:=AI (by rw[hyr,hy];simp)
   rw[q1,q2,q8,q3]at hk
   have e1:indexAddr E 24 b (.int .i64 0)=some (.dH g [.str y]):=e1
   simp only[aA,Tryz.f172,KP,Ax.loadAt,↓reduceIte,reduceEqDiff,reduceLT,reduceCtorEq,h.oU,h.cM,h.aY,h.cN,kX,cutAt,g1,g3,g4,la,lb,q1,q2,q8,e1,e2]
   exact hk
  ·refine rest ?_ λ_=>⟨g,y,e1,fU hy⟩
   rw[show decide (x.lits.head?≠some [])=true from AT (by rw[hyr];simpa using hy),Bool.or_true]
 ·exact rest (by rw[show decide (x.op=8)=false from AI p8];rfl) λe=>absurd e p8
theorem Sh (h:bJ E) {x:Step}{a b:V} (ia:IS aM a x.args) (ib:IS aM b x.lits)(hsm:x.lits.length<=4294967296) {A B:Int}(h8:x.op=8->(x.lits.length:Int)=B->x.lits≠[]) (F:FT) (g1:F.get 1=.ref 0 0) (g3:F.get 3=.int .i64 A) (g4:F.get 4=.int .i64 B) (g5:F.get 5=.int .i64 0)
  (hk:K (.bool (x.lits.all (λl=>decide (l.length<=100))&&lC x A B)) [.cells 82 [.str x.out,.int .i64 x.op,a,b,.int .i64 x.n] true]) :
  R E (.loop (cutAt [1,1,1,0,1,2,2] (aA Tryz.f172).code)) [.blk 1,.k (cutAt [1,1,1,1] (aA Tryz.f172).code)] ⟨85,F⟩ [.cells 82 [.str x.out,.int .i64 x.op,a,b,.int .i64 x.n] true] (mQ E (aA Tryz.f172).results K):=by
 have lb:=bP h ib
 have key:=λF g1 g3 g4 hk=>Vw (K:=K) (A:=A) (B:=B) h ia ib h8 F g1 g3 g4 hk
 generalize cutAt [1,1,1,1] (aA Tryz.f172).code=C at key ⊢
 refine aV (λi F U=>U=[.cells 82 [.str x.out,.int .i64 x.op,a,b,.int .i64 x.n] true]/\F.get 1=.ref 0 0/\F.get 3=.int .i64 A/\F.get 4=.int .i64 B/\F.get 5=.int .i64 (i:Int)/\∀j y,j<i->x.lits[j]?=some y->y.length<=100) x.lits.length ?_ ?_ x.lits.length 0 _ _ (by omega) ⟨rfl,g1,g3,g4,g5,λj y hj=>by omega⟩
 ·rintro i F U hi ⟨rfl,g1,g3,g4,g5,hp⟩ next
  obtain⟨y,hy⟩:∃y,x.lits[i]?=some y:=⟨_,BY hi⟩
  obtain⟨g,e1⟩:=gI h ib hy
  have hlt:=eC hi
  have hadd:=bY i (by omega)
  rw[aF]
  by_cases hl:y.length<=100
  ·have q:decide ((100:Int)<(y.length:Int))=false:=AI (by omega)
   simp only[aA,Tryz.f172,KP,Ax.loadAt,↓reduceIte,reduceEqDiff,reduceLT,reduceCtorEq,h.cM,h.aY,h.cN,gF h,cutAt,g1,g5,lb,hlt,e1,q,hadd]
   refine next _ _ ⟨rfl,(fZ (by simp +decide only[GS,g1,g3,g4,aj]) (λj z hj hz=>?_))⟩
   rcases cj j i with g | g
   ·exact hp j z g hz
   ·obtain rfl:j=i:=by omega
    rw[hy]at hz;cases hz;exact hl
  ·have q:decide ((100:Int)<(y.length:Int))=true:=AT (by omega)
   simp only[aA,Tryz.f172,KP,Ax.loadAt,↓reduceIte,reduceEqDiff,reduceLT,reduceCtorEq,h.cM,h.aY,h.cN,gF h,cutAt,g1,g5,lb,hlt,e1,q]
   rw[iF hy (AI hl),mj]at hk
   exact hk
 ·rintro F U ⟨rfl,g1,g3,g4,g5,hp⟩
  have hlt:=eG (bg x.lits.length)
  rw[aF]
  rw[AX λj y _ hy=>AT (hp j y (AS.1 hy).1 hy),iz]at hk
  simp only[aA,Tryz.f172,KP,Ax.loadAt,↓reduceIte,reduceEqDiff,reduceLT,reduceCtorEq,h.aY,h.cN,cutAt,g1,g5,lb,hlt]
  exact key _ (by simp +decide only[GS,g1]) (by simp +decide only[GS,g3]) (by simp +decide only[GS,g4]) hk
theorem Sr {n:Nat}:decide ((n:Int)=(if (6:Int)<(n:Int) then 6 else (n:Int)))=decide (n<=6):=by
 by_cases g:(6:Int)<(n:Int)
 ·rw[b8 g,AI (by omega),AI (by omega)]
 ·rw[ay g,AT rfl,AT (by omega)]
theorem end_1 {x:Step} (e:x.op=1):(x.lits.all (λl=>decide (l.length<=100))&&lC x 1 0)=cJ x:=by
 unfold lC cJ counts
 rw[e]
 skip
 generalize x.lits.all (λl=>decide (l.length<=100))=L
 generalize x.args.length=n
 generalize x.lits.length=m
 generalize x.lits.head?=hd
 generalize x.n=c
 rw[dn]
 by_cases hh:hd=some []
 ·cases L <;> simp[hh] <;> omega
 ·cases L <;> simp[hh] <;> omega
theorem abn {x:Step} (e:x.op=2):(x.lits.all (λl=>decide (l.length<=100))&&lC x 1 0)=cJ x:=by
 unfold lC cJ counts
 rw[e]
 skip
 generalize x.lits.all (λl=>decide (l.length<=100))=L
 generalize x.args.length=n
 generalize x.lits.length=m
 generalize x.lits.head?=hd
 generalize x.n=c
 rw[dn]
 by_cases hh:hd=some []
 ·cases L <;> simp[hh] <;> omega
 ·cases L <;> simp[hh] <;> omega
theorem abm {x:Step} (e:x.op=3):(x.lits.all (λl=>decide (l.length<=100))&&lC x 1 0)=cJ x:=by
 unfold lC cJ counts
 rw[e]
 skip
 generalize x.lits.all (λl=>decide (l.length<=100))=L
 generalize x.args.length=n
 generalize x.lits.length=m
 generalize x.lits.head?=hd
 generalize x.n=c
 rw[dn]
 by_cases hh:hd=some []
 ·cases L <;> simp[hh] <;> omega
 ·cases L <;> simp[hh] <;> omega
theorem abl {x:Step} (e:x.op=4):(x.lits.all (λl=>decide (l.length<=100))&&lC x 1 0)=cJ x:=by
 unfold lC cJ counts
 rw[e]
 skip
 generalize x.lits.all (λl=>decide (l.length<=100))=L
 generalize x.args.length=n
 generalize x.lits.length=m
 generalize x.lits.head?=hd
 generalize x.n=c
 rw[dn]
 by_cases hh:hd=some []
 ·cases L <;> simp[hh] <;> omega
 ·cases L <;> simp[hh] <;> omega
theorem abf {x:Step} (e:x.op=9):(x.lits.all (λl=>decide (l.length<=100))&&lC x 1 0)=cJ x:=by
 unfold lC cJ counts
 rw[e]
 skip
 generalize x.lits.all (λl=>decide (l.length<=100))=L
 generalize x.args.length=n
 generalize x.lits.length=m
 generalize x.lits.head?=hd
 generalize x.n=c
 rw[dn]
 by_cases hh:hd=some []
 ·cases L <;> simp[hh] <;> omega
 ·cases L <;> simp[hh] <;> omega
theorem abk {x:Step} (e:x.op=5):(x.lits.all (λl=>decide (l.length<=100))&&lC x (if (6:Int)<(x.args.length:Int) then 6 else (x.args.length:Int)) 0)=cJ x:=by
 unfold lC cJ counts
 rw[e]
 rw[Sr]
 generalize x.lits.all (λl=>decide (l.length<=100))=L
 generalize x.args.length=n
 generalize x.lits.length=m
 generalize x.lits.head?=hd
 generalize x.n=c
 rw[dn]
 by_cases hh:hd=some []
 ·cases L <;> simp[hh] <;> omega
 ·cases L <;> simp[hh] <;> omega
theorem abj {x:Step} (e:x.op=6):(x.lits.all (λl=>decide (l.length<=100))&&lC x 0 1)=cJ x:=by
 unfold lC cJ counts
 rw[e]
 skip
 generalize x.lits.all (λl=>decide (l.length<=100))=L
 generalize x.args.length=n
 generalize x.lits.length=m
 generalize x.lits.head?=hd
 generalize x.n=c
 rw[dn]
 by_cases hh:hd=some []
 ·cases L <;> simp[hh] <;> omega
 ·cases L <;> simp[hh] <;> omega
theorem abh {x:Step} (e:x.op=7):(x.lits.all (λl=>decide (l.length<=100))&&lC x 1 1)=cJ x:=by
 unfold lC cJ counts
 rw[e]
 skip
 generalize x.lits.all (λl=>decide (l.length<=100))=L
 generalize x.args.length=n
 generalize x.lits.length=m
 generalize x.lits.head?=hd
 generalize x.n=c
 rw[dn]
 by_cases hh:hd=some []
 ·cases L <;> simp[hh] <;> omega
 ·cases L <;> simp[hh] <;> omega
theorem abg {x:Step} (e:x.op=8):(x.lits.all (λl=>decide (l.length<=100))&&lC x 1 2)=cJ x:=by
 unfold lC cJ counts
 rw[e]
 skip
 generalize x.lits.all (λl=>decide (l.length<=100))=L
 generalize x.args.length=n
 generalize x.lits.length=m
 generalize x.lits.head?=hd
 generalize x.n=c
 rw[dn]
 by_cases hh:hd=some []
 ·cases L <;> simp[hh] <;> omega
 ·cases L <;> simp[hh] <;> omega
theorem NY (h:bJ E) {v:V}{x:Step}(hv:KG v x)(hsm:x.lits.length<=4294967296):aC E 172 [v] Z K=K (.bool (cJ x)) Z:=by
 refine aC.of ?_
 have ev:=hv.snap (E:=E) Z
 obtain⟨a,b,rfl,ia,ib⟩:=hv
 have la:=bP h ia
 rw[aH h.ZZ h.XB h.aaM h.Y7 (args':=[.agg [.str x.out,.int .i64 x.op,a,b,.int .i64 x.n]]) (by simp only[aU,ev]),aX (by kernel_rfl)]
 have hoka:a.aW=true:=aL ia.bF
 have hokb:b.aW=true:=aL ib.bF
 by_cases hop:x.op=1\/x.op=2\/x.op=3\/x.op=4\/x.op=9\/x.op=5\/x.op=6\/x.op=7\/x.op=8
 ·have key:=λA B h8 F g1 g3 g4 g5 hk=>Sh (K:=λv σ1=>match bW σ1 E.ty false v with
    |some v=>v=.bool (cJ x)
    |none=>False) h ia ib hsm (A:=A) (B:=B) h8 F g1 g3 g4 g5 hk
  generalize hC:cutAt [1,1,1,1] (aA Tryz.f172).code=C at key
  generalize hD:cutAt [1,1,1,0,1,2,2] (aA Tryz.f172).code=D at key
  have e1:(aA Tryz.f172).code=.seq (cutAt [0] (aA Tryz.f172).code) (.seq (cutAt [1,0] (aA Tryz.f172).code) (.seq (cutAt [1,1,0] (aA Tryz.f172).code) (.seq (.seq (cutAt [1,1,1,0,0] (aA Tryz.f172).code) (.block 1 (.loop D))) C))):=by rw[<- hC,<- hD];rfl
  rw[e1]
  clear e1 hC hD
  rcases hop with e | e | e | e | e | e | e | e | e
  ·have q:∀k:Int,decide (x.op=k)=decide ((1:Int)=k):=λk=>by rw[e]
   simp only[aA,Tryz.f172,KP,Ax.loadAt,↓reduceIte,reduceEqDiff,reduceLT,reduceAdd,reduceCtorEq,h.oU,h.cN,cutAt,q,hoka,hokb]
   refine key 1 0 (λe8 e9=>?_) _ ?_ ?_ ?_ ?_ ?_
   ·omega
   ·exact (by simp +decide only[GS])
   ·exact (by simp +decide only[GS])
   ·exact (by simp +decide only[GS])
   ·exact (by simp +decide only[GS])
   ·exact au V.bool (end_1 e)
  ·have q:∀k:Int,decide (x.op=k)=decide ((2:Int)=k):=λk=>by rw[e]
   simp only[aA,Tryz.f172,KP,Ax.loadAt,↓reduceIte,reduceEqDiff,reduceLT,reduceAdd,reduceCtorEq,reduceEq,h.oU,h.cN,cutAt,q,hoka,hokb]
   refine key 1 0 (λe8 e9=>?_) _ ?_ ?_ ?_ ?_ ?_
   ·omega
   ·exact (by simp +decide only[GS])
   ·exact (by simp +decide only[GS])
   ·exact (by simp +decide only[GS])
   ·exact (by simp +decide only[GS])
   ·exact au V.bool (abn e)
  ·have q:∀k:Int,decide (x.op=k)=decide ((3:Int)=k):=λk=>by rw[e]
   simp only[aA,Tryz.f172,KP,Ax.loadAt,↓reduceIte,reduceEqDiff,reduceLT,reduceAdd,reduceCtorEq,reduceEq,h.oU,h.cN,cutAt,q,hoka,hokb]
   refine key 1 0 (λe8 e9=>?_) _ ?_ ?_ ?_ ?_ ?_
   ·omega
   ·exact (by simp +decide only[GS])
   ·exact (by simp +decide only[GS])
   ·exact (by simp +decide only[GS])
   ·exact (by simp +decide only[GS])
   ·exact au V.bool (abm e)
  ·have q:∀k:Int,decide (x.op=k)=decide ((4:Int)=k):=λk=>by rw[e]
   simp only[aA,Tryz.f172,KP,Ax.loadAt,↓reduceIte,reduceEqDiff,reduceLT,reduceAdd,reduceCtorEq,reduceEq,h.oU,h.cN,cutAt,q,hoka,hokb]
   refine key 1 0 (λe8 e9=>?_) _ ?_ ?_ ?_ ?_ ?_
   ·omega
   ·exact (by simp +decide only[GS])
   ·exact (by simp +decide only[GS])
   ·exact (by simp +decide only[GS])
   ·exact (by simp +decide only[GS])
   ·exact au V.bool (abl e)
  ·have q:∀k:Int,decide (x.op=k)=decide ((9:Int)=k):=λk=>by rw[e]
   simp only[aA,Tryz.f172,KP,Ax.loadAt,↓reduceIte,reduceEqDiff,reduceLT,reduceAdd,reduceCtorEq,reduceEq,h.oU,h.cN,cutAt,q,hoka,hokb]
   refine key 1 0 (λe8 e9=>?_) _ ?_ ?_ ?_ ?_ ?_
   ·omega
   ·exact (by simp +decide only[GS])
   ·exact (by simp +decide only[GS])
   ·exact (by simp +decide only[GS])
   ·exact (by simp +decide only[GS])
   ·exact au V.bool (abf e)
  ·have q:∀k:Int,decide (x.op=k)=decide ((5:Int)=k):=λk=>by rw[e]
   simp only[aA,Tryz.f172,KP,Ax.loadAt,↓reduceIte,reduceEqDiff,reduceLT,reduceAdd,reduceCtorEq,reduceEq,h.oU,h.aY,h.cN,cutAt,la,q,hoka,hokb,min2]
   refine key (if (6:Int)<(x.args.length:Int) then 6 else (x.args.length:Int)) 0 (λe8 e9=>?_) _ ?_ ?_ ?_ ?_ ?_
   ·omega
   ·exact (by simp +decide only[GS])
   ·exact (by simp +decide only[GS])
   ·exact (by simp +decide only[GS])
   ·exact (by simp +decide only[GS])
   ·exact au V.bool (abk e)
  ·have q:∀k:Int,decide (x.op=k)=decide ((6:Int)=k):=λk=>by rw[e]
   simp only[aA,Tryz.f172,KP,Ax.loadAt,↓reduceIte,reduceEqDiff,reduceLT,reduceAdd,reduceCtorEq,reduceEq,h.oU,h.cN,cutAt,q,hoka,hokb]
   refine key 0 1 (λe8 e9=>?_) _ ?_ ?_ ?_ ?_ ?_
   ·omega
   ·exact (by simp +decide only[GS])
   ·exact (by simp +decide only[GS])
   ·exact (by simp +decide only[GS])
   ·exact (by simp +decide only[GS])
   ·exact au V.bool (abj e)
  ·have q:∀k:Int,decide (x.op=k)=decide ((7:Int)=k):=λk=>by rw[e]
   simp only[aA,Tryz.f172,KP,Ax.loadAt,↓reduceIte,reduceEqDiff,reduceLT,reduceAdd,reduceCtorEq,reduceEq,h.oU,h.cN,cutAt,q,hoka,hokb]
   refine key 1 1 (λe8 e9=>?_) _ ?_ ?_ ?_ ?_ ?_
   ·omega
   ·exact (by simp +decide only[GS])
   ·exact (by simp +decide only[GS])
   ·exact (by simp +decide only[GS])
   ·exact (by simp +decide only[GS])
   ·exact au V.bool (abh e)
  ·have q:∀k:Int,decide (x.op=k)=decide ((8:Int)=k):=λk=>by rw[e]
   simp only[aA,Tryz.f172,KP,Ax.loadAt,↓reduceIte,reduceEqDiff,reduceLT,reduceAdd,reduceCtorEq,reduceEq,h.oU,h.cN,cutAt,q,hoka,hokb]
   refine key 1 2 (λe8 e9=>?_) _ ?_ ?_ ?_ ?_ ?_
   ·intro e0;rw[e0]at e9;simp at e9
   ·exact (by simp +decide only[GS])
   ·exact (by simp +decide only[GS])
   ·exact (by simp +decide only[GS])
   ·exact (by simp +decide only[GS])
   ·exact au V.bool (abg e)
 ·have q:∀k:Int,(k=1\/k=2\/k=3\/k=4\/k=9\/k=5\/k=6\/k=7\/k=8)->decide (x.op=k)=false:=λk hk=>AI (λe=>hop (by rw[e];exact hk))
  have q1:=q 1 (by simp)
  have q2:=q 2 (by simp)
  have q3:=q 3 (by simp)
  have q4:=q 4 (by simp)
  have q5:=q 5 (by simp)
  have q6:=q 6 (by simp)
  have q7:=q 7 (by simp)
  have q8:=q 8 (by simp)
  have q9:=q 9 (by simp)
  simp only[aA,Tryz.f172,KP,Ax.loadAt,↓reduceIte,reduceEqDiff,reduceLT,reduceAdd,reduceCtorEq,h.oU,h.cN,hoka,hokb,q1,q2,q3,q4,q5,q6,q7,q8,q9]
  have e:cJ x=false:=by
   unfold cJ
   rw[AI (by omega)];rfl
  rw[e]
  exact rfl
theorem Nn (h:bJ E) {v:V}{x:Step}(hv:KG v x)(hsm:x.lits.length<=4294967296):KC E 172 [v] Z (.bool (cJ x)) Z:=cH λ_=>NY h hv hsm
end
end
section
section
variable {E:Env}{Z:Sg}{K:V->Sg->Prop}
def tV (l:List bD) (c:Nat):List bD:=if c=47 then l++[[]] else l.set (l.length-1) ((l[l.length-1]?).getD []++[c])
theorem Ag (c:Nat):∀s:bD,cO c s≠[]
 | []=>by simp[cO]
 |a::r=>by
  rw[cO]
  split
  ·simp
  ·split <;> simp
theorem xU {p:bD}{l:List bD}(hl:l≠[]) (c:Nat):tV (p::l) c=p::tV l c:=by
 obtain⟨x,r,rfl⟩:=nj hl
 unfold tV
 split
 ·rfl
 ·simp
theorem uJ (c:Nat):∀s:bD,cO 47 (s++[c])=tV (cO 47 s) c
 | []=>by
  by_cases h:c=47 <;> simp[cO,tV,h]
 |a::r=>by
  have ih:=uJ c r
  rw[dy,cO,cO]
  by_cases h:a=47
  ·rw[b8 h,b8 h,ih,xU (Ag 47 r)]
  ·rw[ay h,ay h,ih]
   obtain⟨p,ps,hp⟩:=nj (Ag 47 r)
   rw[hp]
   cases ps with
   |nil=>
    unfold tV
    by_cases hc:c=47
    ·simp[hc]
    ·simp[hc]
   |cons q qs=>
    have e1:tV (p::q::qs) c=p::tV (q::qs) c:=xU (by simp) c
    have e2:tV ((a::p)::q::qs) c=(a::p)::tV (q::qs) c:=xU (by simp) c
    rw[e1]
    exact e2.symm
theorem sG (c:Nat):∀s:bD,(cO c s).length<=s.length+1
 | []=>ae _
 |a::r=>by
  have ih:=sG c r
  rw[cO]
  split
  ·simp only[aa];omega
  ·split
   ·rename_i h;rw[h]at ih;simp only[aa]at ih ⊢;omega
   ·simp
theorem uK {s:bD}:∀{P:List bD},cO 47 s=P->∀y∈P,y.length<=s.length:=by
 induction s with
 |nil=>intro P hP y hy;subst hP;simp[cO]at hy;subst hy;exact ae _
 |cons a r ih=>
  intro P hP y hy
  subst hP
  rw[cO]at hy
  split at hy
  ·rcases By.1 hy with rfl | hy
   ·simp
   ·have:=ih rfl y hy;simp only[aa];omega
  ·split at hy
   ·rename_i p ps hp
    rcases By.1 hy with rfl | hy
    ·have:=ih hp p (IN ..);simp only[aa];omega
    ·have:=ih hp y (No _ hy);simp only[aa];omega
   ·simp at hy;subst hy;simp
theorem Ek (n:Nat)(h0:0<n)(h:n<9223372036854775807):wr .i64 ((n:Int)-1)=((n-1:Nat):Int):=by
 rw[Cd,b8]
 ·omega
 ·have h1:lo .i64 = -9223372036854775808:=rfl
  have h2:hi .i64=9223372036854775807:=rfl
  rw[h1,h2,ah,IT,IT]
  omega
theorem LQ (h:bJ E) {s:bD}{i c:Nat}(hc:s[i]?=some c):Ax.index E 9 (.str s) (.int .i64 (i:Int))=some (.int .u8 (c:Int)):=by
 have hneg:¬ ((i:Int)<0):=by omega
 unfold Ax.index
 simp only[h.cM,hneg,aq,dj,hc]
theorem MM (h:bJ E) {s:bD}{i c:Nat}(hc:s[i]?=some c):Ax.slice E Z 9 (.str s) (some (.int .i64 (i:Int))) (some (.int .i64 ((i+1:Nat):Int))) none=some (.str [c]):=by
 have hi:=(AS.1 hc).1
 have hb:∀n m:Nat,m<=n->∀d,Ax.bound n (some (.int .i64 (m:Int))) d=some m:=λn m hm d=>by
  unfold Ax.bound
  simp only[]
  rw[b8 (by simp only[ah,IT];omega)]
  rfl
 unfold Ax.slice
 simp only[h.cM,jj,ai,aq]
 rw[hb s.length (i+1) hi]
 simp only[]
 rw[hb (i+1) i (by omega)]
 simp only[]
 rw[show i+1-i=1 by omega,List.drop_eq_getElem_cons hi]
 have:=(AS.1 hc).2
 rw[this];rfl
theorem lB (s:bD):Ax.fill (λj=>some (j*1,1)) (fG 1 [V.str []]) [(0,V.str s)]=some [.str s]:=rfl
theorem TT (h:bJ E) {s:bD}(hsm:s.length<=1000000000):aC E 196 [.str s] Z λv σ'=>σ'=Z/\iO aM v (cO 47 s):=by
 rw[aH h.ZS h.Xu h.aaG h.Y1 (args':=[.str s]) (by simp only[aU,dD]),aX (by kernel_rfl)]
 simp only[aA,Tryz.f196,KP,↓reduceIte,reduceLT,reduceLeDiff,reduceMul,h.cM,h.aY,kX,lB]
 have d7:=h.Wf
 simp only[aA,Tryz.f196,cutAt,ag]at d7
 refine aV (λi F U=>F.get 0=.str s/\F.get 4=.int .i64 (i:Int)/\∃w,F.get 3=w/\bH aM 9 U w (cO 47 (s.take i))) s.length ?_ ?_ s.length 0 _ _ (by omega) (lT (by simp +decide only[GS,aj]) ⟨.sl 0 0 1 none,(by simp +decide only[GS]),.inr ⟨0,[[.str []]],true,rfl,rfl,.one rfl⟩⟩)
 ·rintro i F U hi ⟨g0,g4,w,g3,ow⟩ next
  obtain⟨c,hc⟩:∃c,s[i]?=some c:=⟨_,BY hi⟩
  have e1:=LQ h hc
  have hlt:=eC hi
  have hadd:=bY i (by omega)
  have htk:s.take (i+1)=s.take i++[c]:=by rw[dh,hc];rfl
  have hln:=sG 47 (s.take i)
  have hln2:(s.take i).length<=s.length:=by rw[bl];omega
  rw[aF]
  by_cases h47:c=47
  ·have q:decide ((c:Int)=47)=true:=AT (by omega)
   obtain⟨w',τ',ha,ow',-,-,-⟩:=iB (ats:=#[24,24]) (x:=.sl U.length 0 1 none) (m:=[[]]) (new:=[[.str []]]) h.aY rfl h.cM rfl (by decide) (iD h) rfl (ow.app [.cells 9 [.str []] true]) (kO rfl) (.one rfl) (cZ (b:=1000000002) (by decide) (by simp only[aa,bf];omega))
   simp only[KP,↓reduceIte,reduceEqDiff,reduceLT,reduceLeDiff,reduceMul,reduceCtorEq,h.cM,h.aY,gF h,kX,g0,g3,g4,hlt,e1,q,lB,ha,hadd]
   refine next _ _ (lT (by simp +decide only[GS,g0,aj]) ⟨w',(by simp +decide only[GS]),?_⟩)
   rw[htk,uJ,tV,b8 h47]
   exact ow'
  ·have q:decide ((c:Int)=47)=false:=AI (by omega)
   have hpos:0<(cO 47 (s.take i)).length:=List.length_pos_iff.2 (Ag 47 _)
   generalize hP:cO 47 (s.take i)=P at *
   obtain⟨y,hy⟩:∃y,P[P.length-1]?=some y:=⟨_,BY (by omega)⟩
   have hyl:y.length<=s.length:=by
    have:=uK hP y (af hy)
    omega
   obtain⟨b,e2,-,τ',e3,ow',-,-⟩:=Et (u:=.str (y++[c])) (y:=y++[c]) h.aY rfl h.cM rfl ow (i:=P.length-1) (by omega) rfl rfl
   obtain⟨p,r,e4,e5,-,e6,-⟩:=Fv (Z:=U) h.aY rfl h.cM rfl ow.ls hy
   have e6:=e6 rfl (by decide)
   rw[e2]at e4
   cases e4
   rw[show r=[.str y] from e5]at e6
   have e6:loadAt E U 9 (.ref b ((P.length-1)*1))=some (.str y):=e6
   have e3:storeAt E U 9 (.ref b ((P.length-1)*1)) (.str (y++[c]))=some τ':=e3
   have e2:indexAddr E 24 w (.int .i64 ((P.length-1:Nat):Int))=some (.ref b ((P.length-1)*1)):=e2
   have lw:∀Z,lenOf E Z 24 w=some P.length:=λZ=>by
    rcases ow with⟨rfl,rfl⟩ | ⟨b,rs,ex,rfl,-⟩
    ·simp at hpos
    ·unfold lenOf;rw[h.aY]
   have hdn:=Ek P.length hpos (by omega)
   have hsl:=λZ=>MM (Z:=Z) h hc
   have hcat:decide (y.length<=9223372036854775806)=true:=AT (by omega)
   simp only[KP,↓reduceIte,reduceEqDiff,reduceLT,reduceLeDiff,reduceCtorEq,gF h,g0,g3,g4,hlt,e1,q,lw,hdn,aK d7,a_,e2,e6,hadd,hsl,hcat,e3]
   refine next _ _ ⟨?_,?_,w,?_,?_⟩
   ·exact (by simp +decide only[GS,g0])
   ·exact (by simp +decide only[GS])
   ·exact (by simp +decide only[GS,g3])
   rw[htk,uJ,hP,tV,ay h47,hy]
   exact ow'
 ·rintro F U ⟨g0,g4,w,g3,ow⟩
  have hlt:=eG (bg s.length)
  rw[aF]
  rw[ak (ae _)]at ow
  obtain⟨v',e1,hv⟩:=oV h.cM rfl (λr x hr c hc=>by rw[show r=[.str x] from hr]at hc;cases hc with | head=>rfl | tail _ h=>cases h) ow
  simp only[KP,↓reduceIte,reduceEqDiff,reduceLT,reduceCtorEq,gF h,g0,g3,g4,hlt,e1]
  exact hv
end
end
section
section
variable {E:Env}{Z:Sg}{K:V->Sg->Prop}
theorem PJ {s:bD}(h1:pD s=false)(h2:s.length<=40):bL s=(cO 47 s).all sO:=by
 unfold bL;rw[h1,AT h2];simp
theorem Aq {p:bD}(h:p=[]\/p=[46]\/p=[46,46]):sO p=false:=by
 unfold sO
 rcases h with rfl | rfl | rfl <;> simp
theorem JU {p:bD}(h1:p≠[])(h2:p≠[46])(h3:p≠[46,46]):sO p=p.all sign:=by
 unfold sO;rw[AI h1,AI h2,AI h3];simp
theorem QS (h:bJ E) {s:bD}:aC E 173 [.str s] Z K=K (.bool (bL s)) Z:=by
 refine aC.of ?_
 rw[aH h.ZY h.XA h.aaL h.Y6 (args':=[.str s]) (by simp only[aU,dD]),aX (by kernel_rfl)]
 have ls:∀Z,lenOf E Z 9 (.str s)=some s.length:=λZ=>gF h
 by_cases h0:s=[]
 ·subst h0
  simp only[aA,Tryz.f173,KP,↓reduceIte,reduceEqDiff,reduceLT,reduceCtorEq,Int.reduceLT,gF h]
  exact rfl
 have hl0:0<s.length:=List.length_pos_iff.2 h0
 have q0:decide ((s.length:Int)<1)=false:=AI (by omega)
 by_cases h40:s.length<=40
 case neg=>
  have q1:decide ((40:Int)<(s.length:Int))=true:=AT (by omega)
  simp only[aA,Tryz.f173,KP,↓reduceIte,reduceEqDiff,reduceLT,reduceCtorEq,gF h,q0,q1]
  show V.bool false=_
  unfold bL
  rw[AI h40,Bool.and_false,mj]
 have q1:decide ((40:Int)<(s.length:Int))=false:=AI (by omega)
 by_cases w3:s=[114,117,108,101]
 ·have e3:=gC w3
  simp only[aA,Tryz.f173,KP,↓reduceIte,reduceEqDiff,reduceLT,reduceCtorEq,gF h,DG,q0,q1,e3]
  rw[w3]
  exact rfl
 have e3:=fU w3
 by_cases w4:s=[105,110]
 ·have e4:=gC w4
  simp only[aA,Tryz.f173,KP,↓reduceIte,reduceEqDiff,reduceLT,reduceCtorEq,gF h,DG,GH,q0,q1,e3,e4]
  rw[w4]
  exact rfl
 have e4:=fU w4
 by_cases w5:s=[111,117,116]
 ·have e5:=gC w5
  simp only[aA,Tryz.f173,KP,↓reduceIte,reduceEqDiff,reduceLT,reduceCtorEq,gF h,DG,GH,Kn,q0,q1,e3,e4,e5]
  rw[w5]
  exact rfl
 have e5:=fU w5
 by_cases w6:s=[97,102,116,101,114]
 ·have e6:=gC w6
  simp only[aA,Tryz.f173,KP,↓reduceIte,reduceEqDiff,reduceLT,reduceCtorEq,gF h,DG,GH,Kn,QE,q0,q1,e3,e4,e5,e6]
  rw[w6]
  exact rfl
 have e6:=fU w6
 have hsm:s.length<=1000000000:=by omega
 have hr:pD s=false:=by unfold pD;rw[AI w3,AI w4,AI w5,AI w6];rfl
 rw[PJ hr h40]
 simp only[aA,Tryz.f173,KP,↓reduceIte,reduceEqDiff,reduceLT,reduceCtorEq,gF h,DG,GH,Kn,QE,q0,q1,e3,e4,e5,e6]
 refine aO (TT h hsm) ?_
 rintro v σ' ⟨rfl,hv⟩
 have iv:=hv.is
 have la:=bP h iv
 have hPl:=sG 47 s
 have hPp:=uK (s:=s) rfl
 generalize cO 47 s=P at *
 simp only[KP,↓reduceIte,reduceLT]
 refine aV (λi F U=>U=[]/\F.get 3=v/\F.get 4=.int .i64 (i:Int)/\∀j y,j<i->P[j]?=some y->sO y=true) P.length ?_ ?_ P.length 0 _ _ (by omega) ⟨rfl,(lT (by simp +decide only[GS,aj]) (λj y hj=>by omega))⟩
 ·rintro i F U hi ⟨rfl,g3,g4,hp⟩ next
  obtain⟨p,hpi⟩:∃p,P[i]?=some p:=⟨_,BY hi⟩
  have hpl:=hPp p (af hpi)
  obtain⟨g,e1⟩:=gI h iv hpi
  have hlt:=eC hi
  have hadd:=bY i (by omega)
  rw[aF]
  by_cases b1:p=[]
  ·have s1:=gC b1
   rw[iF hpi (Aq (.inl b1))]
   simp only[KP,Ax.loadAt,↓reduceIte,reduceEqDiff,reduceLT,h.cM,kX,g3,g4,la,hlt,e1,s1]
   exact rfl
  have s1:=fU b1
  by_cases b2:p=[46]
  ·have s2:=gC b2
   rw[iF hpi (Aq (.inr (.inl b2)))]
   simp only[KP,Ax.loadAt,↓reduceIte,reduceEqDiff,reduceLT,h.cM,kX,NF,g3,g4,la,hlt,e1,s1,s2]
   exact rfl
  have s2:=fU b2
  by_cases b3:p=[46,46]
  ·have s3:=gC b3
   rw[iF hpi (Aq (.inr (.inr b3)))]
   simp only[KP,Ax.loadAt,↓reduceIte,reduceEqDiff,reduceLT,h.cM,kX,NF,TE,g3,g4,la,hlt,e1,s1,s2,s3]
   exact rfl
  have s3:=fU b3
  simp only[KP,Ax.loadAt,↓reduceIte,reduceEqDiff,reduceLT,h.cM,kX,NF,TE,g3,g4,la,hlt,e1,s1,s2,s3]
  refine aV (λk F U=>U=[]/\F.get 3=v/\F.get 4=.int .i64 (i:Int)/\F.get 5=.int .i64 (k:Int)/\∀j y,j<k->p[j]?=some y->sign y=true) p.length ?_ ?_ p.length 0 _ _ (by omega) ⟨rfl,(gE (by simp +decide only[GS,g3,g4,aj]) (λj y hj=>by omega))⟩
  ·rintro k F U hk ⟨rfl,g3,g4,g5,hq⟩ next2
   obtain⟨c,hc⟩:∃c,p[k]?=some c:=⟨_,BY hk⟩
   have e2:=LQ h hc
   have hlt2:=eC hk
   have hadd2:=bY k (by omega)
   have kf:=λ(U:Sg)=>VS (Z:=U) h (c:=c)
   rw[aF]
   by_cases hs:sign c=true
   ·simp only[KP,Ax.loadAt,↓reduceIte,reduceEqDiff,reduceLT,h.cM,gF h,g3,g4,g5,hlt2,e1,e2,kf,hs,hadd2]
    refine next2 _ _ ⟨rfl,(gE (by simp +decide only[GS,g3,g4,aj]) (λj y hj hy=>?_))⟩
    rcases cj j k with g | g
    ·exact hq j y g hy
    ·obtain rfl:j=k:=by omega
     rw[hc]at hy;cases hy;exact hs
   ·have hs:sign c=false:=by simpa using hs
    rw[iF hpi (by rw[JU b1 b2 b3];exact iF hc hs)]
    simp only[KP,Ax.loadAt,↓reduceIte,reduceEqDiff,reduceLT,h.cM,gF h,g3,g4,g5,hlt2,e1,e2,kf,hs]
    exact rfl
  ·rintro F U ⟨rfl,g3,g4,g5,hq⟩
   have hlt2:=eG (bg p.length)
   rw[aF]
   simp only[KP,Ax.loadAt,↓reduceIte,reduceEqDiff,reduceLT,h.cM,gF h,g3,g4,g5,hlt2,e1,hadd]
   refine next _ _ ⟨rfl,(lT (by simp +decide only[GS,g3,aj]) (λj y hj hy=>?_))⟩
   rcases cj j i with g | g
   ·exact hp j y g hy
   ·obtain rfl:j=i:=by omega
    rw[hpi]at hy;cases hy
    rw[JU b1 b2 b3]
    exact AX λj y _ hy=>hq j y (AS.1 hy).1 hy
 ·rintro F U ⟨rfl,g3,g4,hp⟩
  have hlt:=eG (bg P.length)
  rw[aF]
  rw[AX λj y _ hy=>hp j y (AS.1 hy).1 hy]
  simp only[KP,↓reduceIte,reduceEqDiff,reduceLT,g3,g4,la,hlt]
  exact rfl
theorem Qc (h:bJ E) {s:bD}:KC E 173 [.str s] Z (.bool (bL s)) Z:=cH λ_=>QS h
end
end
section
section
variable {E:Env}{Z:Sg}{K:V->Sg->Prop}
theorem p_ {f:V->V->Bool}:∀{l:List V},(∀x∈l,f x x=true)->nD f l l=true
 | [],_=>rfl
 |x::l,h=>by
  show (f x x&&nD f l l)=true
  rw[h x (IN ..),p_ λy hy=>h y (No _ hy)];rfl
theorem DT {f:List V->List V->Bool}:∀{l:List (List V)},(∀x∈l,f x x=true)->nD f l l=true
 | [],_=>rfl
 |x::l,h=>by
  show (f x x&&nD f l l)=true
  rw[h x (IN ..),DT λy hy=>h y (No _ hy)];rfl
theorem Jt {α:Type}{L:Lay α} (n:Nat)(hL:∀r x,L.P r x->∀c∈r,oO n c c=true) {v:V}{l:List α}(h:IS L v l):oO (n+1) v v=true:=by
 rcases h with⟨rfl,-⟩ | ⟨g,rs,full,rfl,ha⟩
 ·rfl
 ·show (g==g&&nD (nD (oO n)) rs rs&&full==full)=true
  rw[DT λr hr=>?_]
  ·simp
  ·obtain⟨x,-,hp⟩:=ha.mem hr
   exact p_ (hL r x hp)
theorem wU (n:Nat) (s:bD):oO (n+1) (.str s) (.str s)=true:=gC rfl
theorem KN (n:Nat) (k:IntKind) (i:Int):oO (n+1) (.int k i) (.int k i)=true:=by
 show (decide (k=k)&&decide (i=i))=true
 simp
theorem bV {v:V}{l:List bD} (n:Nat)(h:IS aM v l):oO (n+2) v v=true:=Jt (n+1) (λr x hr c hc=>by
 rw[show r=[.str x] from hr]at hc
 cases hc with
 |head=>exact wU n x
 |tail _ h=>cases h) h
theorem lN {v:V}{l:List AxS.Step} (n:Nat)(h:IS eK v l):oO (n+3) v v=true:=Jt (n+2) (λr x hr c hc=>by
 obtain⟨a,b,rfl,h1,h2⟩:=hr
 simp only[By,br,dz]at hc
 rcases hc with rfl | rfl | rfl | rfl | rfl
 ·exact wU (n+1) _
 ·exact KN (n+1) _ _
 ·exact bV n h1
 ·exact bV n h2
 ·exact KN (n+1) _ _) h
theorem Ab (h:bJ E) {U:Sg}{w v:V}{l m:List bD} (ow:bH aM 9 U w l) (iv:IS aM v m)(hb:l.length+m.length<=1000000000):∃w' τ',Ax.append E U #[24,24] w v=some (w',τ')/\bH aM 9 τ' w' (l++m)/\Sp U τ' w/\U.length<=τ'.length/\∀b,aZ w'=some b->aZ w=some b\/U.length<=b:=by
 obtain⟨rs,e,ha⟩:=mI iv U
 exact iB h.aY rfl h.cM rfl (by decide) (iD h) rfl ow e ha (cZ (b:=1000000000) (by decide) hb)
theorem GP (h:bJ E) {U:Sg}{w:V}{l:List bD}{s:bD}{ex:Bool} (ow:bH aM 9 U w l)(hb:l.length<=1000000000):∃w' τ',Ax.append E (U++[.cells 9 [.str s] ex]) #[24,24] w (.sl U.length 0 1 none)=some (w',τ')/\bH aM 9 τ' w' (l++[s])/\Sp (U++[.cells 9 [.str s] ex]) τ' w/\U.length<=τ'.length:=by
 obtain⟨w',τ',h1,h2,h3,h4,-⟩:=iB (m:=[s]) (new:=[[.str s]]) h.aY rfl h.cM rfl (by decide) (iD h) rfl (ow.app [.cells 9 [.str s] ex]) (kO rfl) (.one rfl) (cZ (b:=1000000001) (by decide) (by simp only[aa,bf];omega))
 exact⟨w',τ',h1,h2,h3,by simp only[an,aa,bf]at h4;omega⟩
theorem S3 (h:bJ E) {x:aD}{a b c d:V} (ia:IS aM a x.ins) (ib:IS aM b x.outs) (ic:IS aM c x.after)(hsm:x.ins.length<=100000000/\x.outs.length<=100000000/\x.after.length<=100000000) (F:FT) (g1:F.get 1=.ref 0 0) (g2:F.get 2=.bool false) :
  ∃F' U w,bG E (ev E 0) (opsOf (cutAt [1,0] (aA Tryz.f137).code)) ⟨64,F⟩ [.cells 46 [.str x.name,a,b,c,d] true]=some (⟨64,F'⟩,U)/\F'.get 1=.ref 0 0/\F'.get 3=w/\U[0]?=some (.cells 46 [.str x.name,a,b,c,d] true)/\bH aM 9 U w (x.name::(x.ins++(x.outs++x.after)))/\aZ w≠some 0:=by
 have o0:bH aM 9 [.cells 46 [.str x.name,a,b,c,d] true,.cells 9 [.str x.name] true] (.sl 1 0 1 none) [x.name]:=.inr ⟨1,[[.str x.name]],true,rfl,rfl,.one rfl⟩
 obtain⟨w1,τ1,ha1,o1,k1,n1,-⟩:=Ab h o0 ia (by simp only[aa,bf];omega)
 obtain⟨w2,τ2,ha2,o2,k2,n2,-⟩:=Ab h o1 ib (by simp only[an,aa,bf];omega)
 obtain⟨w3,τ3,ha3,o3,k3,n3,-⟩:=Ab h o2 ic (by simp only[an,aa,bf];omega)
 have b1:τ1[0]?=some (.cells 46 [.str x.name,a,b,c,d] true):=k1 0 _ rfl (by show some 1≠some 0;simp)
 have nb:∀{U:Sg}{w:V}{l:List bD},U[0]?=some (.cells 46 [.str x.name,a,b,c,d] true)->bH aM 9 U w l->aZ w≠some 0:=by
  rintro U w l hb (⟨rfl,-⟩ | ⟨b,rs,ex,rfl,hc,-⟩) e
  ·cases e
  ·cases e;rw[hb]at hc;cases hc
 have b2:τ2[0]?=some (.cells 46 [.str x.name,a,b,c,d] true):=k2 0 _ b1 (nb b1 o1)
 have b3:τ3[0]?=some (.cells 46 [.str x.name,a,b,c,d] true):=k3 0 _ b2 (nb b2 o2)
 have va:=bV 10 ia
 have vb:=bV 10 ib
 have vc:=bV 10 ic
 unfold bG
 rw[h.Uw,h.Vo]
 simp only[aA,Tryz.f137,KP,Ax.loadAt,↓reduceIte,reduceEqDiff,reduceLT,reduceLeDiff,reduceAdd,reduceMul,reduceCtorEq,h.cM,h.aY,h.bC,opsOf,cutAt,Fz.lits,Fz.apps,eJ,bB,bQ,iX,Ax.comp,Ax.last,dM,Ax.again,g1,lB,ha1,ha2,ha3,b1,b2,va,vb,vc]
 refine⟨_,_,w3,rfl,(lT (by simp +decide only[GS,g1,aj]) ⟨b3,?_,nb b3 o3⟩)⟩
 have e:[x.name]++x.ins++x.outs++x.after=x.name::(x.ins++(x.outs++x.after)):=by simp
 rw[<- e]
 exact o3
theorem S2 (h:bJ E) {x:aD}{a b c d:V} (id:IS eK d x.steps) {st:AxS.Step}{i:Nat}(hi:x.steps[i]?=some st) {U:Sg}{w:V}{l:List bD} (b0:U[0]?=some (.cells 46 [.str x.name,a,b,c,d] true)) (ow:bH aM 9 U w l) (nw:aZ w≠some 0)(hsm:l.length<=500000000/\st.args.length<=100000000)
  (F:FT) (g1:F.get 1=.ref 0 0) (g3:F.get 3=w) (g4:F.get 4=.int .i64 (i:Int)) :
  ∃F' τ' w',bG E (ev E 0) (opsOf (cutAt [1,1,0,1,2,2,1,0,2,1] (aA Tryz.f137).code)) ⟨64,F⟩ U=some (⟨64,F'⟩,τ')/\F'.get 1=.ref 0 0/\F'.get 3=w'/\F'.get 4=.int .i64 (i:Int)/\τ'[0]?=some (.cells 46 [.str x.name,a,b,c,d] true)/\bH aM 9 τ' w' (l++st.out::st.args)/\aZ w'≠some 0:=by
 obtain⟨g,p,q,e1,ip,iq⟩:=qM h id hi
 obtain⟨w1,τ1,ha1,o1,k1,n1⟩:=GP (s:=st.out) (ex:=true) h ow (by omega)
 obtain⟨w2,τ2,ha2,o2,k2,n2,-⟩:=Ab h o1 ip (by simp only[an,aa,bf];omega)
 have b0':(U++[O.cells 9 [.str st.out] true])[0]?=some (.cells 46 [.str x.name,a,b,c,d] true):=by rw[bq (AS.1 b0).1];exact b0
 have nb:∀{U:Sg}{w:V}{l:List bD},U[0]?=some (.cells 46 [.str x.name,a,b,c,d] true)->bH aM 9 U w l->aZ w≠some 0:=by
  rintro U w l hb (⟨rfl,-⟩ | ⟨b,rs,ex,rfl,hc,-⟩) e
  ·cases e
  ·cases e;rw[hb]at hc;cases hc
 have b1:τ1[0]?=some (.cells 46 [.str x.name,a,b,c,d] true):=k1 0 _ b0' nw
 have b2:τ2[0]?=some (.cells 46 [.str x.name,a,b,c,d] true):=k2 0 _ b1 (nb b1 o1)
 have va:=bV 10 ip
 have vd:=lN 9 id
 unfold bG
 rw[h.Uv,h.Vn]
 simp only[aA,Tryz.f137,KP,Ax.loadAt,↓reduceIte,reduceEqDiff,reduceLT,reduceLeDiff,reduceAdd,reduceMul,reduceCtorEq,h.cM,h.aY,h.fN,h.bC,h.cN,opsOf,cutAt,Fz.lits,Fz.apps,eJ,bB,bQ,iX,Ax.comp,Ax.last,dM,Ax.again,g1,g3,g4,lB,ha1,ha2,b0,b0',b1,e1,va,vd]
 refine⟨_,_,w2,rfl,(gE (by simp +decide only[GS,g1,g4,aj]) ⟨b2,?_,nb b2 o2⟩)⟩
 have e:l++[st.out]++st.args=l++st.out::st.args:=by simp
 rw[<- e]
 exact o2
theorem S5 (h:bJ E) {x:aD}{a b c d:V} (ia:IS aM a x.ins) (ib:IS aM b x.outs) (ic:IS aM c x.after)(hsm:x.ins.length<=100000000/\x.outs.length<=100000000/\x.after.length<=100000000) (F:FT) (g1:F.get 1=.ref 0 0) (g2:F.get 2=.bool false) {s:List iW}{Q:Ax.X->Fr->Sg->Prop}
  (hk:∀F' U w,F'.get 1=.ref 0 0->F'.get 3=w->U[0]?=some (.cells 46 [.str x.name,a,b,c,d] true)->bH aM 9 U w (x.name::(x.ins++(x.outs++x.after)))->aZ w≠some 0->M E s .normal ⟨64,F'⟩ U Q):R E (.region 1 (opsOf (cutAt [1,0] (aA Tryz.f137).code)) true) s ⟨64,F⟩ [.cells 46 [.str x.name,a,b,c,d] true] Q:=by
 obtain⟨F',U,w,hE,h1,h2,h3,h4,h5⟩:=S3 h ia ib ic hsm F g1 g2 (d:=d)
 exact Eq.mpr (fP hE) (hk F' U w h1 h2 h3 h4 h5)
theorem S4 (h:bJ E) {x:aD}{a b c d:V} (id:IS eK d x.steps) {st:AxS.Step}{i:Nat}(hi:x.steps[i]?=some st) {U:Sg}{w:V}{l:List bD} (b0:U[0]?=some (.cells 46 [.str x.name,a,b,c,d] true)) (ow:bH aM 9 U w l) (nw:aZ w≠some 0)(hsm:l.length<=500000000/\st.args.length<=100000000)
  (F:FT) (g1:F.get 1=.ref 0 0) (g3:F.get 3=w) (g4:F.get 4=.int .i64 (i:Int)) {s:List iW}{Q:Ax.X->Fr->Sg->Prop}
  (hk:∀F' τ' w',F'.get 1=.ref 0 0->F'.get 3=w'->F'.get 4=.int .i64 (i:Int)->τ'[0]?=some (.cells 46 [.str x.name,a,b,c,d] true)->bH aM 9 τ' w' (l++st.out::st.args)->aZ w'≠some 0->M E s .normal ⟨64,F'⟩ τ' Q) :
  R E (.region 7 (opsOf (cutAt [1,1,0,1,2,2,1,0,2,1] (aA Tryz.f137).code)) true) s ⟨64,F⟩ U Q:=by
 obtain⟨F',τ',w',hE,h1,h2,h3,h4,h5,h6⟩:=S2 h id hi b0 ow nw hsm F g1 g3 g4
 exact Eq.mpr (fP hE) (hk F' τ' w' h1 h2 h3 h4 h5 h6)
end
end
section
section
variable {E:Env}{Z:Sg}{K:V->Sg->Prop}
def k_ (x:aD) (l:List AxS.Step):List bD:=x.name::(x.ins++(x.outs++x.after))++l.flatMap λs=>s.out::s.args
theorem S6 (x:aD):kW x=(x.steps.all cJ&&((k_ x x.steps).all bL&&decide (0<x.outs.length))):=by
 unfold kW k_
 rw[dn]
 simp only[ah,dw,IT,bw,By,ik,List.length_pos_iff]
 constructor
 ·rintro⟨⟨⟨⟨⟨h1,h2⟩,h3⟩,h4⟩,h5⟩,h6⟩
  refine⟨λs hs=>(h6 s hs).2,λn hn=>?_,h2⟩
  rcases hn with (rfl | hn | hn | hn) | ⟨s,hs,rfl | hn⟩
  ·exact h1
  ·exact h3 n hn
  ·exact h4 n hn
  ·exact h5 n hn
  ·exact (h6 s hs).1.1
  ·exact (h6 s hs).1.2 n hn
 ·rintro⟨h1,h2,h3⟩
  exact⟨⟨⟨⟨⟨h2 _ (.inl (.inl rfl)),h3⟩,λn hn=>h2 n (.inl (.inr (.inl hn)))⟩,λn hn=>h2 n (.inl (.inr (.inr (.inl hn))))⟩,λn hn=>h2 n (.inl (.inr (.inr (.inr hn))))⟩,
   λs hs=>⟨⟨h2 _ (.inr ⟨s,hs,.inl rfl⟩),λn hn=>h2 n (.inr ⟨s,hs,.inr hn⟩)⟩,h1 s hs⟩⟩
theorem zK {x:aD}(hx:Small x):∀l:List AxS.Step,l.length<=14->(∀s∈l,s.args.length<=8)->(k_ x l).length<=1000:=by
 intro l h1 h2
 have:∀l:List AxS.Step,(∀s∈l,s.args.length<=8)->(l.flatMap λs=>s.out::s.args).length<=9*l.length:=by
  intro l
  induction l with
  |nil=>intro _;simp
  |cons s l ih=>
   intro h
   have:=ih λy hy=>h y (No _ hy)
   have:=h s (IN ..)
   simp only[j7,an,aa]
   omega
 have:=this l h2
 have a1:=hx.ins
 have a2:=hx.outs
 have a3:=hx.after
 unfold k_
 simp only[an,aa]
 omega
theorem Ww (h:bJ E) {v:V}{x:aD}(hv:I9 v x)(hx:Small x):aC E 137 [v] Z K=K (.bool (kW x)) Z:=by
 refine aC.of ?_
 have ev:=hv.snap (E:=E) Z
 obtain⟨a,b,c,d,rfl,ia,ib,ic,id⟩:=hv
 have a1:=hx.ins
 have a2:=hx.outs
 have a3:=hx.after
 have a4:=hx.steps
 rw[aH h.Z7 h.XJ h.aaT h.Zd (args':=[.agg [.str x.name,a,b,c,d]]) (by simp only[aU,ev]),aX (by kernel_rfl)]
 have ha:=aL ia.bF
 have hb:=aL ib.bF
 have hc:=aL ic.bF
 have hd:=aL id.bF
 have lb:=bP h ib
 have ld:=jJ h id
 rw[S6]
 simp only[aA,Tryz.f137,KP,↓reduceIte,reduceLT,reduceAdd,h.bC,ha,hb,hc,hd]
 refine S5 h ia ib ic (by omega) _ ?_ ?_ ?_
 ·exact (by simp +decide only[GS])
 ·exact (by simp +decide only[GS])
 intro F1 τ1 w1 g1 g3 b1 o1 n1
 simp only[KP,↓reduceIte,reduceLT]
 refine aV (λi F U=>U[0]?=some (.cells 46 [.str x.name,a,b,c,d] true)/\F.get 1=.ref 0 0/\F.get 4=.int .i64 (i:Int)/\(∃w,F.get 3=w/\bH aM 9 U w (k_ x (x.steps.take i))/\aZ w≠some 0)/\∀j y,j<i->x.steps[j]?=some y->cJ y=true) x.steps.length ?_ ?_ x.steps.length 0 _ _ (by omega) ⟨b1,(lT (by simp +decide only[GS,g1,aj]) ⟨⟨w1,(by simp +decide only[GS,g3]),by simpa [k_]using o1,n1⟩,λj y hj=>by omega⟩)⟩
 ·rintro i F U hi ⟨b0,g1,g4,⟨w,g3,ow,nw⟩,hp⟩ next
  obtain⟨st,hst⟩:∃y,x.steps[i]?=some y:=⟨_,BY hi⟩
  have hmem:=af hst
  obtain⟨g,p,q,e1,ip,iq⟩:=qM h id hst
  have hlt:=eC hi
  have hadd:=bY i (by omega)
  have hlits:=hx.lits st hmem
  have hargs:=hx.args st hmem
  have kf:=λ(U:Sg)=>Nn (Z:=U) h (v:=.agg [.str st.out,.int .i64 st.op,p,q,.int .i64 st.n]) (x:=st) ⟨p,q,rfl,ip,iq⟩ (by omega)
  rw[aF]
  by_cases hm:cJ st=true
  ·simp only[KP,Ax.loadAt,↓reduceIte,reduceEqDiff,reduceLT,reduceAdd,reduceCtorEq,h.fN,h.bC,h.cN,g1,g4,b0,ld,hlt,e1,kf,hm]
   have hln:=zK hx (x.steps.take i) (by rw[bl];omega) (λs hs=>hx.args s (ji hs))
   refine S4 h id hst b0 ow nw (by omega) _ ?_ ?_ ?_ ?_
   ·exact (by simp +decide only[GS,g1])
   ·exact (by simp +decide only[GS,g3])
   ·exact (by simp +decide only[GS,g4])
   intro F2 τ2 w2 k1 k3 k4 b2 o2 n2
   simp only[KP,↓reduceIte,reduceLT,k4,hadd]
   refine next _ _ ⟨b2,(lT (by simp +decide only[GS,k1,aj]) ⟨⟨w2,(by simp +decide only[GS,k3]),?_,n2⟩,λj y hj hy=>?_⟩)⟩
   ·have e:k_ x (x.steps.take (i+1))=k_ x (x.steps.take i)++st.out::st.args:=by
     rw[dh,hst];simp[k_]
    rw[e];exact o2
   ·rcases cj j i with g | g
    ·exact hp j y g hy
    ·obtain rfl:j=i:=by omega
     rw[hst]at hy;cases hy;exact hm
  ·have hm:cJ st=false:=by simpa using hm
   rw[iF hst hm,mj]
   simp only[KP,Ax.loadAt,↓reduceIte,reduceEqDiff,reduceLT,reduceAdd,reduceCtorEq,h.fN,h.bC,h.cN,g1,g4,b0,ld,hlt,e1,kf,hm]
   exact rfl
 ·rintro F U ⟨b0,g1,g4,⟨w,g3,ow,nw⟩,hp⟩
  have hlt:=eG (bg x.steps.length)
  rw[aF]
  rw[AX λj y _ hy=>hp j y (AS.1 hy).1 hy,iz]
  rw[ak (ae _)]at ow
  have hln:=zK hx x.steps (by omega) hx.args
  generalize k_ x x.steps=L at *
  have lw:∀σ',(σ'=U)->lenOf E σ' 24 w=some L.length:=λσ' e=>by subst e;exact pM h.aY rfl ow.ls
  have lw:=lw U rfl
  simp only[KP,Ax.loadAt,↓reduceIte,reduceEqDiff,reduceLT,reduceCtorEq,h.fN,h.bC,g1,g4,b0,ld,hlt]
  refine aV (λi F σ1=>σ1=U/\F.get 1=.ref 0 0/\F.get 3=w/\F.get 5=.int .i64 (i:Int)/\∀j y,j<i->L[j]?=some y->bL y=true) L.length ?_ ?_ L.length 0 _ _ (by omega) ⟨rfl,(gE (by simp +decide only[GS,g1,g3,aj]) (λj y hj=>by omega))⟩
  ·rintro i F σ1 hi ⟨rfl,g1,g3,g5,hq⟩ next
   obtain⟨y,hy⟩:∃y,L[i]?=some y:=⟨_,BY hi⟩
   have hlt:=eC hi
   have hadd:=bY i (by omega)
   obtain⟨p,r,e1,hr,-,e2,-⟩:=Fv (Z:=σ1) h.aY rfl h.cM rfl ow.ls hy
   have e2:=e2 rfl (by decide)
   rw[show r=[.str y] from hr]at e2
   have kf:=λ(U:Sg)=>Qc (Z:=U) h (s:=y)
   rw[aF]
   by_cases hm:bL y=true
   ·simp only[KP,↓reduceIte,reduceEqDiff,reduceLT,g3,g5,lw,hlt,e1,e2,kf,hm,hadd]
    refine next _ _ ⟨rfl,(gE (by simp +decide only[GS,g1,g3,aj]) (λj z hj hz=>?_))⟩
    rcases cj j i with g | g
    ·exact hq j z g hz
    ·obtain rfl:j=i:=by omega
     rw[hy]at hz;cases hz;exact hm
   ·have hm:bL y=false:=by simpa using hm
    rw[iF hy hm,mj]
    simp only[KP,↓reduceIte,reduceEqDiff,reduceLT,g3,g5,lw,hlt,e1,e2,kf,hm]
    exact rfl
  ·rintro F σ1 ⟨rfl,g1,g3,g5,hq⟩
   have hlt:=eG (bg L.length)
   rw[aF]
   rw[AX λj y _ hy=>hq j y (AS.1 hy).1 hy,iz]
   have q:decide ((0:Int)<(x.outs.length:Int))=decide (0<x.outs.length):=by
    by_cases g:0<x.outs.length
    ·rw[AT g,AT (by omega)]
    ·rw[AI g,AI (by omega)]
   simp only[KP,Ax.loadAt,↓reduceIte,reduceEqDiff,reduceLT,reduceCtorEq,h.aY,h.bC,g1,g3,g5,lw,hlt,b0,lb,q]
   exact rfl
theorem VO (h:bJ E) {v:V}{x:aD}(hv:I9 v x)(hx:Small x):KC E 137 [v] Z (.bool (kW x)) Z:=cH λ_=>Ww h hv hx
end
end
end Go.Proofs.YtmbikbgdbbcbmaaGreatDoor
end
