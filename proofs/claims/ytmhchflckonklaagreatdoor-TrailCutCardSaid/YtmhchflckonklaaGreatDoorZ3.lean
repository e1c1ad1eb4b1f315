/- Part 3 of the proof. -/
import Derived.Test.YtmhchflckonklaaGreatDoorY
import Derived.Test.YtmhchflckonklaaGreatDoorZ2
import Derived.Test.YtmhchflckonklaaGreatDoorProg
import Derived.KernelRfl
set_option maxHeartbeats 8000000
set_option linter.unusedVariables false
section
namespace Go.Proofs.YtmhchflckonklaaGreatDoor
open Go Go.Ax
noncomputable def Mv:BT Ty:=BT.K6 (Pq Tryz.prog) 9 0
theorem FQ:Mv.yR (vA Tryz.prog):=by unfold Mv; exact BT.Bb (g:=Pq Tryz.prog) (p:=vA Tryz.prog) (fun _ _ h=>Pp h) 9 0
theorem noGo:(Tryz.prog.funcs.all fun fn=>!(fn.name == "runtime.NumGoroutine")) = true:=by kernel_rfl
noncomputable def Kq:BT Ax.Fn:=BT.K6 (QF Tryz.prog) 9 0
theorem Hg:Kq.yR (Jl Tryz.prog):=by unfold Kq; exact BT.Bb (g:=QF Tryz.prog) (p:=Jl Tryz.prog) (fun _ _ h=>QE noGo h) 9 0
def ty5:Ty:={ kd:=.int .u8,size:=1,bytes:=1,zero:=.int .u8 0 }
def dG:Ty:={ kd:=.str,size:=1,bytes:=16,zero:=.str [] }
def cP:Ty:={ kd:=.jC [(0,4),(1,9)],size:=2,bytes:=24,zero:=.agg [.bool false,.str []] }
def sP:Ty:={ kd:=.map 9 4,size:=1,bytes:=8,zero:=.bU }
theorem Zb:iV Tryz.prog 7 [.int .i64,.int .i64,.bool,.int .u8]:=iV.of Tryz.underlying7 (by kernel_rfl) (by kernel_rfl) (.cons 0 _ _ _ _ _ (by decide) rfl Tryz.underlying2 rfl (.cons 1 _ _ _ _ _ (by decide) rfl Tryz.underlying3 rfl (.cons 2 _ _ _ _ _ (by decide) rfl Tryz.underlying4 rfl (.cons 3 _ _ _ _ _ (by decide) rfl Tryz.underlying6 rfl (.nil 4)))))
theorem Za:iV Tryz.prog 8 [.int .i64,.int .i64,.bool,.int .u8]:=iV.of Tryz.underlying8 (by kernel_rfl) (by kernel_rfl) (.cons 0 _ _ _ _ _ (by decide) rfl Tryz.underlying2 rfl (.cons 1 _ _ _ _ _ (by decide) rfl Tryz.underlying3 rfl (.cons 2 _ _ _ _ _ (by decide) rfl Tryz.underlying4 rfl (.cons 3 _ _ _ _ _ (by decide) rfl Tryz.underlying6 rfl (.nil 4)))))
theorem T0:iV Tryz.prog 50 [.bool,.str]:=iV.of Tryz.underlying50 (by kernel_rfl) (by kernel_rfl) (.cons 0 _ _ _ _ _ (by decide) rfl Tryz.underlying4 rfl (.cons 1 _ _ _ _ _ (by decide) rfl Tryz.underlying9 rfl (.nil 2)))
theorem TZ:iV Tryz.prog 51 [.bool,.str]:=iV.of Tryz.underlying51 (by kernel_rfl) (by kernel_rfl) (.cons 0 _ _ _ _ _ (by decide) rfl Tryz.underlying4 rfl (.cons 1 _ _ _ _ _ (by decide) rfl Tryz.underlying9 rfl (.nil 2)))
theorem QV:iV Tryz.prog 154 [.bool,.str]:=iV.of Tryz.underlying154 (by kernel_rfl) (by kernel_rfl) (.cons 0 _ _ _ _ _ (by decide) rfl Tryz.underlying4 rfl (.cons 1 _ _ _ _ _ (by decide) rfl Tryz.underlying9 rfl (.nil 2)))
theorem QU:iV Tryz.prog 155 [.bool,.str]:=iV.of Tryz.underlying155 (by kernel_rfl) (by kernel_rfl) (.cons 0 _ _ _ _ _ (by decide) rfl Tryz.underlying4 rfl (.cons 1 _ _ _ _ _ (by decide) rfl Tryz.underlying9 rfl (.nil 2)))
theorem QT:iV Tryz.prog 159 [.str,.str]:=iV.of Tryz.underlying159 (by kernel_rfl) (by kernel_rfl) (.cons 0 _ _ _ _ _ (by decide) rfl Tryz.underlying9 rfl (.cons 1 _ _ _ _ _ (by decide) rfl Tryz.underlying9 rfl (.nil 2)))
theorem QS:iV Tryz.prog 160 [.str,.str]:=iV.of Tryz.underlying160 (by kernel_rfl) (by kernel_rfl) (.cons 0 _ _ _ _ _ (by decide) rfl Tryz.underlying9 rfl (.cons 1 _ _ _ _ _ (by decide) rfl Tryz.underlying9 rfl (.nil 2)))
theorem QO:iV Tryz.prog 216 [.int .i64,.int .i64]:=iV.of Tryz.underlying216 (by kernel_rfl) (by kernel_rfl) (.cons 0 _ _ _ _ _ (by decide) rfl Tryz.underlying87 rfl (.cons 1 _ _ _ _ _ (by decide) rfl Tryz.underlying3 rfl (.nil 2)))
theorem QN:iV Tryz.prog 217 [.int .i64,.int .i64]:=iV.of Tryz.underlying217 (by kernel_rfl) (by kernel_rfl) (.cons 0 _ _ _ _ _ (by decide) rfl Tryz.underlying87 rfl (.cons 1 _ _ _ _ _ (by decide) rfl Tryz.underlying3 rfl (.nil 2)))
theorem QM:iV Tryz.prog 222 [.int .i64,.int .i64,.str]:=iV.of Tryz.underlying222 (by kernel_rfl) (by kernel_rfl) (.cons 0 _ _ _ _ _ (by decide) rfl Tryz.underlying3 rfl (.cons 1 _ _ _ _ _ (by decide) rfl Tryz.underlying3 rfl (.cons 2 _ _ _ _ _ (by decide) rfl Tryz.underlying9 rfl (.nil 3))))
theorem QL:iV Tryz.prog 223 [.int .i64,.int .i64,.str]:=iV.of Tryz.underlying223 (by kernel_rfl) (by kernel_rfl) (.cons 0 _ _ _ _ _ (by decide) rfl Tryz.underlying3 rfl (.cons 1 _ _ _ _ _ (by decide) rfl Tryz.underlying3 rfl (.cons 2 _ _ _ _ _ (by decide) rfl Tryz.underlying9 rfl (.nil 3))))
theorem QK:iV Tryz.prog 310 [.int .u8,.int .u8]:=iV.of Tryz.underlying310 (by kernel_rfl) (by kernel_rfl) (.cons 0 _ _ _ _ _ (by decide) rfl Tryz.underlying5 rfl (.cons 1 _ _ _ _ _ (by decide) rfl Tryz.underlying5 rfl (.nil 2)))
theorem QJ:iV Tryz.prog 311 [.int .u8,.int .u8]:=iV.of Tryz.underlying311 (by kernel_rfl) (by kernel_rfl) (.cons 0 _ _ _ _ _ (by decide) rfl Tryz.underlying5 rfl (.cons 1 _ _ _ _ _ (by decide) rfl Tryz.underlying5 rfl (.nil 2)))
theorem QI:iV Tryz.prog 336 [.str]:=iV.of Tryz.underlying336 (by kernel_rfl) (by kernel_rfl) (.cons 0 _ _ _ _ _ (by decide) rfl Tryz.underlying9 rfl (.nil 1))
theorem QH:iV Tryz.prog 337 [.str]:=iV.of Tryz.underlying337 (by kernel_rfl) (by kernel_rfl) (.cons 0 _ _ _ _ _ (by decide) rfl Tryz.underlying9 rfl (.nil 1))
def R6:BT (List Kd):=(.node 216 (.node 154 (.node 50 (.node 8 (.leaf 7 [.int .i64,.int .i64,.bool,.int .u8]) (.leaf 8 [.int .i64,.int .i64,.bool,.int .u8])) (.node 51 (.leaf 50 [.bool,.str]) (.leaf 51 [.bool,.str]))) (.node 159 (.node 155 (.leaf 154 [.bool,.str]) (.leaf 155 [.bool,.str])) (.node 160 (.leaf 159 [.str,.str]) (.leaf 160 [.str,.str])))) (.node 310 (.node 222 (.node 217 (.leaf 216 [.int .i64,.int .i64]) (.leaf 217 [.int .i64,.int .i64])) (.node 223 (.leaf 222 [.int .i64,.int .i64,.str]) (.leaf 223 [.int .i64,.int .i64,.str]))) (.node 336 (.node 311 (.leaf 310 [.int .u8,.int .u8]) (.leaf 311 [.int .u8,.int .u8])) (.node 337 (.leaf 336 [.str]) (.leaf 337 [.str])))))
theorem Hr:R6.yR (iV Tryz.prog):=⟨⟨⟨⟨Zb,Za⟩,⟨T0,TZ⟩⟩,⟨⟨QV,QU⟩,⟨QT,QS⟩⟩⟩,⟨⟨⟨QO,QN⟩,⟨QM,QL⟩⟩,⟨⟨QK,QJ⟩,⟨QI,QH⟩⟩⟩⟩
end Go.Proofs.YtmhchflckonklaaGreatDoor
end
section
namespace Go.AxS
open Go Go.Ax
theorem BN:∀ s,slt s s = false
 | []=>rfl
 | a :: s=>by rw [wX]; simp [BN s]
theorem DB:∀ s t u,slt s t = true -> slt t u = true -> slt s u = true
 | _,[],_,h,_=>by cases ‹List Nat› <;> simp [slt] at h
 | _,_ :: _,[],_,h=>by simp [slt] at h
 | [],b :: t,c :: u,_,_=>rfl
 | a :: s,b :: t,c :: u,h1,h2=>by
  rw [wX] at h1 h2 ⊢
  simp only [bz,Z3,IT] at h1 h2 ⊢
  rcases h1 with h1 | ⟨rfl,h1⟩
  ·rcases h2 with h2 | ⟨rfl,h2⟩
   ·exact .inl (by omega)
   ·exact .inl h1
  ·rcases h2 with h2 | ⟨rfl,h2⟩
   ·exact .inl h2
   ·exact .inr ⟨rfl,DB s t u h1 h2⟩
theorem DC:∀ s t,slt s t = false -> slt t s = false -> s = t
 | [],[],_,_=>rfl
 | [],_ :: _,h,_=>by simp [slt] at h
 | _ :: _,[],_,h=>by simp [slt] at h
 | a :: s,b :: t,h1,h2=>by
  rw [wX] at h1 h2
  simp only [Bool.or_eq_false_iff,Bool.and_eq_false_iff,decide_eq_false_iff_not] at h1 h2
  have e:a = b:=by omega
  subst e
  rw [DC s t (h1.2.resolve_left (fun h=>h rfl)) (h2.2.resolve_left (fun h=>h rfl))]
theorem kS:∀ s t:List Nat,Ax.seq s t = true ↔ s = t
 | [],[]=>by simp [Ax.seq]
 | [],_ :: _=>by simp [Ax.seq]
 | _ :: _,[]=>by simp [Ax.seq]
 | a :: s,b :: t=>by rw [BP]; simp [kS s t]
theorem xC (s t:List Nat):Ax.seq s t = decide (s = t):=by
 rw [b8,kS]; simp
abbrev aI:=Bool × List Nat
def row (x:aI):List V:=[.bool x.1,.str x.2]
def lt (x y:aI):Bool:=match x.1,y.1 with
 | false,true=>true
 | true,false=>false
 | _,_=>slt x.2 y.2
theorem Tv (x y:aI):qR (row x) (row y) = lt x y:=by
 obtain ⟨a,s⟩:=x; obtain ⟨b,t⟩:=y
 cases a <;> cases b <;> rfl
theorem lt_irrefl (x:aI):lt x x = false:=by
 obtain ⟨a,s⟩:=x
 cases a <;> exact BN s
theorem lt_trans (x y z:aI) (h1:lt x y = true) (h2:lt y z = true):lt x z = true:=by
 obtain ⟨a,s⟩:=x; obtain ⟨b,t⟩:=y; obtain ⟨c,u⟩:=z
 cases a <;> cases b <;> cases c <;> simp only [lt] at h1 h2 ⊢ <;> first | exact DB _ _ _ h1 h2 | rfl | exact absurd h1 Bool.false_ne_true | exact absurd h2 Bool.false_ne_true
theorem GM (x y:aI) (h1:lt x y = false) (h2:lt y x = false):x = y:=by
 obtain ⟨a,s⟩:=x; obtain ⟨b,t⟩:=y
 cases a <;> cases b <;> simp only [lt] at h1 h2 <;> first | rw [DC _ _ h1 h2] | exact absurd h1.symm Bool.false_ne_true | exact absurd h2.symm Bool.false_ne_true
theorem lt_asymm {x y:aI} (h:lt x y = true):lt y x = false:=by
 cases hy:lt y x with
 | false=>rfl
 | true=>have:=lt_trans _ _ _ h hy; rw [lt_irrefl] at this; cases this
def Up (l:List aI):Prop:=l.Pairwise fun x y=>lt x y = true
theorem EI:∀ {l m:List aI},Up l -> Up m -> (∀ x,x ∈ l ↔ x ∈ m) -> l = m
 | [],[],_,_,_=>rfl
 | [],y :: m,_,_,h=>by have:=(h y).2 (IN ..); cases this
 | x :: l,[],_,_,h=>by have:=(h x).1 (IN ..); cases this
 | x :: l,y :: m,h1,h2,h=>by
  rw [Up,ig] at h1 h2
  have e:x = y:=by
   rcases By.1 ((h x).1 (IN ..)) with e | hx
   ·exact e
   rcases By.1 ((h y).2 (IN ..)) with e | hy
   ·exact e.symm
   have:=lt_asymm (h1.1 y hy)
   rw [h2.1 x hx] at this; cases this
  subst e
  rw [EI h1.2 h2.2 fun z=>⟨fun hz=>?_,fun hz=>?_⟩]
  ·rcases By.1 ((h z).1 (OF _ hz)) with rfl | hz'
   ·have:=h1.1 z hz; rw [lt_irrefl] at this; cases this
   ·exact hz'
  ·rcases By.1 ((h z).2 (OF _ hz)) with rfl | hz'
   ·have:=h2.1 z hz; rw [lt_irrefl] at this; cases this
   ·exact hz'
theorem Up.nodup {l:List aI} (h:Up l):l.Nodup:=h.imp fun hxy e=>by
 subst e; rw [lt_irrefl] at hxy; cases hxy
def put:List aI -> aI -> List aI
 | [],x=>[x]
 | y :: r,x=>if lt y x = true then y :: put r x else if y = x then y :: r else x :: y :: r
theorem xT {x z:aI}:∀ {l:List aI},z ∈ put l x ↔ z ∈ l \/ z = x
 | []=>by simp [put]
 | y :: r=>by
  simp only [put]
  split
  ·rw [By,xT,By,or_assoc]
  ·split
   ·rename_i e; subst e
    simp only [By]
    constructor
    ·intro h; exact .inl h
    ·rintro (h | rfl)
     ·exact h
     ·exact .inl rfl
   ·simp only [By]
    constructor
    ·rintro (rfl | h)
     ·exact .inr rfl
     ·exact .inl h
    ·rintro (h | rfl)
     ·exact .inr h
     ·exact .inl rfl
theorem Iw {x:aI}:∀ {l:List aI},Up l -> Up (put l x)
 | [],_=>by simp [put,Up]
 | y :: r,h=>by
  have h0:=h
  rw [Up,ig] at h
  simp only [put]
  split
  ·rename_i hyx
   refine ig.2 ⟨fun z hz=>?_,Iw h.2⟩
   rcases xT.1 hz with hz | rfl
   ·exact h.1 z hz
   ·exact hyx
  ·rename_i hyx
   split
   ·exact h0
   ·rename_i hne
    have hxy:lt x y = true:=by
     cases hc:lt x y with
     | true=>rfl
     | false=>exact absurd (GM _ _ (by simpa using hyx) hc) hne
    refine ig.2 ⟨fun z hz=>?_,h0⟩
    rcases By.1 hz with rfl | hz
    ·exact hxy
    ·exact lt_trans _ _ _ hxy (h.1 z hz)
def setOf (l:List aI):List aI:=l.foldl put []
theorem xZ:∀ (l acc:List aI),Up acc -> Up (l.foldl put acc)
 | [],_,h=>h
 | _ :: l,_,h=>xZ l _ (Iw h)
theorem vH {z:aI}:∀ (l acc:List aI),z ∈ l.foldl put acc ↔ z ∈ acc \/ z ∈ l
 | [],acc=>by simp
 | x :: l,acc=>by
  rw [j9,vH l,xT,By,or_assoc]
theorem m_ (l:List aI):Up (setOf l):=xZ l [] List.Pairwise.nil
theorem iH {l:List aI} {z:aI}:z ∈ setOf l ↔ z ∈ l:=by
 rw [setOf,vH]; simp
theorem Gf {l m:List aI} (h:∀ x,x ∈ l ↔ x ∈ m):setOf l = setOf m:=EI (m_ l) (m_ m) fun x=>by rw [iH,iH,h]
theorem G2 (x:aI):∀ {l:List aI},Up l -> x ∉ l -> Cm qR (row x) (l.map row) = (put l x).map row
 | [],_,_=>rfl
 | y :: r,h,hx=>by
  rw [Up,ig] at h
  rw [By,lg] at hx
  simp only [ZQ,Cm,put,Tv]
  cases hxy:lt x y with
  | true=>
   rw [ZO rfl,ZM (by rw [lt_asymm hxy]; simp),ZM (fun e=>hx.1 e.symm)]
   rfl
  | false=>
   have hyx:lt y x = true:=by
    cases hc:lt y x with
    | true=>rfl
    | false=>exact absurd (GM _ _ hxy hc) hx.1
   rw [ZM (by simp),ZO hyx,G2 x h.2 hx.2]
   rfl
theorem Ed:∀ (l acc:List aI),Up acc -> l.Nodup -> (∀ x ∈ l,x ∉ acc) -> (l.map row).foldl (fun acc x=>Cm qR x acc) (acc.map row) = (l.foldl put acc).map row
 | [],_,_,_,_=>rfl
 | x :: l,acc,h,hn,hd=>by
  rw [ay] at hn
  rw [ZQ,j9,j9,G2 x h (hd x (IN ..))]
  refine Ed l _ (Iw h) hn.2 fun z hz hm=>?_
  rcases xT.1 hm with hm | rfl
  ·exact hd z (OF _ hz) hm
  ·exact hn.1 hz
theorem Dx {l:List aI} (hn:l.Nodup):kL qR (l.map row) = (setOf l).map row:=Ed l [] List.Pairwise.nil hn fun _ _ h=>by cases h
theorem wZ {l:List aI} (hn:l.Nodup):(setOf l).length = l.length:=by
 suffices ∀ (l acc:List aI),l.Nodup -> (∀ x ∈ l,x ∉ acc) -> (l.foldl put acc).length = acc.length + l.length by
  have:=this l [] hn (fun _ _ h=>by cases h)
  simpa [setOf] using this
 intro l
 induction l with
 | nil=>intro acc _ _; simp
 | cons x l ih=>
  intro acc hn hd
  rw [ay] at hn
  have hp:∀ {m:List aI},x ∉ m -> (put m x).length = m.length + 1:=by
   intro m
   induction m with
   | nil=>intro _; rfl
   | cons y r ihr=>
    intro hx
    rw [By,lg] at hx
    simp only [put]
    split
    ·simp [ihr hx.2]
    ·rw [ZM (fun e=>hx.1 e.symm)]; simp
  rw [j9,ih _ hn.2,hp (hd x (IN ..)),Z0]
  ·omega
  ·intro z hz hm
   rcases xT.1 hm with hm | rfl
   ·exact hd z (OF _ hz) hm
   ·exact hn.1 hz
def jS (l:List aI) (x:aI):List aI:=if x ∈ l then l else l ++ [x]
def keys (l:List aI) (xs:List aI):List aI:=xs.foldl jS l
theorem DZ {l:List aI} {x z:aI}:z ∈ jS l x ↔ z ∈ l \/ z = x:=by
 unfold jS
 split
 ·rename_i h
  constructor
  ·exact .inl
  ·rintro (h' | rfl)
   ·exact h'
   ·exact h
 ·simp
theorem GV {l:List aI} {x:aI} (h:l.Nodup):(jS l x).Nodup:=by
 unfold jS
 split
 ·exact h
 ·rename_i hx
  rw [gu]
  refine ⟨h,by simp,?_⟩
  intro a ha b hb e
  rw [ae] at hb
  subst hb; subst e
  exact hx ha
theorem mem_keys {z:aI}:∀ {xs l:List aI},z ∈ keys l xs ↔ z ∈ l \/ z ∈ xs
 | [],l=>by simp [keys]
 | x :: xs,l=>by
  show z ∈ keys (jS l x) xs ↔ _
  rw [mem_keys,DZ,By,or_assoc]
theorem nC:∀ {xs l:List aI},(keys l xs).length <= l.length + xs.length
 | [],l=>by simp [keys]
 | x :: xs,l=>by
  show (keys (jS l x) xs).length <= _
  have:=nC (xs:=xs) (l:=jS l x)
  have h2:(jS l x).length <= l.length + 1:=by unfold jS; split <;> simp
  simp only [Z0]
  omega
end Go.AxS
end
section
namespace Go.AxS
open Go
abbrev bC:=List Nat
structure Step where
 out:bC
 op:Int
 args:List bC
 lits:List bC
 n:Int
structure aC where
 name:bC
 ins:List bC
 outs:List bC
 after:List bC
 steps:List Step
def sign (c:Nat):Bool:=(decide (97 <= c) && decide (c <= 122)) || ((decide (65 <= c) && decide (c <= 90)) || ((decide (48 <= c) && decide (c <= 57)) || (decide (c = 46) || (decide (c = 95) || decide (c = 45)))))
def rK (p:bC):Bool:=!(decide (p = []) || decide (p = [46]) || decide (p = [46,46])) && p.all sign
def oM (s:bC):Bool:=decide (s = [114,117,108,101]) || (decide (s = [105,110]) || (decide (s = [111,117,116]) || decide (s = [97,102,116,101,114])))
def bG (s:bC):Bool:=!oM s && decide (s.length <= 40) && (Ax.cI 47 s).all rK
def counts (op:Int):Nat × Nat × Nat:=if op = 5 then (0,6,0) else if op = 6 then (0,0,1) else if op = 7 then (1,1,1) else if op = 8 then (1,1,2) else (1,1,0)
def cG (s:Step):Bool:=decide (1 <= s.op /\ s.op <= 9) && decide ((counts s.op).1 <= s.args.length /\ s.args.length <= (counts s.op).2.1) && decide (s.lits.length = (counts s.op).2.2) && s.lits.all (fun l=>decide (l.length <= 100))
 && decide (s.op = 8 -> s.lits.head? ≠ some []) && decide (0 <= s.n /\ s.n <= 2000) && decide (s.op = 9 \/ s.n = 0)
def kJ:List bC -> Bool
 | []=>false
 | s :: l=>decide (s ∈ l) || kJ l
def kH (r:aC):Bool:=bG r.name && decide (r.outs ≠ []) && r.ins.all bG && r.outs.all bG && r.after.all bG && r.steps.all fun s=>bG s.out && s.args.all bG && cG s
def long (r:aC):Bool:=decide (8 < r.ins.length) || decide (4 < r.outs.length) || decide (8 < r.after.length) || decide (12 < r.steps.length)
def iB:List bC -> List Step -> Bool
 | _,[]=>true
 | known,s :: l=>!decide (s.out ∈ known) && s.args.all (fun a=>decide (a ∈ known)) && iB (known ++ [s.out]) l
def fC (r:aC):Bool:=!kJ r.ins && !kJ r.outs && !kJ r.after && !decide (r.name ∈ r.after) && r.outs.all (fun o=>!decide (o ∈ r.ins)) && iB r.ins r.steps && r.outs.all fun o=>decide (o ∈ r.ins ++ r.steps.map Step.out)
def bB (r:aC):Int:=if kH r = false then 1 else if long r = true then 4 else if fC r = false then 2 else 0
def bQ {α:Type} (p:α -> Bool):List α -> Option Nat
 | []=>none
 | x :: l=>if p x = true then some 0 else (bQ p l).map (· + 1)
def fD (rs:List aC) (f:bC):Option Nat:=bQ (fun r=>decide (f ∈ r.outs)) rs
def fT (rs:List aC) (n:bC):Option Nat:=bQ (fun r=>decide (r.name = n)) rs
def uO (rs:List aC) (data:Bool) (r:aC) (k:Nat):Bool:=r.ins.any (fun f=>decide (fD rs f = some k)) || (!data && r.after.any fun n=>decide (fT rs n = some k))
def iE (rs:List aC) (data:Bool) (i k:Nat):Bool:=match rs[i]? with
 | some r=>uO rs data r k
 | none=>false
inductive Way (m:Nat -> Nat -> Bool):Nat -> Nat -> Prop
 | one {i k}:m i k = true -> Way m i k
 | cons {i j k}:m i j = true -> Way m j k -> Way m i k
theorem Way.trans {m:Nat -> Nat -> Bool} {i j k:Nat} (h:Way m i j) (g:Way m j k):Way m i k:=by
 induction h with
 | one h=>exact .cons h g
 | cons h _ ih=>exact .cons h (ih g)
def n_ (rs:List aC) (i:Nat):Bool:=match rs[i]? with
 | some r=>(rs.take i).any fun q=>decide (q.name = r.name) || r.outs.any fun o=>decide (o ∈ q.outs)
 | none=>false
def sH (rs:List aC):Bool:=(List.range rs.length).any (n_ rs)
def gM (rs:List aC):Bool:=rs.any fun r=>r.after.any fun n=>decide (fT rs n = none)
def gG (rs:List aC):Int:=match rs.find? fun r=>decide (bB r ≠ 0) with
 | some r=>bB r
 | none=>if 40 < rs.length then 4 else if sH rs = true then 2 else if gM rs = true then 2 else 0
def Ring (rs:List aC):Prop:=∃ i,i < rs.length /\ Way (iE rs false) i i
def HQ (rs:List aC) (e:Int):Prop:=(gG rs ≠ 0 /\ e = gG rs) \/ (gG rs = 0 /\ ((Ring rs /\ e = 3) \/ (¬ Ring rs /\ e = 0)))
def mX (rs:List aC):Prop:=gG rs = 0 /\ ¬ Ring rs
theorem HQ.zero {rs:List aC} {e:Int} (h:HQ rs e):e = 0 ↔ mX rs:=by
 unfold mX
 rcases h with ⟨h1,h2⟩ | ⟨h1,⟨h2,h3⟩ | ⟨h2,h3⟩⟩
 ·exact ⟨fun g=>absurd (h2.symm.trans g) h1,fun g=>absurd g.1 h1⟩
 ·exact ⟨fun g=>by omega,fun g=>absurd h2 g.2⟩
 ·exact ⟨fun _=>⟨h1,h2⟩,fun _=>h3⟩
end Go.AxS
end
section
namespace Go.Ax
theorem kN {α:Type} [DecidableEq α]:∀ {a b:List α},a.Nodup -> (∀ x ∈ a,x ∈ b) -> a.length <= b.length
 | [],b,_,_=>dc _
 | x :: a,b,hn,h=>by
  obtain ⟨hx,ha⟩:=ay.1 hn
  have hm:x ∈ b:=h x (IN ..)
  have:=kN (b:=b.erase x) ha fun y hy=>by
   have hne:y ≠ x:=fun e=>hx (e ▸ hy)
   exact (List.mem_erase_of_ne hne).2 (h y (OF _ hy))
  rw [List.length_erase_of_mem hm] at this
  have:0 < b.length:=List.length_pos_of_mem hm
  rw [Z0]; omega
end Go.Ax
namespace Go.AxS
open Go
def wk (m:Nat -> Nat -> Bool):Nat -> Nat -> Nat -> Bool
 | 0,i,j=>m i j
 | k + 1,i,j=>wk m k i j || (wk m k i k && wk m k k j)
theorem Mr {m:Nat -> Nat -> Bool} (k j:Nat):wk m (k + 1) k j = wk m k k j:=by
 rw [wk]; cases wk m k k j <;> simp
theorem Ms {m:Nat -> Nat -> Bool} (k i:Nat):wk m (k + 1) i k = wk m k i k:=by
 rw [wk]; cases wk m k i k <;> simp
theorem EF {m : Nat -> Nat -> Bool} {i j : Nat} : ∀ {k l : Nat}, k <= l -> wk m k i j = true -> wk m l i j = true
  | k, 0, h, e => by obtain rfl : k = 0 := by omega
                     exact e
  | k, l + 1, h, e => by
    rcases ZZ l k with g | g
    · obtain rfl : k = l + 1 := by omega
      exact e
    · rw [wk, EF g e]; rfl
theorem wQ {m:Nat -> Nat -> Bool}:∀ (k i j l:Nat),j < k -> wk m k i j = true -> wk m k j l = true -> wk m k i l = true
 | 0,_,_,_,h,_,_=>absurd h (by omega)
 | k + 1,i,j,l,h,a,b=>by
  by_cases hj:j = k
  ·subst hj
   rw [Ms] at a
   rw [Mr] at b
   rw [wk,a,b]; simp
  ·have hj:j < k:=by omega
   rw [wk,bz,Z3] at a b ⊢
   rcases a with a | ⟨a1,a2⟩ <;> rcases b with b | ⟨b1,b2⟩
   ·exact .inl (wQ k i j l hj a b)
   ·exact .inr ⟨wQ k i j k hj a b1,b2⟩
   ·exact .inr ⟨a1,wQ k k j l hj a2 b⟩
   ·exact .inr ⟨a1,b2⟩
theorem Bq {m:Nat -> Nat -> Bool}:∀ {k i j:Nat},wk m k i j = true -> Way m i j
 | 0,_,_,h=>.one h
 | k + 1,i,j,h=>by
  rw [wk,bz,Z3] at h
  rcases h with h | ⟨h1,h2⟩
  ·exact Bq h
  ·exact (Bq h1).trans (Bq h2)
theorem Sm {m:Nat -> Nat -> Bool} {n:Nat} (hm:∀ i j,m i j = true -> i < n /\ j < n) {i j:Nat} (h:Way m i j):wk m n i j = true:=by
 induction h with
 | one h=>exact EF (dc n) h
 | cons h _ ih=>exact wQ n _ _ _ (hm _ _ h).2 (EF (dc n) h) ih
theorem Way.step {m:Nat -> Nat -> Bool} {i j:Nat} (h:Way m i j):∃ k,m i k = true /\ (k = j \/ Way m k j):=by
 cases h with
 | one h=>exact ⟨_,h,.inl rfl⟩
 | cons h g=>exact ⟨_,h,.inr g⟩
def eF (bJ:List Int) (i:Nat):Int:=(bJ[i]?).getD (-1)
theorem lU {bJ:List Int} {i j:Nat} {d:Int} (hi:i < bJ.length):eF (bJ.set i d) j = if j = i then d else eF bJ j:=by
 unfold eF
 by_cases h:j = i
 ·subst h
  rw [ZO rfl,ZV hi]; rfl
 ·rw [ZM h,No (fun e=>h e.symm)]
structure mB (m:Nat -> Nat -> Bool) (n first d i k:Nat) (bJ:List Int):Prop where
 len:bJ.length = n
 K6:∀ j,j < n -> eF bJ j = -1 \/ (0 <= eF bJ j /\ eF bJ j <= (d:Int) /\ (i < j -> eF bJ j < (d:Int)))
 zero:∀ j,j < n -> (eF bJ j = 0 ↔ j = first)
 down:∀ j (e:Nat),j < n -> eF bJ j = (e:Int) + 1 -> ∃ l,l < n /\ m j l = true /\ eF bJ l = (e:Int)
 old:∀ j l,j < n -> l < n -> m j l = true -> 0 <= eF bJ l -> eF bJ l + 1 < (d:Int) -> 0 <= eF bJ j
 now:∀ j l,j < i -> j < n -> l < n -> m j l = true -> eF bJ l + 1 = (d:Int) -> 0 <= eF bJ j
 row:∀ l,l < k -> i < n -> l < n -> m i l = true -> eF bJ l + 1 = (d:Int) -> 0 <= eF bJ i
theorem mB.init {m:Nat -> Nat -> Bool} {n first:Nat} (hf:first < n):mB m n first 1 0 0 ((List.replicate n (-1)).set first 0):=by
 have hl:first < (List.replicate n (-1:Int)).length:=by simpa using hf
 have hg:∀ j,j < n -> eF ((List.replicate n (-1)).set first 0) j = if j = first then 0 else -1:=fun j hj=>by
  rw [lU hl]
  split
  ·rfl
  ·unfold eF; simp [hj]
 refine ⟨by simp,fun j hj=>?_,fun j hj=>?_,fun j e hj h=>?_,fun j l hj hl hm h1 h2=>?_,fun j l hj=>?_,fun l hl=>?_⟩
 ·rw [hg j hj]; split
  ·exact .inr ⟨by omega,by omega,fun _=>by omega⟩
  ·exact .inl rfl
 ·rw [hg j hj]; split
  ·rename_i h; exact ⟨fun _=>h,fun _=>rfl⟩
  ·rename_i h; exact ⟨fun g=>absurd g (by omega),fun g=>absurd g h⟩
 ·rw [hg j hj] at h; split at h <;> omega
 ·omega
 ·omega
 ·omega
theorem mB.skip {m:Nat -> Nat -> Bool} {n first d i k:Nat} {bJ:List Int} (h:mB m n first d i k bJ) (hne:¬ (m i k = true /\ eF bJ k = (d:Int) - 1)):mB m n first d i (k + 1) bJ:=by
 refine ⟨h.len,h.K6,h.zero,h.down,h.old,h.now,fun l hl hi hln hm e=>?_⟩
 rcases ZZ l k with g | g
 ·exact h.row l g hi hln hm e
 ·obtain rfl:l = k:=by omega
  exact absurd ⟨hm,by omega⟩ hne
theorem mB.put {m:Nat -> Nat -> Bool} {n first d i k:Nat} {bJ:List Int} (h:mB m n first d i k bJ) (hi:i < n) (hk:k < n) (hd:1 <= d) (hf:eF bJ i < 0) (hm:m i k = true) (he:eF bJ k = (d:Int) - 1) :
  mB m n first d i (k + 1) (bJ.set i (d:Int)):=by
 have hl:i < bJ.length:=by rw [h.len]; exact hi
 have hi1:eF bJ i = -1:=by rcases h.K6 i hi with g | ⟨g,_⟩ <;> omega
 have hki:k ≠ i:=fun e=>by subst e; omega
 refine ⟨by rw [bq]; exact h.len,fun j hj=>?_,fun j hj=>?_,fun j e hj g=>?_,fun j l hj hl2 hm2 h1 h2=>?_,fun j l hji hj hl2 hm2 h1=>?_,fun l hlk hi2 hl2 hm2 h1=>?_⟩
 ·rw [lU hl]; split
  ·rename_i e; subst e; exact .inr ⟨by omega,by omega,fun g=>by omega⟩
  ·exact h.K6 j hj
 ·rw [lU hl]; split
  ·rename_i e; subst e
   constructor
   ·intro g; omega
   ·intro g; have:=(h.zero j hj).2 g; omega
  ·exact h.zero j hj
 ·rw [lU hl] at g; split at g
  ·rename_i e2; subst e2
   exact ⟨k,hk,hm,by rw [lU hl,ZM hki]; omega⟩
  ·obtain ⟨l,h1,h2,h3⟩:=h.down j e hj g
   refine ⟨l,h1,h2,?_⟩
   rw [lU hl,ZM]
   ·exact h3
   ·intro e2; subst e2; omega
 ·rw [lU hl] at h1 h2 ⊢
  split
  ·omega
  ·split at h1
   ·rename_i e2; rw [ZO e2] at h2; omega
   ·rename_i e2; rw [ZM e2] at h2; exact h.old j l hj hl2 hm2 h1 h2
 ·rw [lU hl] at h1 ⊢
  split
  ·omega
  ·split at h1
   ·omega
   ·exact h.now j l hji hj hl2 hm2 h1
 ·rw [lU hl,ZO rfl]; omega
theorem mB.next {m:Nat -> Nat -> Bool} {n first d i k:Nat} {bJ:List Int} (h:mB m n first d i k bJ) (hk:k = n \/ 0 <= eF bJ i) (hi:i < n):mB m n first d (i + 1) 0 bJ:=by
 refine ⟨h.len,fun j hj=>?_,h.zero,h.down,h.old,fun j l hj hjn hl hm e=>?_,fun l hl=>by omega⟩
 ·rcases h.K6 j hj with g | ⟨g1,g2,g3⟩
  ·exact .inl g
  ·exact .inr ⟨g1,g2,fun g=>g3 (by omega)⟩
 ·rcases ZZ j i with g | g
  ·exact h.now j l g hjn hl hm e
  ·obtain rfl:j = i:=by omega
   rcases hk with rfl | hk
   ·exact h.row l hl hjn hl hm e
   ·exact hk
theorem mB.round {m:Nat -> Nat -> Bool} {n first d:Nat} {bJ:List Int} (h:mB m n first d n 0 bJ):mB m n first (d + 1) 0 0 bJ:=by
 refine ⟨h.len,fun j hj=>?_,h.zero,h.down,fun j l hj hl hm h1 h2=>?_,fun j l hj=>by omega,fun l hl=>by omega⟩
 ·rcases h.K6 j hj with g | ⟨g1,g2,_⟩
  ·exact .inl g
  ·exact .inr ⟨g1,by omega,fun _=>by omega⟩
 ·rcases ZZ ((eF bJ l + 1).toNat) d with g | g
  ·exact h.old j l hj hl hm h1 (by omega)
  ·exact h.now j l hj hj hl hm (by omega)
theorem mB.small {m:Nat -> Nat -> Bool} {n first d:Nat} {bJ:List Int} (h:mB m n first d 0 0 bJ) {j:Nat} (hj:j < n):eF bJ j < (n:Int):=by
 have chain:∀ (e:Nat) (j:Nat),j < n -> eF bJ j = (e:Int) -> ∃ l:List Nat,l.length = e + 1 /\ l.Nodup /\ ∀ x ∈ l,x < n /\ 0 <= eF bJ x /\ eF bJ x <= (e:Int):=by
  intro e
  induction e with
  | zero=>intro j hj he; exact ⟨[j],rfl,by simp,fun x hx=>by simp at hx; subst hx; exact ⟨hj,by omega,by omega⟩⟩
  | succ e ih=>
   intro j hj he
   obtain ⟨k,hk,_,hk2⟩:=h.down j e hj (by omega)
   obtain ⟨l,h1,h2,h3⟩:=ih k hk hk2
   refine ⟨j :: l,by simp [h1],ay.2 ⟨fun hm=>?_,h2⟩,fun x hx=>?_⟩
   ·have:=(h3 j hm).2.2; omega
   ·rcases By.1 hx with rfl | hx
    ·exact ⟨hj,by omega,by omega⟩
    ·obtain ⟨a,b,c⟩:=h3 x hx; exact ⟨a,b,by omega⟩
 rcases h.K6 j hj with g | ⟨g,_⟩
 ·omega
 ·obtain ⟨l,h1,h2,h3⟩:=chain (eF bJ j).toNat j hj (by omega)
  have:l.length <= (List.range n).length:=Ax.kN h2 fun x hx=>j6.2 (h3 x hx).1
  rw [l5] at this
  omega
theorem mB.closed {m:Nat -> Nat -> Bool} {n first:Nat} {bJ:List Int} (h:mB m n first (n + 1) 0 0 bJ) {j l:Nat} (hj:j < n) (hl:l < n) (hm:m j l = true) (hf:0 <= eF bJ l):0 <= eF bJ j:=
 h.old j l hj hl hm hf (by have:=h.small hl; omega)
theorem mB.way {m:Nat -> Nat -> Bool} {n first:Nat} {bJ:List Int} (hmn:∀ i j,m i j = true -> i < n /\ j < n) (h:mB m n first (n + 1) 0 0 bJ) (hf:first < n) {j:Nat} (hw:Way m j first):0 <= eF bJ j:=by
 have h0:eF bJ first = 0:=(h.zero first hf).2 rfl
 have:∀ i j,Way m i j -> j = first -> 0 <= eF bJ i:=by
  intro i j hw
  induction hw with
  | one g=>intro e; subst e; exact h.closed (hmn _ _ g).1 hf g (by omega)
  | cons g _ ih=>intro e; exact h.closed (hmn _ _ g).1 (hmn _ _ g).2 g (ih e)
 exact this j first hw rfl
theorem mB.first {m:Nat -> Nat -> Bool} {n first:Nat} {bJ:List Int} (hmn:∀ i j,m i j = true -> i < n /\ j < n) (h:mB m n first (n + 1) 0 0 bJ) (hf:first < n) (hw:Way m first first):∃ k,k < n /\ m first k = true /\ 0 <= eF bJ k:=by
 obtain ⟨k,hk,e | g⟩:=hw.step
 ·subst e; exact ⟨k,hf,hk,by rw [(h.zero k hf).2 rfl]; omega⟩
 ·exact ⟨k,(hmn _ _ hk).2,hk,h.way hmn hf g⟩
end Go.AxS
end
section
namespace Go.Ax
open Go
def o_ (t:Nat):List V -> Sg -> Option (V × Sg)
 | [.aD],Z=>some (.gB [],Z)
 | [.sl b 0 len _],Z=>match Z[b]? with
  | some (.cells u cs ex)=>match Nat.beq u t,Nat.beq len cs.length,allRows kF (cs.map fun v=>[v]),Nat.ble len 1000000 with
   | true,true,true,true=>some (.gB [],Z.set b (.cells u (kL strLt (cs.map fun v=>[v])).flatten ex))
   | _,_,_,_=>none
  | _=>none
 | _,_=>none
end Go.Ax
end
section
namespace Go.Proofs.YtmhchflckonklaaGreatDoor
open Go Go.Ax
def P5:BT Ax.Mode:=(.node 215 (.node 135 (.node 89 (.node 67 (.node 54 (.node 46 (.leaf 45 Ax.Mode.move) (.leaf 46 Ax.Mode.shared)) (.node 63 (.leaf 54 Ax.Mode.shared) (.node 65 (.leaf 63 Ax.Mode.shared) (.leaf 65 Ax.Mode.shared)))) (.node 83 (.node 73 (.leaf 67 Ax.Mode.shared) (.leaf 73 Ax.Mode.shared)) (.node 84 (.leaf 83 Ax.Mode.shared) (.node 85 (.leaf 84 Ax.Mode.shared) (.leaf 85 Ax.Mode.shared))))) (.node 117 (.node 102 (.node 101 (.leaf 89 Ax.Mode.shared) (.leaf 101 Ax.Mode.shared)) (.node 105 (.leaf 102 Ax.Mode.shared) (.node 108 (.leaf 105 Ax.Mode.shared) (.leaf 108 Ax.Mode.shared)))) (.node 119 (.node 118 (.leaf 117 Ax.Mode.shared) (.leaf 118 Ax.Mode.shared)) (.node 127 (.leaf 119 Ax.Mode.shared) (.node 129 (.leaf 127 Ax.Mode.shared) (.leaf 129 Ax.Mode.shared)))))) (.node 164 (.node 158 (.node 148 (.node 147 (.leaf 135 Ax.Mode.shared) (.leaf 147 Ax.Mode.shared)) (.node 156 (.leaf 148 Ax.Mode.shared) (.node 157 (.leaf 156 Ax.Mode.shared) (.leaf 157 Ax.Mode.shared)))) (.node 160 (.node 159 (.leaf 158 Ax.Mode.shared) (.leaf 159 Ax.Mode.shared)) (.node 161 (.leaf 160 Ax.Mode.shared) (.node 163 (.leaf 161 Ax.Mode.shared) (.leaf 163 Ax.Mode.shared))))) (.node 187 (.node 170 (.node 169 (.leaf 164 Ax.Mode.shared) (.leaf 169 Ax.Mode.shared)) (.node 182 (.leaf 170 Ax.Mode.shared) (.node 186 (.leaf 182 Ax.Mode.shared) (.leaf 186 Ax.Mode.shared)))) (.node 190 (.node 189 (.leaf 187 Ax.Mode.shared) (.leaf 189 Ax.Mode.shared)) (.node 191 (.leaf 190 Ax.Mode.shared) (.node 214 (.leaf 191 Ax.Mode.shared) (.leaf 214 Ax.Mode.shared))))))) (.node 267 (.node 237 (.node 220 (.node 217 (.node 216 (.leaf 215 Ax.Mode.shared) (.leaf 216 Ax.Mode.shared)) (.node 218 (.leaf 217 Ax.Mode.shared) (.node 219 (.leaf 218 Ax.Mode.shared) (.leaf 219 Ax.Mode.shared)))) (.node 224 (.node 221 (.leaf 220 Ax.Mode.shared) (.leaf 221 Ax.Mode.shared)) (.node 226 (.leaf 224 Ax.Mode.shared) (.node 236 (.leaf 226 Ax.Mode.shared) (.leaf 236 Ax.Mode.shared))))) (.node 254 (.node 251 (.node 244 (.leaf 237 Ax.Mode.shared) (.leaf 244 Ax.Mode.shared)) (.node 252 (.leaf 251 Ax.Mode.shared) (.node 253 (.leaf 252 Ax.Mode.shared) (.leaf 253 Ax.Mode.shared)))) (.node 256 (.node 255 (.leaf 254 Ax.Mode.shared) (.leaf 255 Ax.Mode.shared)) (.node 258 (.leaf 256 Ax.Mode.shared) (.node 266 (.leaf 258 Ax.Mode.shared) (.leaf 266 Ax.Mode.shared)))))) (.node 300 (.node 287 (.node 269 (.node 268 (.leaf 267 Ax.Mode.shared) (.leaf 268 Ax.Mode.shared)) (.node 270 (.leaf 269 Ax.Mode.shared) (.node 271 (.leaf 270 Ax.Mode.shared) (.leaf 271 Ax.Mode.shared)))) (.node 293 (.node 292 (.leaf 287 Ax.Mode.shared) (.leaf 292 Ax.Mode.shared)) (.node 295 (.leaf 293 Ax.Mode.shared) (.node 299 (.leaf 295 Ax.Mode.shared) (.leaf 299 Ax.Mode.shared))))) (.node 308 (.node 302 (.node 301 (.leaf 300 Ax.Mode.shared) (.leaf 301 Ax.Mode.shared)) (.node 303 (.leaf 302 Ax.Mode.shared) (.node 307 (.leaf 303 Ax.Mode.shared) (.leaf 307 Ax.Mode.shared)))) (.node 323 (.node 309 (.leaf 308 Ax.Mode.shared) (.node 319 (.leaf 309 Ax.Mode.shared) (.leaf 319 Ax.Mode.shared))) (.node 324 (.leaf 323 Ax.Mode.shared) (.node 335 (.leaf 324 Ax.Mode.shared) (.leaf 335 Ax.Mode.shared))))))))
def N6:BT (List V -> Sg -> Option (V × Sg)):=(.node 121 (.node 88 (.leaf 73 (o_ 9)) (.node 107 (.leaf 88 (rX 9 [127,323] [256])) (.leaf 107 (kZ 51 [148] [] 109)))) (.node 314 (.leaf 121 Kk) (.node 316 (.leaf 314 Bf) (.leaf 316 (Kj 5)))))
noncomputable def ground:Ax.Ground Tryz.prog:={ ty:=Mv,fn:=Kq,mode:=P5,hspec:=N6,eqs:=R6,gl:=Eb,C4:=fun t=>Nat.beq t 264 }
noncomputable def sp0:BT (List V -> Option V):=(.node 263 (.node 179 (.leaf 155 oH) (.leaf 179 lE)) (.node 304 (.leaf 263 kK) (.leaf 304 wW)))
def FE:List V:=[.str [122],.int .i64 5,.bS false [[.str [121]]] true,.aD,.int .i64 0]
def HU:List (List V):=[FE]
def Gn:List V:=[.str [99],.bS false [[.str [121]]] true,.bS false [[.str [122]]] true,.bS false [[.str [97]]] true,.bS false HU true]
def q19:List V:=[.str [120],.int .i64 5,.bS false [[.str [115]]] true,.aD,.int .i64 0]
def q20:List (List V):=[q19]
def q21:List V:=[.str [97],.bS false [[.str [115]]] true,.bS false [[.str [120]]] true,.aD,.bS false q20 true]
def q23:List V:=[.str [121],.int .i64 5,.bS false [[.str [120]]] true,.aD,.int .i64 0]
def q24:List (List V):=[q23]
def q25:List V:=[.str [98],.bS false [[.str [120]]] true,.bS false [[.str [121]]] true,.aD,.bS false q24 true]
def HT:List (List V):=[Gn,q21,q25]
def Wb:List V:=[.str [122],.int .i64 5,.bS false [[.str [121]]] false,.aD,.int .i64 0]
def Wa:List (List V):=[Wb]
def q29:List V:=[.str [99],.bS false [[.str [121]]] false,.bS false [[.str [122]]] false,.bS false [[.str [97]]] false,.bS false Wa false]
def q30:List V:=[.str [120],.int .i64 5,.bS false [[.str [115]]] false,.aD,.int .i64 0]
def q31:List (List V):=[q30]
def q32:List V:=[.str [97],.bS false [[.str [115]]] false,.bS false [[.str [120]]] false,.aD,.bS false q31 false]
def q33:List V:=[.str [121],.int .i64 5,.bS false [[.str [120]]] false,.aD,.int .i64 0]
def q34:List (List V):=[q33]
def q35:List V:=[.str [98],.bS false [[.str [120]]] false,.bS false [[.str [121]]] false,.aD,.bS false q34 false]
def q36:List (V × V):=[(.str [99],.agg q29),(.str [97],.agg q32),(.str [98],.agg q35)]
def q37:List (V × V):=[(.str [122],.str [99]),(.str [120],.str [97]),(.str [121],.str [98])]
def q45:List (V × V):=[(.agg [.bool true,.str [99]],.bool true),(.agg [.bool false,.str [121]],.bool true),(.agg [.bool false,.str [122]],.bool true),(.agg [.bool true,.str [97]],.bool true),(.agg [.bool false,.str [115]],.bool true),(.agg [.bool false,.str [120]],.bool true),(.agg [.bool true,.str [98]],.bool true)]
def q46:List V:=[.imp false q45]
def q48:List V:=[.imp false [(.agg [.bool false,.str [121]],.bool true)]]
def q50:List V:=[.imp false [(.agg [.bool true,.str [99]],.bool true)]]
def q52:List V:=[.imp false [(.agg [.bool false,.str [115]],.bool true)]]
def q54:List V:=[.imp false [(.agg [.bool true,.str [97]],.bool true)]]
def q56:List V:=[.imp false [(.agg [.bool false,.str [120]],.bool true)]]
def q58:List V:=[.imp false [(.agg [.bool true,.str [98]],.bool true)]]
def q59:List (V × V):=[(.agg [.bool true,.str [99]],.cW false q48),(.agg [.bool false,.str [122]],.cW false q50),(.agg [.bool true,.str [97]],.cW false q52),(.agg [.bool false,.str [120]],.cW false q54),(.agg [.bool true,.str [98]],.cW false q56),(.agg [.bool false,.str [121]],.cW false q58)]
def q61:List V:=[.imp false [(.agg [.bool false,.str [122]],.bool true)]]
def q62:List (V × V):=[(.agg [.bool false,.str [121]],.cW false q50),(.agg [.bool true,.str [99]],.cW false q61),(.agg [.bool false,.str [115]],.cW false q54),(.agg [.bool true,.str [97]],.cW false q56),(.agg [.bool false,.str [120]],.cW false q58),(.agg [.bool true,.str [98]],.cW false q48)]
def RT:List V:=[.imp false q36,.imp false q37,.cW false q46,.imp false q59,.imp false q62]
def q71:List V:=[.str [116],.int .i64 3,.bS true [[.str [97]]] true,.aD,.int .i64 0]
def q74:List V:=[.str [120],.int .i64 4,.bS true [[.str [116]]] true,.aD,.int .i64 0]
def q76:List V:=[.str [121],.int .i64 2,.bS true [[.str [98]]] true,.aD,.int .i64 0]
def q77:List (List V):=[q71,q74,q76]
def UG:List V:=[.str [114],.bS true [[.str [97]],[.str [98]]] true,.bS true [[.str [120]],[.str [121]]] true,.aD,.bS true q77 true]
def V_:List (List V):=[UG]
def q80:List V:=[.str [97],.int .i64 1,.bS true [[.str [120]]] true,.aD,.int .i64 0]
def q81:List (List V):=[q80]
def q82:List V:=[.str [115],.bS true [[.str [120]]] true,.bS true [[.str [97]]] true,.aD,.bS true q81 true]
def q83:List (List V):=[q82,UG]
def q93:List (V × V):=[(.str [99],.bS false [[.str [97]],[.str [98]]] false),(.str [97],.aD),(.str [98],.bS false [[.str [97]]] false)]
def Wh:List (List V):=[[.bool true,.str [50,10]],[.bool false,.str []]]
def Wg:List (List V):=[[.bool false,.str []],[.bool true,.str [122]]]
def Wf:List Nat:=[114,117,108,101,32,114,32,123,32,105,110,32,98,44,32,97,59,32,111,117,116,32,120,59,32,35,32,110,111,10,32,120,32,61,32,115,101,108,101,99,116,32,34,113,92,110,34,32,97,59,32,125]
def We:List V:=[.int .i64 1,.int .i64 0,.str [114,117,108,101]]
def q171:List V:=[.str [120],.int .i64 7,.bS false [[.str [97]]] true,.bS false [[.str [113,10]]] true,.int .i64 0]
def q172:List (List V):=[q171]
def q173:List V:=[.str [114],.bS false [[.str [98]],[.str [97]]] false,.bS false [[.str [120]]] true,.aD,.bS false q172 false]
def Wd:List (List V):=[q173]
def Nd:List V:=[.cW false RT]
def q188:List (V × V):=[(.str [97],.bool true),(.str [98],.bool true)]
def Wc:List (V × V):=[(.str [97],.imp false []),(.str [98],.imp false [(.str [97],.bool true)]),(.str [99],.imp false q188)]
def t262:List (List V × V):=[([.int .i32 99],.bool true),([.int .i32 121],.bool true),([.int .i32 122],.bool true),([.int .i32 97],.bool true),([.int .i32 115],.bool true),([.int .i32 120],.bool true),([.int .i32 98],.bool true),([.int .i32 114],.bool true),([.int .i32 116],.bool true),([.int .i32 46],.bool true)]
noncomputable def Pd:=sp0.put 262 (bI t262)
def t233:List (List V × V):=[([.str [99]],.bool false),([.str [121]],.bool false),([.str [122]],.bool false),([.str [97]],.bool false),([.str [115]],.bool false),([.str [120]],.bool false),([.str [98]],.bool false),([.str [114]],.bool false),([.str [116]],.bool false),([.str [98,46,99]],.bool false),([.str []],.bool true)]
noncomputable def Mn:=Pd.put 233 (bI t233)
def t193:List (List V × V):=[([.str [99]],.bool true),([.str [121]],.bool true),([.str [122]],.bool true),([.str [97]],.bool true),([.str [115]],.bool true),([.str [120]],.bool true),([.str [98]],.bool true),([.str [114]],.bool true),([.str [116]],.bool true),([.str [105,110]],.bool false),([.str [97,47,99]],.bool true),([.str [97,47,98,46,99]],.bool true),([.str [97,47,47,98]],.bool false),([.str [114,117,108,101]],.bool false)]
noncomputable def Pc:=Mn.put 193 (bI t193)
def t206:List (List V × V):=[([.str [99]],.bool false),([.str [121]],.bool false),([.str [122]],.bool false),([.str [97]],.bool false),([.str [115]],.bool false),([.str [120]],.bool false),([.str [98]],.bool false),([.str [114]],.bool false),([.str [116]],.bool false)]
noncomputable def sp4:=Pc.put 206 (bI t206)
def t144:List (List V × V):=[([.agg FE],.bool true),([.agg q19],.bool true),([.agg q23],.bool true),([.agg q71],.bool true),([.agg q74],.bool true),([.agg q76],.bool true),([.agg q80],.bool true)]
noncomputable def Mm:=sp4.put 144 (bI t144)
def t209:List (List V × V):=[([.bS false [[.str [121]]] true],.bool false),([.bS false [[.str [122]]] true],.bool false),([.bS false [[.str [97]]] true],.bool false),([.bS false [[.str [115]]] true],.bool false),([.bS false [[.str [120]]] true],.bool false),([.aD],.bool false),([.bS true [[.str [97]],[.str [98]]] true],.bool false),([.bS true [[.str [120]],[.str [121]]] true],.bool false),([.bS true [[.str [120]]] true],.bool false),([.bS true [[.str [97]]] true],.bool false)]
noncomputable def sp6:=Mm.put 209 (bI t209)
def t143:List (List V × V):=[([.agg Gn],.int .i64 0),([.agg q21],.int .i64 0),([.agg q25],.int .i64 0),([.agg UG],.int .i64 0),([.agg q82],.int .i64 0)]
noncomputable def sp7:=sp6.put 143 (bI t143)
def t115:List (List V × V):=[([.bS true HT true],.gB [.int .i64 0,.str []]),([.bS true V_ true],.gB [.int .i64 0,.str []]),([.bS true q83 true],.gB [.int .i64 0,.str []])]
noncomputable def sp8:=sp7.put 115 (bI t115)
def t154:List (List V × V):=[([.bS true HT true],.imp false q93),([.bS true V_ true],.imp false [(.str [114],.aD)]),([.bS true q83 true],.imp false [(.str [115],.bS false [[.str [114]]] false),(.str [114],.bS false [[.str [115]]] false)])]
noncomputable def sp9:=sp8.put 154 (bI t154)
def t116:List (List V × V):=[([.bS true HT true],.aD),([.bS true V_ true],.aD),([.bS true q83 true],.bS false [[.str [114]],[.str [115]]] false)]
noncomputable def MT:=sp9.put 116 (bI t116)
def t61:List (List V × V):=[([.bS true HT true],.gB [.int .i64 0,.str []]),([.bS true V_ true],.gB [.int .i64 0,.str []]),([.bS true q83 true],.gB [.int .i64 3,.str [114]])]
noncomputable def SN:=MT.put 61 (bI t61)
def t62:List (List V × V):=[([.agg Gn],.agg q29),([.agg q21],.agg q32),([.agg q25],.agg q35)]
noncomputable def MS:=SN.put 62 (bI t62)
def t13:List (List V × V):=[([.bS true HT true],.cW false RT)]
noncomputable def MR:=MS.put 13 (bI t13)
def t72:List (List V × V):=[([.bS true HT true],.imp false q93)]
noncomputable def PE:=MR.put 72 (bI t72)
def t23:List (List V × V):=[([.bS true HT true],.bS false [[.str [97]],[.str [98]],[.str [99]]] false)]
noncomputable def PD:=PE.put 23 (bI t23)
def t25:List (List V × V):=[([.bS true HT true],.bS false [[.bS false [[.str [97]]] false],[.bS false [[.str [98]]] false],[.bS false [[.str [99]]] false]] false)]
noncomputable def PC:=PD.put 25 (bI t25)
def t82:List (List V × V):=[([.bS true HT true],.imp false Wc)]
noncomputable def PB:=PC.put 82 (bI t82)
def t87:List (List V × V):=[([.bS true HT true,.imp false Wc,.agg Gn,.str [97]],.bool true)]
noncomputable def PA:=PB.put 87 (bI t87)
def t32:List (List V × V):=[([.bS true HT true,.str [99],.str [97]],.bool true)]
noncomputable def Pz:=PA.put 32 (bI t32)
def t28:List (List V × V):=[([.bS true HT true],.bS false [[.str [99],.bS false [[.str [121]]] true,.bS false [[.str [122]]] true,.bS false [] false,.bS false HU true],q21,q25] false)]
noncomputable def SL:=Pz.put 28 (bI t28)
def t133:List (List V × V):=[([.agg UG,.bS true [[.bool true,.str [113,10,112]],[.bool true,.str []]] true],.bS false Wh false),([.agg UG,.bS true Wg false],.bS false Wg false),([.agg UG,.bS true [[.bool true,.str [50,10,49]],[.bool false,.str []]] false],.bS false Wh false)]
noncomputable def SK:=SL.put 133 (bI t133)
def t136:List (List V × V):=[([.bS true V_ true,.cW true [.imp true [(.str [97],.str [50,10,49])]],.bS true [[.str [120]],[.str [97]],[.str [121]]] true],.bS false [[.bool true,.str [50,10]],[.bool true,.str [50,10,49]],[.bool false,.str []]] true)]
noncomputable def SJ:=SK.put 136 (bI t136)
def t196:List (List V × V):=[([.str [97,32,34,92,120,52,49,34,32,59]],.gB [.bS false [[.int .i64 1,.int .i64 0,.str [97]],[.int .i64 2,.int .i64 2,.str [65]],[.int .i64 3,.int .i64 9,.str [59]],[.int .i64 4,.int .i64 10,.str []]] false,.agg [.int .i64 0,.int .i64 0]]),([.str Wf],.gB [.bS false [We,[.int .i64 1,.int .i64 5,.str [114]],[.int .i64 3,.int .i64 7,.str [123]],[.int .i64 1,.int .i64 9,.str [105,110]],[.int .i64 1,.int .i64 12,.str [98]],[.int .i64 3,.int .i64 13,.str [44]],[.int .i64 1,.int .i64 15,.str [97]],[.int .i64 3,.int .i64 16,.str [59]],[.int .i64 1,.int .i64 18,.str [111,117,116]],[.int .i64 1,.int .i64 22,.str [120]],[.int .i64 3,.int .i64 23,.str [59]],[.int .i64 1,.int .i64 31,.str [120]],[.int .i64 3,.int .i64 33,.str [61]],[.int .i64 1,.int .i64 35,.str [115,101,108,101,99,116]],[.int .i64 2,.int .i64 42,.str [113,10]],[.int .i64 1,.int .i64 48,.str [97]],[.int .i64 3,.int .i64 49,.str [59]],[.int .i64 3,.int .i64 51,.str [125]],[.int .i64 4,.int .i64 52,.str []]] false,.agg [.int .i64 0,.int .i64 0]]),([.str [114,117,108,101,32,105,110,32,123]],.gB [.bS false [We,[.int .i64 1,.int .i64 5,.str [105,110]],[.int .i64 3,.int .i64 8,.str [123]],[.int .i64 4,.int .i64 9,.str []]] false,.agg [.int .i64 0,.int .i64 0]])]
noncomputable def Py:=SJ.put 196 (bI t196)
def t197:List (List V × V):=[([.str Wf],.gB [.bS false Wd false,.agg [.int .i64 0,.int .i64 0]]),([.str [114,117,108,101,32,105,110,32,123]],.gB [.aD,.agg [.int .i64 1,.int .i64 5]])]
noncomputable def SI:=Py.put 197 (bI t197)
def t200:List (List V × V):=[([.bS false Wd false],.str [114,117,108,101,32,114,32,123,10,32,32,105,110,32,97,44,32,98,59,10,32,32,111,117,116,32,120,59,10,32,32,120,32,61,32,115,101,108,101,99,116,32,34,113,92,110,34,32,97,59,10,125,10])]
noncomputable def Px:=SI.put 200 (bI t200)
def t238:List (List V × V):=[([],.bool true)]
noncomputable def SH:=Px.put 238 (bI t238)
def t171:List (List V × V):=[([],.bool true)]
noncomputable def SG:=SH.put 171 (bI t171)
def t106:List (List V × V):=[([],.bool true)]
noncomputable def SF:=SG.put 106 (bI t106)
def t70:List (List V × V):=[([.cW false RT,.int .i64 1,.fn 58 Nd [],.bS false [[.bool false,.str [122]]] true],.bS false [[.bool false,.str [122]],[.bool true,.str [99]]] false),([.cW false RT,.int .i64 (-1),.fn 71 Nd [],.bS false [[.bool false,.str [121]]] true],.bS false [[.bool false,.str [121]],[.bool false,.str [122]],[.bool true,.str [99]]] false),([.cW false RT,.int .i64 (-1),.fn 58 Nd [],.bS true [[.bool false,.str [121]]] false],.bS false [[.bool false,.str [115]],[.bool false,.str [120]],[.bool false,.str [121]],[.bool true,.str [97]],[.bool true,.str [98]]] false),([.cW false RT,.int .i64 (-1),.fn 58 Nd [],.bS false [[.bool false,.str [122]]] true],.bS false [[.bool false,.str [115]],[.bool false,.str [120]],[.bool false,.str [121]],[.bool false,.str [122]],[.bool true,.str [97]],[.bool true,.str [98]],[.bool true,.str [99]]] false),([.cW false RT,.int .i64 (-1),.fn 71 Nd [],.bS false [[.bool false,.str [120]]] true],.bS false [[.bool false,.str [120]],[.bool false,.str [121]],[.bool false,.str [122]],[.bool true,.str [98]],[.bool true,.str [99]]] false)]
noncomputable def SE:=SF.put 70 (bI t70)
def t96:List (List V × V):=[([.cW false RT,.bS true [[.bool false,.str [120]]] true],.imp false [(.agg [.bool false,.str [120]],.int .i64 0),(.agg [.bool true,.str [98]],.int .i64 1),(.agg [.bool false,.str [121]],.int .i64 2),(.agg [.bool true,.str [99]],.int .i64 3),(.agg [.bool false,.str [122]],.int .i64 4)])]
noncomputable def U4:=SE.put 96 (bI t96)
def t11:List (List V × V):=[([],.bool true)]
end Go.Proofs.YtmhchflckonklaaGreatDoor
end
