/- Part 3 of the proof. -/
import Derived.Test.YtlbbdpkjeeiahaaGreatDoorZ2
import Derived.Test.YtlbbdpkjeeiahaaGreatDoorProg
import Derived.KernelRfl
set_option maxHeartbeats 8000000
set_option linter.unusedVariables false
open List (mem_cons_self pairwise_cons mem_cons)
section
namespace Go.Proofs.YtlbbdpkjeeiahaaGreatDoor
open Go Go.Ax
noncomputable def LA:BT Ty:=BT.J9 (Om Tryz.prog) 9 0
theorem E5:LA.yA (uI Tryz.prog):=by unfold LA; exact BT.AR (g:=Om Tryz.prog) (p:=uI Tryz.prog) (fun _ _ h=>Ol h) 9 0
theorem noGo:(Tryz.prog.funcs.all fun fn=>!(fn.name == "runtime.NumGoroutine")) = true:=by kernel_rfl
noncomputable def Jz:BT Ax.Fn:=BT.J9 (PS Tryz.prog) 9 0
theorem Gp:Jz.yA (Io Tryz.prog):=by unfold Jz; exact BT.AR (g:=PS Tryz.prog) (p:=Io Tryz.prog) (fun _ _ h=>PO noGo h) 9 0
def ty5:Ty:={ kd:=.int .u8,size:=1,bytes:=1,zero:=.int .u8 0 }
def cK:Ty:={ kd:=.str,size:=1,bytes:=16,zero:=.str [] }
def nE:Ty:={ kd:=.jC [(0,4),(1,9)],size:=2,bytes:=24,zero:=.agg [.bool false,.str []] }
def qN:Ty:={ kd:=.map 9 4,size:=1,bytes:=8,zero:=.bS }
theorem Xi:iN Tryz.prog 7 [.int .i64,.int .i64,.bool,.int .u8]:=iN.of Tryz.underlying7 (by kernel_rfl) (by kernel_rfl) (.cons 0 _ _ _ _ _ (by decide) rfl Tryz.underlying2 rfl (.cons 1 _ _ _ _ _ (by decide) rfl Tryz.underlying3 rfl (.cons 2 _ _ _ _ _ (by decide) rfl Tryz.underlying4 rfl (.cons 3 _ _ _ _ _ (by decide) rfl Tryz.underlying6 rfl (.nil 4)))))
theorem Xh:iN Tryz.prog 8 [.int .i64,.int .i64,.bool,.int .u8]:=iN.of Tryz.underlying8 (by kernel_rfl) (by kernel_rfl) (.cons 0 _ _ _ _ _ (by decide) rfl Tryz.underlying2 rfl (.cons 1 _ _ _ _ _ (by decide) rfl Tryz.underlying3 rfl (.cons 2 _ _ _ _ _ (by decide) rfl Tryz.underlying4 rfl (.cons 3 _ _ _ _ _ (by decide) rfl Tryz.underlying6 rfl (.nil 4)))))
theorem Su:iN Tryz.prog 45 [.bool,.str]:=iN.of Tryz.underlying45 (by kernel_rfl) (by kernel_rfl) (.cons 0 _ _ _ _ _ (by decide) rfl Tryz.underlying4 rfl (.cons 1 _ _ _ _ _ (by decide) rfl Tryz.underlying9 rfl (.nil 2)))
theorem St:iN Tryz.prog 46 [.bool,.str]:=iN.of Tryz.underlying46 (by kernel_rfl) (by kernel_rfl) (.cons 0 _ _ _ _ _ (by decide) rfl Tryz.underlying4 rfl (.cons 1 _ _ _ _ _ (by decide) rfl Tryz.underlying9 rfl (.nil 2)))
theorem P9:iN Tryz.prog 148 [.bool,.str]:=iN.of Tryz.underlying148 (by kernel_rfl) (by kernel_rfl) (.cons 0 _ _ _ _ _ (by decide) rfl Tryz.underlying4 rfl (.cons 1 _ _ _ _ _ (by decide) rfl Tryz.underlying9 rfl (.nil 2)))
theorem P8:iN Tryz.prog 149 [.bool,.str]:=iN.of Tryz.underlying149 (by kernel_rfl) (by kernel_rfl) (.cons 0 _ _ _ _ _ (by decide) rfl Tryz.underlying4 rfl (.cons 1 _ _ _ _ _ (by decide) rfl Tryz.underlying9 rfl (.nil 2)))
theorem P7:iN Tryz.prog 153 [.str,.str]:=iN.of Tryz.underlying153 (by kernel_rfl) (by kernel_rfl) (.cons 0 _ _ _ _ _ (by decide) rfl Tryz.underlying9 rfl (.cons 1 _ _ _ _ _ (by decide) rfl Tryz.underlying9 rfl (.nil 2)))
theorem P6:iN Tryz.prog 154 [.str,.str]:=iN.of Tryz.underlying154 (by kernel_rfl) (by kernel_rfl) (.cons 0 _ _ _ _ _ (by decide) rfl Tryz.underlying9 rfl (.cons 1 _ _ _ _ _ (by decide) rfl Tryz.underlying9 rfl (.nil 2)))
theorem P5:iN Tryz.prog 213 [.int .i64,.int .i64]:=iN.of Tryz.underlying213 (by kernel_rfl) (by kernel_rfl) (.cons 0 _ _ _ _ _ (by decide) rfl Tryz.underlying25 rfl (.cons 1 _ _ _ _ _ (by decide) rfl Tryz.underlying3 rfl (.nil 2)))
theorem P4:iN Tryz.prog 214 [.int .i64,.int .i64]:=iN.of Tryz.underlying214 (by kernel_rfl) (by kernel_rfl) (.cons 0 _ _ _ _ _ (by decide) rfl Tryz.underlying25 rfl (.cons 1 _ _ _ _ _ (by decide) rfl Tryz.underlying3 rfl (.nil 2)))
theorem P3:iN Tryz.prog 219 [.int .i64,.int .i64,.str]:=iN.of Tryz.underlying219 (by kernel_rfl) (by kernel_rfl) (.cons 0 _ _ _ _ _ (by decide) rfl Tryz.underlying3 rfl (.cons 1 _ _ _ _ _ (by decide) rfl Tryz.underlying3 rfl (.cons 2 _ _ _ _ _ (by decide) rfl Tryz.underlying9 rfl (.nil 3))))
theorem PZ:iN Tryz.prog 220 [.int .i64,.int .i64,.str]:=iN.of Tryz.underlying220 (by kernel_rfl) (by kernel_rfl) (.cons 0 _ _ _ _ _ (by decide) rfl Tryz.underlying3 rfl (.cons 1 _ _ _ _ _ (by decide) rfl Tryz.underlying3 rfl (.cons 2 _ _ _ _ _ (by decide) rfl Tryz.underlying9 rfl (.nil 3))))
theorem PY:iN Tryz.prog 306 [.int .u8,.int .u8]:=iN.of Tryz.underlying306 (by kernel_rfl) (by kernel_rfl) (.cons 0 _ _ _ _ _ (by decide) rfl Tryz.underlying5 rfl (.cons 1 _ _ _ _ _ (by decide) rfl Tryz.underlying5 rfl (.nil 2)))
theorem PX:iN Tryz.prog 307 [.int .u8,.int .u8]:=iN.of Tryz.underlying307 (by kernel_rfl) (by kernel_rfl) (.cons 0 _ _ _ _ _ (by decide) rfl Tryz.underlying5 rfl (.cons 1 _ _ _ _ _ (by decide) rfl Tryz.underlying5 rfl (.nil 2)))
theorem PW:iN Tryz.prog 331 [.str]:=iN.of Tryz.underlying331 (by kernel_rfl) (by kernel_rfl) (.cons 0 _ _ _ _ _ (by decide) rfl Tryz.underlying9 rfl (.nil 1))
theorem PV:iN Tryz.prog 332 [.str]:=iN.of Tryz.underlying332 (by kernel_rfl) (by kernel_rfl) (.cons 0 _ _ _ _ _ (by decide) rfl Tryz.underlying9 rfl (.nil 1))
def QU:BT (List Kd):=(.node 213 (.node 148 (.node 45 (.node 8 (.leaf 7 [.int .i64,.int .i64,.bool,.int .u8]) (.leaf 8 [.int .i64,.int .i64,.bool,.int .u8])) (.node 46 (.leaf 45 [.bool,.str]) (.leaf 46 [.bool,.str]))) (.node 153 (.node 149 (.leaf 148 [.bool,.str]) (.leaf 149 [.bool,.str])) (.node 154 (.leaf 153 [.str,.str]) (.leaf 154 [.str,.str])))) (.node 306 (.node 219 (.node 214 (.leaf 213 [.int .i64,.int .i64]) (.leaf 214 [.int .i64,.int .i64])) (.node 220 (.leaf 219 [.int .i64,.int .i64,.str]) (.leaf 220 [.int .i64,.int .i64,.str]))) (.node 331 (.node 307 (.leaf 306 [.int .u8,.int .u8]) (.leaf 307 [.int .u8,.int .u8])) (.node 332 (.leaf 331 [.str]) (.leaf 332 [.str])))))
theorem Gw:QU.yA (iN Tryz.prog):=⟨⟨⟨⟨Xi,Xh⟩,⟨Su,St⟩⟩,⟨⟨P9,P8⟩,⟨P7,P6⟩⟩⟩,⟨⟨⟨P5,P4⟩,⟨P3,PZ⟩⟩,⟨⟨PY,PX⟩,⟨PW,PV⟩⟩⟩⟩
end Go.Proofs.YtlbbdpkjeeiahaaGreatDoor
end
section
namespace Go.AxS
open Go Go.Ax
theorem Bp:∀ s,slt s s = false
 | []=>rfl
 | a :: s=>by rw [wE]; simp [Bp s]
theorem Da:∀ s t u,slt s t = true -> slt t u = true -> slt s u = true
 | _,[],_,h,_=>by cases ‹List Nat› <;> simp [slt] at h
 | _,_ :: _,[],_,h=>by simp [slt] at h
 | [],b :: t,c :: u,_,_=>rfl
 | a :: s,b :: t,c :: u,h1,h2=>by
  rw [wE] at h1 h2 ⊢
  simp only [Bool.or_eq_true,Bool.and_eq_true,decide_eq_true_eq] at h1 h2 ⊢
  rcases h1 with h1 | ⟨rfl,h1⟩
  ·rcases h2 with h2 | ⟨rfl,h2⟩
   ·exact .inl (by omega)
   ·exact .inl h1
  ·rcases h2 with h2 | ⟨rfl,h2⟩
   ·exact .inl h2
   ·exact .inr ⟨rfl,Da s t u h1 h2⟩
theorem Db:∀ s t,slt s t = false -> slt t s = false -> s = t
 | [],[],_,_=>rfl
 | [],_ :: _,h,_=>by simp [slt] at h
 | _ :: _,[],_,h=>by simp [slt] at h
 | a :: s,b :: t,h1,h2=>by
  rw [wE] at h1 h2
  simp only [Bool.or_eq_false_iff,Bool.and_eq_false_iff,decide_eq_false_iff_not] at h1 h2
  have e:a = b:=by omega
  subst e
  rw [Db s t (h1.2.resolve_left (fun h=>h rfl)) (h2.2.resolve_left (fun h=>h rfl))]
theorem kI:∀ s t:List Nat,Ax.seq s t = true ↔ s = t
 | [],[]=>by simp [Ax.seq]
 | [],_ :: _=>by simp [Ax.seq]
 | _ :: _,[]=>by simp [Ax.seq]
 | a :: s,b :: t=>by rw [Bt]; simp [kI s t]
theorem Eh (s t:List Nat):Ax.seq s t = decide (s = t):=by
 rw [Bool.eq_iff_iff,kI]; simp
abbrev a_:=Bool × List Nat
def row (x:a_):List V:=[.bool x.1,.str x.2]
def lt (x y:a_):Bool:=match x.1,y.1 with
 | false,true=>true
 | true,false=>false
 | _,_=>slt x.2 y.2
theorem lt_irrefl (x:a_):lt x x = false:=by
 obtain ⟨a,s⟩:=x
 cases a <;> exact Bp s
theorem lt_trans (x y z:a_) (h1:lt x y = true) (h2:lt y z = true):lt x z = true:=by
 obtain ⟨a,s⟩:=x; obtain ⟨b,t⟩:=y; obtain ⟨c,u⟩:=z
 cases a <;> cases b <;> cases c <;> simp only [lt] at h1 h2 ⊢ <;> first | exact Da _ _ _ h1 h2 | rfl | exact absurd h1 Bool.false_ne_true | exact absurd h2 Bool.false_ne_true
theorem MQ (x y:a_) (h1:lt x y = false) (h2:lt y x = false):x = y:=by
 obtain ⟨a,s⟩:=x; obtain ⟨b,t⟩:=y
 cases a <;> cases b <;> simp only [lt] at h1 h2 <;> first | rw [Db _ _ h1 h2] | exact absurd h1.symm Bool.false_ne_true | exact absurd h2.symm Bool.false_ne_true
theorem lt_asymm {x y:a_} (h:lt x y = true):lt y x = false:=by
 cases hy:lt y x with
 | false=>rfl
 | true=>have:=lt_trans _ _ _ h hy; rw [lt_irrefl] at this; cases this
def Up (l:List a_):Prop:=l.Pairwise fun x y=>lt x y = true
theorem D8:∀ {l m:List a_},Up l -> Up m -> (∀ x,x ∈ l ↔ x ∈ m) -> l = m
 | [],[],_,_,_=>rfl
 | [],y :: m,_,_,h=>by have:=(h y).2 (mem_cons_self ..); cases this
 | x :: l,[],_,_,h=>by have:=(h x).1 (mem_cons_self ..); cases this
 | x :: l,y :: m,h1,h2,h=>by
  rw [Up,pairwise_cons] at h1 h2
  have e:x = y:=by
   rcases mem_cons.1 ((h x).1 (mem_cons_self ..)) with e | hx
   ·exact e
   rcases mem_cons.1 ((h y).2 (mem_cons_self ..)) with e | hy
   ·exact e.symm
   have:=lt_asymm (h1.1 y hy)
   rw [h2.1 x hx] at this; cases this
  subst e
  rw [D8 h1.2 h2.2 fun z=>⟨fun hz=>?_,fun hz=>?_⟩]
  ·rcases mem_cons.1 ((h z).1 (List.mem_cons_of_mem _ hz)) with rfl | hz'
   ·have:=h1.1 z hz; rw [lt_irrefl] at this; cases this
   ·exact hz'
  ·rcases mem_cons.1 ((h z).2 (List.mem_cons_of_mem _ hz)) with rfl | hz'
   ·have:=h2.1 z hz; rw [lt_irrefl] at this; cases this
   ·exact hz'
theorem Up.nodup {l:List a_} (h:Up l):l.Nodup:=h.imp fun hxy e=>by
 subst e; rw [lt_irrefl] at hxy; cases hxy
def put:List a_ -> a_ -> List a_
 | [],x=>[x]
 | y :: r,x=>if lt y x = true then y :: put r x else if y = x then y :: r else x :: y :: r
theorem Ep {x z:a_}:∀ {l:List a_},z ∈ put l x ↔ z ∈ l \/ z = x
 | []=>by simp [put]
 | y :: r=>by
  simp only [put]
  split
  ·rw [mem_cons,Ep,mem_cons,or_assoc]
  ·split
   ·rename_i e; subst e
    simp only [mem_cons]
    constructor
    ·intro h; exact .inl h
    ·rintro (h | rfl)
     ·exact h
     ·exact .inl rfl
   ·simp only [mem_cons]
    constructor
    ·rintro (rfl | h)
     ·exact .inr rfl
     ·exact .inl h
    ·rintro (h | rfl)
     ·exact .inr h
     ·exact .inl rfl
theorem Mq {x:a_}:∀ {l:List a_},Up l -> Up (put l x)
 | [],_=>by simp [put,Up]
 | y :: r,h=>by
  have h0:=h
  rw [Up,pairwise_cons] at h
  simp only [put]
  split
  ·rename_i hyx
   refine pairwise_cons.2 ⟨fun z hz=>?_,Mq h.2⟩
   rcases Ep.1 hz with hz | rfl
   ·exact h.1 z hz
   ·exact hyx
  ·rename_i hyx
   split
   ·exact h0
   ·rename_i hne
    have hxy:lt x y = true:=by
     cases hc:lt x y with
     | true=>rfl
     | false=>exact absurd (MQ _ _ (by simpa using hyx) hc) hne
    refine pairwise_cons.2 ⟨fun z hz=>?_,h0⟩
    rcases mem_cons.1 hz with rfl | hz
    ·exact hxy
    ·exact lt_trans _ _ _ hxy (h.1 z hz)
def setOf (l:List a_):List a_:=l.foldl put []
theorem xH:∀ (l acc:List a_),Up acc -> Up (l.foldl put acc)
 | [],_,h=>h
 | _ :: l,_,h=>xH l _ (Mq h)
theorem uO {z:a_}:∀ (l acc:List a_),z ∈ l.foldl put acc ↔ z ∈ acc \/ z ∈ l
 | [],acc=>by simp
 | x :: l,acc=>by
  rw [List.foldl_cons,uO l,Ep,mem_cons,or_assoc]
theorem pQ (l:List a_):Up (setOf l):=xH l [] List.Pairwise.nil
theorem nP {l:List a_} {z:a_}:z ∈ setOf l ↔ z ∈ l:=by
 rw [setOf,uO]; simp
theorem Fs {l m:List a_} (h:∀ x,x ∈ l ↔ x ∈ m):setOf l = setOf m:=D8 (pQ l) (pQ m) fun x=>by rw [nP,nP,h]
def jJ (l:List a_) (x:a_):List a_:=if x ∈ l then l else l ++ [x]
def keys (l:List a_) (xs:List a_):List a_:=xs.foldl jJ l
theorem Dw {l:List a_} {x z:a_}:z ∈ jJ l x ↔ z ∈ l \/ z = x:=by
 unfold jJ
 split
 ·rename_i h
  constructor
  ·exact .inl
  ·rintro (h' | rfl)
   ·exact h'
   ·exact h
 ·simp
theorem F9 {l:List a_} {x:a_} (h:l.Nodup):(jJ l x).Nodup:=by
 unfold jJ
 split
 ·exact h
 ·rename_i hx
  rw [List.nodup_append]
  refine ⟨h,by simp,?_⟩
  intro a ha b hb e
  rw [List.mem_singleton] at hb
  subst hb; subst e
  exact hx ha
theorem mem_keys {z:a_}:∀ {xs l:List a_},z ∈ keys l xs ↔ z ∈ l \/ z ∈ xs
 | [],l=>by simp [keys]
 | x :: xs,l=>by
  show z ∈ keys (jJ l x) xs ↔ _
  rw [mem_keys,Dw,mem_cons,or_assoc]
theorem oW:∀ {xs l:List a_},(keys l xs).length <= l.length + xs.length
 | [],l=>by simp [keys]
 | x :: xs,l=>by
  show (keys (jJ l x) xs).length <= _
  have:=oW (xs:=xs) (l:=jJ l x)
  have h2:(jJ l x).length <= l.length + 1:=by unfold jJ; split <;> simp
  simp only [List.length_cons]
  omega
end Go.AxS
end
section
namespace Go.AxS
open Go
abbrev aM:=List Nat
structure Step where
 out:aM
 op:Int
 args:List aM
 lits:List aM
 n:Int
structure aF where
 name:aM
 ins:List aM
 outs:List aM
 after:List aM
 steps:List Step
def sign (c:Nat):Bool:=(decide (97 <= c) && decide (c <= 122)) || ((decide (65 <= c) && decide (c <= 90)) || ((decide (48 <= c) && decide (c <= 57)) || (decide (c = 46) || (decide (c = 95) || decide (c = 45)))))
def qT (p:aM):Bool:=!(decide (p = []) || decide (p = [46]) || decide (p = [46,46])) && p.all sign
def nW (s:aM):Bool:=decide (s = [114,117,108,101]) || (decide (s = [105,110]) || (decide (s = [111,117,116]) || decide (s = [97,102,116,101,114])))
def bL (s:aM):Bool:=!nW s && decide (s.length <= 40) && (Ax.cE 47 s).all qT
def counts (op:Int):Nat × Nat × Nat:=if op = 5 then (0,6,0) else if op = 6 then (0,0,1) else if op = 7 then (1,1,1) else if op = 8 then (1,1,2) else (1,1,0)
def bZ (s:Step):Bool:=decide (1 <= s.op /\ s.op <= 9) && decide ((counts s.op).1 <= s.args.length /\ s.args.length <= (counts s.op).2.1) && decide (s.lits.length = (counts s.op).2.2) && s.lits.all (fun l=>decide (l.length <= 100))
 && decide (s.op = 8 -> s.lits.head? ≠ some []) && decide (0 <= s.n /\ s.n <= 2000) && decide (s.op = 9 \/ s.n = 0)
def kD:List aM -> Bool
 | []=>false
 | s :: l=>decide (s ∈ l) || kD l
def kA (r:aF):Bool:=bL r.name && decide (r.outs ≠ []) && r.ins.all bL && r.outs.all bL && r.after.all bL && r.steps.all fun s=>bL s.out && s.args.all bL && bZ s
def long (r:aF):Bool:=decide (8 < r.ins.length) || decide (4 < r.outs.length) || decide (8 < r.after.length) || decide (12 < r.steps.length)
def gT:List aM -> List Step -> Bool
 | _,[]=>true
 | known,s :: l=>!decide (s.out ∈ known) && s.args.all (fun a=>decide (a ∈ known)) && gT (known ++ [s.out]) l
def e_ (r:aF):Bool:=!kD r.ins && !kD r.outs && !kD r.after && !decide (r.name ∈ r.after) && r.outs.all (fun o=>!decide (o ∈ r.ins)) && gT r.ins r.steps && r.outs.all fun o=>decide (o ∈ r.ins ++ r.steps.map Step.out)
def aY (r:aF):Int:=if kA r = false then 1 else if long r = true then 4 else if e_ r = false then 2 else 0
def bF {α:Type} (p:α -> Bool):List α -> Option Nat
 | []=>none
 | x :: l=>if p x = true then some 0 else (bF p l).map (· + 1)
def fA (rs:List aF) (f:aM):Option Nat:=bF (fun r=>decide (f ∈ r.outs)) rs
def fF (rs:List aF) (n:aM):Option Nat:=bF (fun r=>decide (r.name = n)) rs
def wZ (rs:List aF) (data:Bool) (r:aF) (k:Nat):Bool:=r.ins.any (fun f=>decide (fA rs f = some k)) || (!data && r.after.any fun n=>decide (fF rs n = some k))
def fS (rs:List aF) (data:Bool) (i k:Nat):Bool:=match rs[i]? with
 | some r=>wZ rs data r k
 | none=>false
inductive Way (m:Nat -> Nat -> Bool):Nat -> Nat -> Prop
 | one {i k}:m i k = true -> Way m i k
 | cons {i j k}:m i j = true -> Way m j k -> Way m i k
theorem Way.trans {m:Nat -> Nat -> Bool} {i j k:Nat} (h:Way m i j) (g:Way m j k):Way m i k:=by
 induction h with
 | one h=>exact .cons h g
 | cons h _ ih=>exact .cons h (ih g)
def nK (rs:List aF) (i:Nat):Bool:=match rs[i]? with
 | some r=>(rs.take i).any fun q=>decide (q.name = r.name) || r.outs.any fun o=>decide (o ∈ q.outs)
 | none=>false
def rN (rs:List aF):Bool:=(List.range rs.length).any (nK rs)
def f_ (rs:List aF):Bool:=rs.any fun r=>r.after.any fun n=>decide (fF rs n = none)
def fW (rs:List aF):Int:=match rs.find? fun r=>decide (aY r ≠ 0) with
 | some r=>aY r
 | none=>if 40 < rs.length then 4 else if rN rs = true then 2 else if f_ rs = true then 2 else 0
def Ring (rs:List aF):Prop:=∃ i,i < rs.length /\ Way (fS rs false) i i
def GW (rs:List aF) (e:Int):Prop:=(fW rs ≠ 0 /\ e = fW rs) \/ (fW rs = 0 /\ ((Ring rs /\ e = 3) \/ (¬ Ring rs /\ e = 0)))
def eU (rs:List aF):Prop:=fW rs = 0 /\ ¬ Ring rs
theorem GW.zero {rs:List aF} {e:Int} (h:GW rs e):e = 0 ↔ eU rs:=by
 unfold eU
 rcases h with ⟨h1,h2⟩ | ⟨h1,⟨h2,h3⟩ | ⟨h2,h3⟩⟩
 ·exact ⟨fun g=>absurd (h2.symm.trans g) h1,fun g=>absurd g.1 h1⟩
 ·exact ⟨fun g=>by omega,fun g=>absurd h2 g.2⟩
 ·exact ⟨fun _=>⟨h1,h2⟩,fun _=>h3⟩
end Go.AxS
end
section
namespace Go.Ax
theorem BF {α:Type} [DecidableEq α]:∀ {a b:List α},a.Nodup -> (∀ x ∈ a,x ∈ b) -> a.length <= b.length
 | [],b,_,_=>Nat.zero_le _
 | x :: a,b,hn,h=>by
  obtain ⟨hx,ha⟩:=List.nodup_cons.1 hn
  have hm:x ∈ b:=h x (mem_cons_self ..)
  have:=BF (b:=b.erase x) ha fun y hy=>by
   have hne:y ≠ x:=fun e=>hx (e ▸ hy)
   exact (List.mem_erase_of_ne hne).2 (h y (List.mem_cons_of_mem _ hy))
  rw [List.length_erase_of_mem hm] at this
  have:0 < b.length:=List.length_pos_of_mem hm
  rw [List.length_cons]; omega
end Go.Ax
namespace Go.AxS
open Go
def wk (m:Nat -> Nat -> Bool):Nat -> Nat -> Nat -> Bool
 | 0,i,j=>m i j
 | k + 1,i,j=>wk m k i j || (wk m k i k && wk m k k j)
theorem Ls {m:Nat -> Nat -> Bool} (k j:Nat):wk m (k + 1) k j = wk m k k j:=by
 rw [wk]; cases wk m k k j <;> simp
theorem Lt {m:Nat -> Nat -> Bool} (k i:Nat):wk m (k + 1) i k = wk m k i k:=by
 rw [wk]; cases wk m k i k <;> simp
theorem D6 {m : Nat -> Nat -> Bool} {i j : Nat} : ∀ {k l : Nat}, k <= l -> wk m k i j = true -> wk m l i j = true
  | k, 0, h, e => by obtain rfl : k = 0 := by omega
                     exact e
  | k, l + 1, h, e => by
    rcases Nat.lt_or_ge l k with g | g
    · obtain rfl : k = l + 1 := by omega
      exact e
    · rw [wk, D6 g e]; rfl
theorem vY {m:Nat -> Nat -> Bool}:∀ (k i j l:Nat),j < k -> wk m k i j = true -> wk m k j l = true -> wk m k i l = true
 | 0,_,_,_,h,_,_=>absurd h (by omega)
 | k + 1,i,j,l,h,a,b=>by
  by_cases hj:j = k
  ·subst hj
   rw [Lt] at a
   rw [Ls] at b
   rw [wk,a,b]; simp
  ·have hj:j < k:=by omega
   rw [wk,Bool.or_eq_true,Bool.and_eq_true] at a b ⊢
   rcases a with a | ⟨a1,a2⟩ <;> rcases b with b | ⟨b1,b2⟩
   ·exact .inl (vY k i j l hj a b)
   ·exact .inr ⟨vY k i j k hj a b1,b2⟩
   ·exact .inr ⟨a1,vY k k j l hj a2 b⟩
   ·exact .inr ⟨a1,b2⟩
theorem A9 {m:Nat -> Nat -> Bool}:∀ {k i j:Nat},wk m k i j = true -> Way m i j
 | 0,_,_,h=>.one h
 | k + 1,i,j,h=>by
  rw [wk,Bool.or_eq_true,Bool.and_eq_true] at h
  rcases h with h | ⟨h1,h2⟩
  ·exact A9 h
  ·exact (A9 h1).trans (A9 h2)
theorem Rb {m:Nat -> Nat -> Bool} {n:Nat} (hm:∀ i j,m i j = true -> i < n /\ j < n) {i j:Nat} (h:Way m i j):wk m n i j = true:=by
 induction h with
 | one h=>exact D6 (Nat.zero_le n) h
 | cons h _ ih=>exact vY n _ _ _ (hm _ _ h).2 (D6 (Nat.zero_le n) h) ih
theorem Way.step {m:Nat -> Nat -> Bool} {i j:Nat} (h:Way m i j):∃ k,m i k = true /\ (k = j \/ Way m k j):=by
 cases h with
 | one h=>exact ⟨_,h,.inl rfl⟩
 | cons h g=>exact ⟨_,h,.inr g⟩
def eB (bO:List Int) (i:Nat):Int:=(bO[i]?).getD (-1)
theorem lJ {bO:List Int} {i j:Nat} {d:Int} (hi:i < bO.length):eB (bO.set i d) j = if j = i then d else eB bO j:=by
 unfold eB
 by_cases h:j = i
 ·subst h
  rw [if_pos rfl,List.getElem?_set_self hi]; rfl
 ·rw [if_neg h,List.getElem?_set_ne (fun e=>h e.symm)]
structure lS (m:Nat -> Nat -> Bool) (n first d i k:Nat) (bO:List Int):Prop where
 len:bO.length = n
 J9:∀ j,j < n -> eB bO j = -1 \/ (0 <= eB bO j /\ eB bO j <= (d:Int) /\ (i < j -> eB bO j < (d:Int)))
 zero:∀ j,j < n -> (eB bO j = 0 ↔ j = first)
 down:∀ j (e:Nat),j < n -> eB bO j = (e:Int) + 1 -> ∃ l,l < n /\ m j l = true /\ eB bO l = (e:Int)
 old:∀ j l,j < n -> l < n -> m j l = true -> 0 <= eB bO l -> eB bO l + 1 < (d:Int) -> 0 <= eB bO j
 now:∀ j l,j < i -> j < n -> l < n -> m j l = true -> eB bO l + 1 = (d:Int) -> 0 <= eB bO j
 row:∀ l,l < k -> i < n -> l < n -> m i l = true -> eB bO l + 1 = (d:Int) -> 0 <= eB bO i
theorem lS.init {m:Nat -> Nat -> Bool} {n first:Nat} (hf:first < n):lS m n first 1 0 0 ((List.replicate n (-1)).set first 0):=by
 have hl:first < (List.replicate n (-1:Int)).length:=by simpa using hf
 have hg:∀ j,j < n -> eB ((List.replicate n (-1)).set first 0) j = if j = first then 0 else -1:=fun j hj=>by
  rw [lJ hl]
  split
  ·rfl
  ·unfold eB; simp [hj]
 refine ⟨by simp,fun j hj=>?_,fun j hj=>?_,fun j e hj h=>?_,fun j l hj hl hm h1 h2=>?_,fun j l hj=>?_,fun l hl=>?_⟩
 ·rw [hg j hj]; split
  ·exact .inr ⟨by omega,by omega,fun _=>by omega⟩
  ·exact .inl rfl
 ·rw [hg j hj]; split
  ·rename_i h; exact ⟨fun _=>h,fun _=>rfl⟩
  ·rename_i h; exact ⟨fun g=>absurd g (by omega),fun g=>absurd g h⟩
 ·rw [hg j hj] at h; split at h <;> omega
 ·omega
 ·omega
 ·omega
theorem lS.skip {m:Nat -> Nat -> Bool} {n first d i k:Nat} {bO:List Int} (h:lS m n first d i k bO) (hne:¬ (m i k = true /\ eB bO k = (d:Int) - 1)):lS m n first d i (k + 1) bO:=by
 refine ⟨h.len,h.J9,h.zero,h.down,h.old,h.now,fun l hl hi hln hm e=>?_⟩
 rcases Nat.lt_or_ge l k with g | g
 ·exact h.row l g hi hln hm e
 ·obtain rfl:l = k:=by omega
  exact absurd ⟨hm,by omega⟩ hne
theorem lS.put {m:Nat -> Nat -> Bool} {n first d i k:Nat} {bO:List Int} (h:lS m n first d i k bO) (hi:i < n) (hk:k < n) (hd:1 <= d) (hf:eB bO i < 0) (hm:m i k = true) (he:eB bO k = (d:Int) - 1) :
  lS m n first d i (k + 1) (bO.set i (d:Int)):=by
 have hl:i < bO.length:=by rw [h.len]; exact hi
 have hi1:eB bO i = -1:=by rcases h.J9 i hi with g | ⟨g,_⟩ <;> omega
 have hki:k ≠ i:=fun e=>by subst e; omega
 refine ⟨by rw [List.length_set]; exact h.len,fun j hj=>?_,fun j hj=>?_,fun j e hj g=>?_,fun j l hj hl2 hm2 h1 h2=>?_,fun j l hji hj hl2 hm2 h1=>?_,fun l hlk hi2 hl2 hm2 h1=>?_⟩
 ·rw [lJ hl]; split
  ·rename_i e; subst e; exact .inr ⟨by omega,by omega,fun g=>by omega⟩
  ·exact h.J9 j hj
 ·rw [lJ hl]; split
  ·rename_i e; subst e
   constructor
   ·intro g; omega
   ·intro g; have:=(h.zero j hj).2 g; omega
  ·exact h.zero j hj
 ·rw [lJ hl] at g; split at g
  ·rename_i e2; subst e2
   exact ⟨k,hk,hm,by rw [lJ hl,if_neg hki]; omega⟩
  ·obtain ⟨l,h1,h2,h3⟩:=h.down j e hj g
   refine ⟨l,h1,h2,?_⟩
   rw [lJ hl,if_neg]
   ·exact h3
   ·intro e2; subst e2; omega
 ·rw [lJ hl] at h1 h2 ⊢
  split
  ·omega
  ·split at h1
   ·rename_i e2; rw [if_pos e2] at h2; omega
   ·rename_i e2; rw [if_neg e2] at h2; exact h.old j l hj hl2 hm2 h1 h2
 ·rw [lJ hl] at h1 ⊢
  split
  ·omega
  ·split at h1
   ·omega
   ·exact h.now j l hji hj hl2 hm2 h1
 ·rw [lJ hl,if_pos rfl]; omega
theorem lS.next {m:Nat -> Nat -> Bool} {n first d i k:Nat} {bO:List Int} (h:lS m n first d i k bO) (hk:k = n \/ 0 <= eB bO i) (hi:i < n):lS m n first d (i + 1) 0 bO:=by
 refine ⟨h.len,fun j hj=>?_,h.zero,h.down,h.old,fun j l hj hjn hl hm e=>?_,fun l hl=>by omega⟩
 ·rcases h.J9 j hj with g | ⟨g1,g2,g3⟩
  ·exact .inl g
  ·exact .inr ⟨g1,g2,fun g=>g3 (by omega)⟩
 ·rcases Nat.lt_or_ge j i with g | g
  ·exact h.now j l g hjn hl hm e
  ·obtain rfl:j = i:=by omega
   rcases hk with rfl | hk
   ·exact h.row l hl hjn hl hm e
   ·exact hk
theorem lS.round {m:Nat -> Nat -> Bool} {n first d:Nat} {bO:List Int} (h:lS m n first d n 0 bO):lS m n first (d + 1) 0 0 bO:=by
 refine ⟨h.len,fun j hj=>?_,h.zero,h.down,fun j l hj hl hm h1 h2=>?_,fun j l hj=>by omega,fun l hl=>by omega⟩
 ·rcases h.J9 j hj with g | ⟨g1,g2,_⟩
  ·exact .inl g
  ·exact .inr ⟨g1,by omega,fun _=>by omega⟩
 ·rcases Nat.lt_or_ge ((eB bO l + 1).toNat) d with g | g
  ·exact h.old j l hj hl hm h1 (by omega)
  ·exact h.now j l hj hj hl hm (by omega)
theorem lS.small {m:Nat -> Nat -> Bool} {n first d:Nat} {bO:List Int} (h:lS m n first d 0 0 bO) {j:Nat} (hj:j < n):eB bO j < (n:Int):=by
 have chain:∀ (e:Nat) (j:Nat),j < n -> eB bO j = (e:Int) -> ∃ l:List Nat,l.length = e + 1 /\ l.Nodup /\ ∀ x ∈ l,x < n /\ 0 <= eB bO x /\ eB bO x <= (e:Int):=by
  intro e
  induction e with
  | zero=>intro j hj he; exact ⟨[j],rfl,by simp,fun x hx=>by simp at hx; subst hx; exact ⟨hj,by omega,by omega⟩⟩
  | succ e ih=>
   intro j hj he
   obtain ⟨k,hk,_,hk2⟩:=h.down j e hj (by omega)
   obtain ⟨l,h1,h2,h3⟩:=ih k hk hk2
   refine ⟨j :: l,by simp [h1],List.nodup_cons.2 ⟨fun hm=>?_,h2⟩,fun x hx=>?_⟩
   ·have:=(h3 j hm).2.2; omega
   ·rcases mem_cons.1 hx with rfl | hx
    ·exact ⟨hj,by omega,by omega⟩
    ·obtain ⟨a,b,c⟩:=h3 x hx; exact ⟨a,b,by omega⟩
 rcases h.J9 j hj with g | ⟨g,_⟩
 ·omega
 ·obtain ⟨l,h1,h2,h3⟩:=chain (eB bO j).toNat j hj (by omega)
  have:l.length <= (List.range n).length:=Ax.BF h2 fun x hx=>List.mem_range.2 (h3 x hx).1
  rw [List.length_range] at this
  omega
theorem lS.closed {m:Nat -> Nat -> Bool} {n first:Nat} {bO:List Int} (h:lS m n first (n + 1) 0 0 bO) {j l:Nat} (hj:j < n) (hl:l < n) (hm:m j l = true) (hf:0 <= eB bO l):0 <= eB bO j:=
 h.old j l hj hl hm hf (by have:=h.small hl; omega)
theorem lS.way {m:Nat -> Nat -> Bool} {n first:Nat} {bO:List Int} (hmn:∀ i j,m i j = true -> i < n /\ j < n) (h:lS m n first (n + 1) 0 0 bO) (hf:first < n) {j:Nat} (hw:Way m j first):0 <= eB bO j:=by
 have h0:eB bO first = 0:=(h.zero first hf).2 rfl
 have:∀ i j,Way m i j -> j = first -> 0 <= eB bO i:=by
  intro i j hw
  induction hw with
  | one g=>intro e; subst e; exact h.closed (hmn _ _ g).1 hf g (by omega)
  | cons g _ ih=>intro e; exact h.closed (hmn _ _ g).1 (hmn _ _ g).2 g (ih e)
 exact this j first hw rfl
theorem lS.first {m:Nat -> Nat -> Bool} {n first:Nat} {bO:List Int} (hmn:∀ i j,m i j = true -> i < n /\ j < n) (h:lS m n first (n + 1) 0 0 bO) (hf:first < n) (hw:Way m first first):∃ k,k < n /\ m first k = true /\ 0 <= eB bO k:=by
 obtain ⟨k,hk,e | g⟩:=hw.step
 ·subst e; exact ⟨k,hf,hk,by rw [(h.zero k hf).2 rfl]; omega⟩
 ·exact ⟨k,(hmn _ _ hk).2,hk,h.way hmn hf g⟩
end Go.AxS
end
section
namespace Go.Ax
open Go
def oF (t:Nat):List V -> Sg -> Option (V × Sg)
 | [.aC],Z=>some (.fN [],Z)
 | [.sl b 0 len _],Z=>match Z[b]? with
  | some (.cells u cs ex)=>match Nat.beq u t,Nat.beq len cs.length,allRows jZ (cs.map fun v=>[v]),Nat.ble len 1000000 with
   | true,true,true,true=>some (.fN [],Z.set b (.cells u (lV strLt (cs.map fun v=>[v])).flatten ex))
   | _,_,_,_=>none
  | _=>none
 | _,_=>none
end Go.Ax
end
section
namespace Go.Proofs.YtlbbdpkjeeiahaaGreatDoor
open Go Go.Ax
def O2:BT Ax.Mode:=(.node 208 (.node 129 (.node 96 (.node 73 (.node 50 (.node 44 (.leaf 43 Ax.Mode.move) (.leaf 44 Ax.Mode.shared)) (.node 64 (.leaf 50 Ax.Mode.shared) (.node 71 (.leaf 64 Ax.Mode.shared) (.leaf 71 Ax.Mode.shared)))) (.node 85 (.node 78 (.leaf 73 Ax.Mode.shared) (.leaf 78 Ax.Mode.shared)) (.node 88 (.leaf 85 Ax.Mode.shared) (.node 95 (.leaf 88 Ax.Mode.shared) (.leaf 95 Ax.Mode.shared))))) (.node 110 (.node 100 (.node 97 (.leaf 96 Ax.Mode.shared) (.leaf 97 Ax.Mode.shared)) (.node 103 (.leaf 100 Ax.Mode.shared) (.node 104 (.leaf 103 Ax.Mode.shared) (.leaf 104 Ax.Mode.shared)))) (.node 113 (.node 111 (.leaf 110 Ax.Mode.shared) (.leaf 111 Ax.Mode.shared)) (.node 116 (.leaf 113 Ax.Mode.shared) (.node 128 (.leaf 116 Ax.Mode.shared) (.leaf 128 Ax.Mode.shared)))))) (.node 157 (.node 151 (.node 140 (.node 138 (.leaf 129 Ax.Mode.shared) (.leaf 138 Ax.Mode.shared)) (.node 149 (.leaf 140 Ax.Mode.shared) (.node 150 (.leaf 149 Ax.Mode.shared) (.leaf 150 Ax.Mode.shared)))) (.node 153 (.node 152 (.leaf 151 Ax.Mode.shared) (.leaf 152 Ax.Mode.shared)) (.node 154 (.leaf 153 Ax.Mode.shared) (.node 156 (.leaf 154 Ax.Mode.shared) (.leaf 156 Ax.Mode.shared))))) (.node 180 (.node 162 (.node 161 (.leaf 157 Ax.Mode.shared) (.leaf 161 Ax.Mode.shared)) (.node 174 (.leaf 162 Ax.Mode.shared) (.node 179 (.leaf 174 Ax.Mode.shared) (.leaf 179 Ax.Mode.shared)))) (.node 183 (.node 182 (.leaf 180 Ax.Mode.shared) (.leaf 182 Ax.Mode.shared)) (.node 184 (.leaf 183 Ax.Mode.shared) (.node 207 (.leaf 184 Ax.Mode.shared) (.leaf 207 Ax.Mode.shared))))))) (.node 258 (.node 228 (.node 213 (.node 210 (.node 209 (.leaf 208 Ax.Mode.shared) (.leaf 209 Ax.Mode.shared)) (.node 211 (.leaf 210 Ax.Mode.shared) (.node 212 (.leaf 211 Ax.Mode.shared) (.leaf 212 Ax.Mode.shared)))) (.node 215 (.node 214 (.leaf 213 Ax.Mode.shared) (.leaf 214 Ax.Mode.shared)) (.node 217 (.leaf 215 Ax.Mode.shared) (.node 227 (.leaf 217 Ax.Mode.shared) (.leaf 227 Ax.Mode.shared))))) (.node 245 (.node 242 (.node 235 (.leaf 228 Ax.Mode.shared) (.leaf 235 Ax.Mode.shared)) (.node 243 (.leaf 242 Ax.Mode.shared) (.node 244 (.leaf 243 Ax.Mode.shared) (.leaf 244 Ax.Mode.shared)))) (.node 247 (.node 246 (.leaf 245 Ax.Mode.shared) (.leaf 246 Ax.Mode.shared)) (.node 249 (.leaf 247 Ax.Mode.shared) (.node 257 (.leaf 249 Ax.Mode.shared) (.leaf 257 Ax.Mode.shared)))))) (.node 291 (.node 278 (.node 260 (.node 259 (.leaf 258 Ax.Mode.shared) (.leaf 259 Ax.Mode.shared)) (.node 261 (.leaf 260 Ax.Mode.shared) (.node 262 (.leaf 261 Ax.Mode.shared) (.leaf 262 Ax.Mode.shared)))) (.node 284 (.node 283 (.leaf 278 Ax.Mode.shared) (.leaf 283 Ax.Mode.shared)) (.node 286 (.leaf 284 Ax.Mode.shared) (.node 290 (.leaf 286 Ax.Mode.shared) (.leaf 290 Ax.Mode.shared))))) (.node 299 (.node 293 (.node 292 (.leaf 291 Ax.Mode.shared) (.leaf 292 Ax.Mode.shared)) (.node 294 (.leaf 293 Ax.Mode.shared) (.node 298 (.leaf 294 Ax.Mode.shared) (.leaf 298 Ax.Mode.shared)))) (.node 314 (.node 300 (.leaf 299 Ax.Mode.shared) (.node 310 (.leaf 300 Ax.Mode.shared) (.leaf 310 Ax.Mode.shared))) (.node 315 (.leaf 314 Ax.Mode.shared) (.node 326 (.leaf 315 Ax.Mode.shared) (.leaf 326 Ax.Mode.shared))))))))
def Na:BT (List V -> Sg -> Option (V × Sg)):=(.node 136 (.node 87 (.leaf 64 (oF 9)) (.node 99 (.leaf 87 (oE 46 [129] [] 89)) (.leaf 99 (rF 9 [138,314] [247])))) (.node 305 (.leaf 136 Jt) (.node 307 (.leaf 305 AX) (.leaf 307 (Js 5)))))
noncomputable def ground:Ax.Ground Tryz.prog:={ ty:=LA,fn:=Jz,mode:=O2,hspec:=Na,eqs:=QU,gl:=DD,CF:=fun t=>Nat.beq t 260 }
noncomputable def sp0:BT (List V -> Option V):=(.node 254 (.node 171 (.leaf 148 nS) (.leaf 171 kT)) (.node 295 (.leaf 254 kE) (.leaf 295 wC)))
def EX:List V:=[.str [122],.int .i64 5,.bQ false [[.str [121]]] true,.aC,.int .i64 0]
def G1:List (List V):=[EX]
def Ln:List V:=[.str [99],.bQ false [[.str [121]]] true,.bQ false [[.str [122]]] true,.bQ false [[.str [97]]] true,.bQ false G1 true]
def q19:List V:=[.str [120],.int .i64 5,.bQ false [[.str [115]]] true,.aC,.int .i64 0]
def q20:List (List V):=[q19]
def q21:List V:=[.str [97],.bQ false [[.str [115]]] true,.bQ false [[.str [120]]] true,.aC,.bQ false q20 true]
def q23:List V:=[.str [121],.int .i64 5,.bQ false [[.str [120]]] true,.aC,.int .i64 0]
def q24:List (List V):=[q23]
def q25:List V:=[.str [98],.bQ false [[.str [120]]] true,.bQ false [[.str [121]]] true,.aC,.bQ false q24 true]
def G0:List (List V):=[Ln,q21,q25]
def Uz:List V:=[.str [122],.int .i64 5,.bQ false [[.str [121]]] false,.aC,.int .i64 0]
def Uy:List (List V):=[Uz]
def q29:List V:=[.str [99],.bQ false [[.str [121]]] false,.bQ false [[.str [122]]] false,.bQ false [[.str [97]]] false,.bQ false Uy false]
def q30:List V:=[.str [120],.int .i64 5,.bQ false [[.str [115]]] false,.aC,.int .i64 0]
def q31:List (List V):=[q30]
def q32:List V:=[.str [97],.bQ false [[.str [115]]] false,.bQ false [[.str [120]]] false,.aC,.bQ false q31 false]
def q33:List V:=[.str [121],.int .i64 5,.bQ false [[.str [120]]] false,.aC,.int .i64 0]
def q34:List (List V):=[q33]
def q35:List V:=[.str [98],.bQ false [[.str [120]]] false,.bQ false [[.str [121]]] false,.aC,.bQ false q34 false]
def q36:List (V × V):=[(.str [99],.agg q29),(.str [97],.agg q32),(.str [98],.agg q35)]
def Ux:List (V × V):=[(.str [122],.str [99]),(.str [120],.str [97]),(.str [121],.str [98])]
def q45:List (V × V):=[(.agg [.bool true,.str [99]],.bool true),(.agg [.bool false,.str [121]],.bool true),(.agg [.bool false,.str [122]],.bool true),(.agg [.bool true,.str [97]],.bool true),(.agg [.bool false,.str [115]],.bool true),(.agg [.bool false,.str [120]],.bool true),(.agg [.bool true,.str [98]],.bool true)]
def q46:List V:=[.imp false q45]
def q48:List V:=[.imp false [(.agg [.bool false,.str [121]],.bool true)]]
def q50:List V:=[.imp false [(.agg [.bool true,.str [99]],.bool true)]]
def q52:List V:=[.imp false [(.agg [.bool false,.str [115]],.bool true)]]
def q54:List V:=[.imp false [(.agg [.bool true,.str [97]],.bool true)]]
def q56:List V:=[.imp false [(.agg [.bool false,.str [120]],.bool true)]]
def q58:List V:=[.imp false [(.agg [.bool true,.str [98]],.bool true)]]
def q59:List (V × V):=[(.agg [.bool true,.str [99]],.dB false q48),(.agg [.bool false,.str [122]],.dB false q50),(.agg [.bool true,.str [97]],.dB false q52),(.agg [.bool false,.str [120]],.dB false q54),(.agg [.bool true,.str [98]],.dB false q56),(.agg [.bool false,.str [121]],.dB false q58)]
def q61:List V:=[.imp false [(.agg [.bool false,.str [122]],.bool true)]]
def q62:List (V × V):=[(.agg [.bool false,.str [121]],.dB false q50),(.agg [.bool true,.str [99]],.dB false q61),(.agg [.bool false,.str [115]],.dB false q54),(.agg [.bool true,.str [97]],.dB false q56),(.agg [.bool false,.str [120]],.dB false q58),(.agg [.bool true,.str [98]],.dB false q48)]
def QM:List V:=[.imp false q36,.imp false Ux,.dB false q46,.imp false q59,.imp false q62]
def q71:List V:=[.str [116],.int .i64 3,.bQ true [[.str [97]]] true,.aC,.int .i64 0]
def q74:List V:=[.str [120],.int .i64 4,.bQ true [[.str [116]]] true,.aC,.int .i64 0]
def q76:List V:=[.str [121],.int .i64 2,.bQ true [[.str [98]]] true,.aC,.int .i64 0]
def q77:List (List V):=[q71,q74,q76]
def S9:List V:=[.str [114],.bQ true [[.str [97]],[.str [98]]] true,.bQ true [[.str [120]],[.str [121]]] true,.aC,.bQ true q77 true]
def Uw:List (List V):=[S9]
def q80:List V:=[.str [97],.int .i64 1,.bQ true [[.str [120]]] true,.aC,.int .i64 0]
def q81:List (List V):=[q80]
def q82:List V:=[.str [115],.bQ true [[.str [120]]] true,.bQ true [[.str [97]]] true,.aC,.bQ true q81 true]
def q83:List (List V):=[q82,S9]
def q93:List (V × V):=[(.str [99],.bQ false [[.str [97]],[.str [98]]] false),(.str [97],.aC),(.str [98],.bQ false [[.str [97]]] false)]
def UF:List (List V):=[[.bool true,.str [50,10]],[.bool false,.str []]]
def UE:List (List V):=[[.bool false,.str []],[.bool true,.str [122]]]
def UD:List Nat:=[114,117,108,101,32,114,32,123,32,105,110,32,98,44,32,97,59,32,111,117,116,32,120,59,32,35,32,110,111,10,32,120,32,61,32,115,101,108,101,99,116,32,34,113,92,110,34,32,97,59,32,125]
def UC:List V:=[.int .i64 1,.int .i64 0,.str [114,117,108,101]]
def q171:List V:=[.str [120],.int .i64 7,.bQ false [[.str [97]]] true,.bQ false [[.str [113,10]]] true,.int .i64 0]
def q172:List (List V):=[q171]
def q173:List V:=[.str [114],.bQ false [[.str [98]],[.str [97]]] false,.bQ false [[.str [120]]] true,.aC,.bQ false q172 false]
def UB:List (List V):=[q173]
def Mp:List V:=[.dB false QM]
def q188:List (V × V):=[(.str [97],.bool true),(.str [98],.bool true)]
def UA:List (V × V):=[(.str [97],.imp false []),(.str [98],.imp false [(.str [97],.bool true)]),(.str [99],.imp false q188)]
def t253:List (List V × V):=[([.int .i32 99],.bool true),([.int .i32 121],.bool true),([.int .i32 122],.bool true),([.int .i32 97],.bool true),([.int .i32 115],.bool true),([.int .i32 120],.bool true),([.int .i32 98],.bool true),([.int .i32 114],.bool true),([.int .i32 116],.bool true),([.int .i32 46],.bool true)]
noncomputable def S8:=sp0.put 253 (bG t253)
def t224:List (List V × V):=[([.str [99]],.bool false),([.str [121]],.bool false),([.str [122]],.bool false),([.str [97]],.bool false),([.str [115]],.bool false),([.str [120]],.bool false),([.str [98]],.bool false),([.str [114]],.bool false),([.str [116]],.bool false),([.str [98,46,99]],.bool false),([.str []],.bool true)]
noncomputable def QL:=S8.put 224 (bG t224)
def t186:List (List V × V):=[([.str [99]],.bool true),([.str [121]],.bool true),([.str [122]],.bool true),([.str [97]],.bool true),([.str [115]],.bool true),([.str [120]],.bool true),([.str [98]],.bool true),([.str [114]],.bool true),([.str [116]],.bool true),([.str [105,110]],.bool false),([.str [97,47,99]],.bool true),([.str [97,47,98,46,99]],.bool true),([.str [97,47,47,98]],.bool false),([.str [114,117,108,101]],.bool false)]
noncomputable def Fe:=QL.put 186 (bG t186)
def t199:List (List V × V):=[([.str [99]],.bool false),([.str [121]],.bool false),([.str [122]],.bool false),([.str [97]],.bool false),([.str [115]],.bool false),([.str [120]],.bool false),([.str [98]],.bool false),([.str [114]],.bool false),([.str [116]],.bool false)]
noncomputable def sp4:=Fe.put 199 (bG t199)
def t125:List (List V × V):=[([.agg EX],.bool true),([.agg q19],.bool true),([.agg q23],.bool true),([.agg q71],.bool true),([.agg q74],.bool true),([.agg q76],.bool true),([.agg q80],.bool true)]
noncomputable def sp5:=sp4.put 125 (bG t125)
def t202:List (List V × V):=[([.bQ false [[.str [121]]] true],.bool false),([.bQ false [[.str [122]]] true],.bool false),([.bQ false [[.str [97]]] true],.bool false),([.bQ false [[.str [115]]] true],.bool false),([.bQ false [[.str [120]]] true],.bool false),([.aC],.bool false),([.bQ true [[.str [97]],[.str [98]]] true],.bool false),([.bQ true [[.str [120]],[.str [121]]] true],.bool false),([.bQ true [[.str [120]]] true],.bool false),([.bQ true [[.str [97]]] true],.bool false)]
noncomputable def sp6:=sp5.put 202 (bG t202)
def t124:List (List V × V):=[([.agg Ln],.int .i64 0),([.agg q21],.int .i64 0),([.agg q25],.int .i64 0),([.agg S9],.int .i64 0),([.agg q82],.int .i64 0)]
noncomputable def Tt:=sp6.put 124 (bG t124)
def t108:List (List V × V):=[([.bQ true G0 true],.fN [.int .i64 0,.str []]),([.bQ true Uw true],.fN [.int .i64 0,.str []]),([.bQ true q83 true],.fN [.int .i64 0,.str []])]
noncomputable def sp8:=Tt.put 108 (bG t108)
def t147:List (List V × V):=[([.bQ true G0 true],.imp false q93),([.bQ true Uw true],.imp false [(.str [114],.aC)]),([.bQ true q83 true],.imp false [(.str [115],.bQ false [[.str [114]]] false),(.str [114],.bQ false [[.str [115]]] false)])]
noncomputable def sp9:=sp8.put 147 (bG t147)
def t109:List (List V × V):=[([.bQ true G0 true],.aC),([.bQ true Uw true],.aC),([.bQ true q83 true],.bQ false [[.str [114]],[.str [115]]] false)]
noncomputable def Rs:=sp9.put 109 (bG t109)
def t62:List (List V × V):=[([.bQ true G0 true],.fN [.int .i64 0,.str []]),([.bQ true Uw true],.fN [.int .i64 0,.str []]),([.bQ true q83 true],.fN [.int .i64 3,.str [114]])]
noncomputable def Rr:=Rs.put 62 (bG t62)
def t70:List (List V × V):=[([.agg Ln],.agg q29),([.agg q21],.agg q32),([.agg q25],.agg q35)]
noncomputable def L6:=Rr.put 70 (bG t70)
def t19:List (List V × V):=[([.bQ true G0 true],.dB false QM)]
noncomputable def L5:=L6.put 19 (bG t19)
def t63:List (List V × V):=[([.bQ true G0 true],.imp false q93)]
noncomputable def OG:=L5.put 63 (bG t63)
def t14:List (List V × V):=[([.bQ true G0 true],.bQ false [[.str [97]],[.str [98]],[.str [99]]] false)]
noncomputable def L2:=OG.put 14 (bG t14)
def t15:List (List V × V):=[([.bQ true G0 true],.bQ false [[.bQ false [[.str [97]]] false],[.bQ false [[.str [98]]] false],[.bQ false [[.str [99]]] false]] false)]
noncomputable def L1:=L2.put 15 (bG t15)
def t94:List (List V × V):=[([.bQ true G0 true],.imp false UA)]
noncomputable def L0:=L1.put 94 (bG t94)
def t93:List (List V × V):=[([.bQ true G0 true,.imp false UA,.agg Ln,.str [97]],.bool true)]
noncomputable def LZ:=L0.put 93 (bG t93)
def t53:List (List V × V):=[([.bQ true G0 true,.str [99],.str [97]],.bool true)]
noncomputable def LY:=LZ.put 53 (bG t53)
def t54:List (List V × V):=[([.bQ true G0 true],.bQ false [[.str [99],.bQ false [[.str [121]]] true,.bQ false [[.str [122]]] true,.bQ false [] false,.bQ false G1 true],q21,q25] false)]
noncomputable def OE:=LY.put 54 (bG t54)
def t114:List (List V × V):=[([.agg S9,.bQ true [[.bool true,.str [113,10,112]],[.bool true,.str []]] true],.bQ false UF false),([.agg S9,.bQ true UE false],.bQ false UE false),([.agg S9,.bQ true [[.bool true,.str [50,10,49]],[.bool false,.str []]] false],.bQ false UF false)]
noncomputable def OD:=OE.put 114 (bG t114)
def t117:List (List V × V):=[([.bQ true Uw true,.dB true [.imp true [(.str [97],.str [50,10,49])]],.bQ true [[.str [120]],[.str [97]],[.str [121]]] true],.bQ false [[.bool true,.str [50,10]],[.bool true,.str [50,10,49]],[.bool false,.str []]] true)]
noncomputable def OC:=OD.put 117 (bG t117)
def t189:List (List V × V):=[([.str [97,32,34,92,120,52,49,34,32,59]],.fN [.bQ false [[.int .i64 1,.int .i64 0,.str [97]],[.int .i64 2,.int .i64 2,.str [65]],[.int .i64 3,.int .i64 9,.str [59]],[.int .i64 4,.int .i64 10,.str []]] false,.agg [.int .i64 0,.int .i64 0]]),([.str UD],.fN [.bQ false [UC,[.int .i64 1,.int .i64 5,.str [114]],[.int .i64 3,.int .i64 7,.str [123]],[.int .i64 1,.int .i64 9,.str [105,110]],[.int .i64 1,.int .i64 12,.str [98]],[.int .i64 3,.int .i64 13,.str [44]],[.int .i64 1,.int .i64 15,.str [97]],[.int .i64 3,.int .i64 16,.str [59]],[.int .i64 1,.int .i64 18,.str [111,117,116]],[.int .i64 1,.int .i64 22,.str [120]],[.int .i64 3,.int .i64 23,.str [59]],[.int .i64 1,.int .i64 31,.str [120]],[.int .i64 3,.int .i64 33,.str [61]],[.int .i64 1,.int .i64 35,.str [115,101,108,101,99,116]],[.int .i64 2,.int .i64 42,.str [113,10]],[.int .i64 1,.int .i64 48,.str [97]],[.int .i64 3,.int .i64 49,.str [59]],[.int .i64 3,.int .i64 51,.str [125]],[.int .i64 4,.int .i64 52,.str []]] false,.agg [.int .i64 0,.int .i64 0]]),([.str [114,117,108,101,32,105,110,32,123]],.fN [.bQ false [UC,[.int .i64 1,.int .i64 5,.str [105,110]],[.int .i64 3,.int .i64 8,.str [123]],[.int .i64 4,.int .i64 9,.str []]] false,.agg [.int .i64 0,.int .i64 0]])]
noncomputable def OB:=OC.put 189 (bG t189)
def t190:List (List V × V):=[([.str UD],.fN [.bQ false UB false,.agg [.int .i64 0,.int .i64 0]]),([.str [114,117,108,101,32,105,110,32,123]],.fN [.aC,.agg [.int .i64 1,.int .i64 5]])]
noncomputable def OA:=OB.put 190 (bG t190)
def t193:List (List V × V):=[([.bQ false UB false],.str [114,117,108,101,32,114,32,123,10,32,32,105,110,32,97,44,32,98,59,10,32,32,111,117,116,32,120,59,10,32,32,120,32,61,32,115,101,108,101,99,116,32,34,113,92,110,34,32,97,59,10,125,10])]
noncomputable def Oz:=OA.put 193 (bG t193)
def t229:List (List V × V):=[([],.bool true)]
noncomputable def Oy:=Oz.put 229 (bG t229)
def t163:List (List V × V):=[([],.bool true)]
noncomputable def Ox:=Oy.put 163 (bG t163)
def t86:List (List V × V):=[([],.bool true)]
noncomputable def Ow:=Ox.put 86 (bG t86)
def t75:List (List V × V):=[([.dB false QM,.int .i64 1,.fn 23 Mp [],.bQ false [[.bool false,.str [122]]] true],.bQ false [[.bool false,.str [122]],[.bool true,.str [99]]] false),([.dB false QM,.int .i64 (-1),.fn 36 Mp [],.bQ false [[.bool false,.str [121]]] true],.bQ false [[.bool false,.str [121]],[.bool false,.str [122]],[.bool true,.str [99]]] false),([.dB false QM,.int .i64 (-1),.fn 23 Mp [],.bQ true [[.bool false,.str [121]]] false],.bQ false [[.bool false,.str [115]],[.bool false,.str [120]],[.bool false,.str [121]],[.bool true,.str [97]],[.bool true,.str [98]]] false),([.dB false QM,.int .i64 (-1),.fn 23 Mp [],.bQ false [[.bool false,.str [122]]] true],.bQ false [[.bool false,.str [115]],[.bool false,.str [120]],[.bool false,.str [121]],[.bool false,.str [122]],[.bool true,.str [97]],[.bool true,.str [98]],[.bool true,.str [99]]] false),([.dB false QM,.int .i64 (-1),.fn 36 Mp [],.bQ false [[.bool false,.str [120]]] true],.bQ false [[.bool false,.str [120]],[.bool false,.str [121]],[.bool false,.str [122]],[.bool true,.str [98]],[.bool true,.str [99]]] false)]
noncomputable def Ov:=Ow.put 75 (bG t75)
def t82:List (List V × V):=[([.dB false QM,.bQ true [[.bool false,.str [120]]] true],.imp false [(.agg [.bool false,.str [120]],.int .i64 0),(.agg [.bool true,.str [98]],.int .i64 1),(.agg [.bool false,.str [121]],.int .i64 2),(.agg [.bool true,.str [99]],.int .i64 3),(.agg [.bool false,.str [122]],.int .i64 4)])]
noncomputable def Ou:=Ov.put 82 (bG t82)
def t11:List (List V × V):=[([],.bool true)]
noncomputable def Tu:=Ou.put 11 (bG t11)
end Go.Proofs.YtlbbdpkjeeiahaaGreatDoor
end
