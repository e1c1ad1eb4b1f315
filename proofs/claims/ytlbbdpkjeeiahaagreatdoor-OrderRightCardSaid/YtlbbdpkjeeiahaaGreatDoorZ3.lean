/- Part 3 of the proof's own texts (pressed by a program of its author's). -/
import Derived.Test.YtlbbdpkjeeiahaaGreatDoorZ2
import Derived.Test.YtlbbdpkjeeiahaaGreatDoorProg
import Derived.KernelRfl
section
set_option maxHeartbeats 8000000
namespace Go.Proofs.YtlbbdpkjeeiahaaGreatDoor
open Go Go.Ax
noncomputable def KY:BT Ty:=BT.JH (NA Tryz.prog) 9 0
theorem EH:KY.xM (uD Tryz.prog):=by unfold KY; exact BT.Au (g:=NA Tryz.prog) (p:=uD Tryz.prog) (fun _ _ h=>Nz h) 9 0
theorem noGo:(Tryz.prog.funcs.all fun fn=>!(fn.name == "runtime.NumGoroutine")) = true:=by kernel_rfl
noncomputable def I6:BT Ax.Fn:=BT.JH (OI Tryz.prog) 9 0
theorem FW:I6.xM (HT Tryz.prog):=by unfold I6; exact BT.Au (g:=OI Tryz.prog) (p:=HT Tryz.prog) (fun _ _ h=>OH noGo h) 9 0
def ty5:Ty:={ kd:=.int .u8,size:=1,bytes:=1,zero:=.int .u8 0 }
def cK:Ty:={ kd:=.str,size:=1,bytes:=16,zero:=.str [] }
def mZ:Ty:={ kd:=.iX [(0,4),(1,9)],size:=2,bytes:=24,zero:=.agg [.bool false,.str []] }
def rZ:Ty:={ kd:=.map 9 4,size:=1,bytes:=8,zero:=.bQ }
theorem V2:iM Tryz.prog 7 [.int .i64,.int .i64,.bool,.int .u8]:=iM.of Tryz.underlying7 (by kernel_rfl) (by kernel_rfl) (.cons 0 _ _ _ _ _ (by decide) rfl Tryz.underlying2 rfl (.cons 1 _ _ _ _ _ (by decide) rfl Tryz.underlying3 rfl (.cons 2 _ _ _ _ _ (by decide) rfl Tryz.underlying4 rfl (.cons 3 _ _ _ _ _ (by decide) rfl Tryz.underlying6 rfl (.nil 4)))))
theorem V1:iM Tryz.prog 8 [.int .i64,.int .i64,.bool,.int .u8]:=iM.of Tryz.underlying8 (by kernel_rfl) (by kernel_rfl) (.cons 0 _ _ _ _ _ (by decide) rfl Tryz.underlying2 rfl (.cons 1 _ _ _ _ _ (by decide) rfl Tryz.underlying3 rfl (.cons 2 _ _ _ _ _ (by decide) rfl Tryz.underlying4 rfl (.cons 3 _ _ _ _ _ (by decide) rfl Tryz.underlying6 rfl (.nil 4)))))
theorem Ri:iM Tryz.prog 45 [.bool,.str]:=iM.of Tryz.underlying45 (by kernel_rfl) (by kernel_rfl) (.cons 0 _ _ _ _ _ (by decide) rfl Tryz.underlying4 rfl (.cons 1 _ _ _ _ _ (by decide) rfl Tryz.underlying9 rfl (.nil 2)))
theorem Rh:iM Tryz.prog 46 [.bool,.str]:=iM.of Tryz.underlying46 (by kernel_rfl) (by kernel_rfl) (.cons 0 _ _ _ _ _ (by decide) rfl Tryz.underlying4 rfl (.cons 1 _ _ _ _ _ (by decide) rfl Tryz.underlying9 rfl (.nil 2)))
theorem OY:iM Tryz.prog 148 [.bool,.str]:=iM.of Tryz.underlying148 (by kernel_rfl) (by kernel_rfl) (.cons 0 _ _ _ _ _ (by decide) rfl Tryz.underlying4 rfl (.cons 1 _ _ _ _ _ (by decide) rfl Tryz.underlying9 rfl (.nil 2)))
theorem OX:iM Tryz.prog 149 [.bool,.str]:=iM.of Tryz.underlying149 (by kernel_rfl) (by kernel_rfl) (.cons 0 _ _ _ _ _ (by decide) rfl Tryz.underlying4 rfl (.cons 1 _ _ _ _ _ (by decide) rfl Tryz.underlying9 rfl (.nil 2)))
theorem OW:iM Tryz.prog 153 [.str,.str]:=iM.of Tryz.underlying153 (by kernel_rfl) (by kernel_rfl) (.cons 0 _ _ _ _ _ (by decide) rfl Tryz.underlying9 rfl (.cons 1 _ _ _ _ _ (by decide) rfl Tryz.underlying9 rfl (.nil 2)))
theorem OV:iM Tryz.prog 154 [.str,.str]:=iM.of Tryz.underlying154 (by kernel_rfl) (by kernel_rfl) (.cons 0 _ _ _ _ _ (by decide) rfl Tryz.underlying9 rfl (.cons 1 _ _ _ _ _ (by decide) rfl Tryz.underlying9 rfl (.nil 2)))
theorem OU:iM Tryz.prog 213 [.int .i64,.int .i64]:=iM.of Tryz.underlying213 (by kernel_rfl) (by kernel_rfl) (.cons 0 _ _ _ _ _ (by decide) rfl Tryz.underlying25 rfl (.cons 1 _ _ _ _ _ (by decide) rfl Tryz.underlying3 rfl (.nil 2)))
theorem OT:iM Tryz.prog 214 [.int .i64,.int .i64]:=iM.of Tryz.underlying214 (by kernel_rfl) (by kernel_rfl) (.cons 0 _ _ _ _ _ (by decide) rfl Tryz.underlying25 rfl (.cons 1 _ _ _ _ _ (by decide) rfl Tryz.underlying3 rfl (.nil 2)))
theorem OQ:iM Tryz.prog 219 [.int .i64,.int .i64,.str]:=iM.of Tryz.underlying219 (by kernel_rfl) (by kernel_rfl) (.cons 0 _ _ _ _ _ (by decide) rfl Tryz.underlying3 rfl (.cons 1 _ _ _ _ _ (by decide) rfl Tryz.underlying3 rfl (.cons 2 _ _ _ _ _ (by decide) rfl Tryz.underlying9 rfl (.nil 3))))
theorem OP:iM Tryz.prog 220 [.int .i64,.int .i64,.str]:=iM.of Tryz.underlying220 (by kernel_rfl) (by kernel_rfl) (.cons 0 _ _ _ _ _ (by decide) rfl Tryz.underlying3 rfl (.cons 1 _ _ _ _ _ (by decide) rfl Tryz.underlying3 rfl (.cons 2 _ _ _ _ _ (by decide) rfl Tryz.underlying9 rfl (.nil 3))))
theorem OO:iM Tryz.prog 306 [.int .u8,.int .u8]:=iM.of Tryz.underlying306 (by kernel_rfl) (by kernel_rfl) (.cons 0 _ _ _ _ _ (by decide) rfl Tryz.underlying5 rfl (.cons 1 _ _ _ _ _ (by decide) rfl Tryz.underlying5 rfl (.nil 2)))
theorem ON:iM Tryz.prog 307 [.int .u8,.int .u8]:=iM.of Tryz.underlying307 (by kernel_rfl) (by kernel_rfl) (.cons 0 _ _ _ _ _ (by decide) rfl Tryz.underlying5 rfl (.cons 1 _ _ _ _ _ (by decide) rfl Tryz.underlying5 rfl (.nil 2)))
theorem OM:iM Tryz.prog 331 [.str]:=iM.of Tryz.underlying331 (by kernel_rfl) (by kernel_rfl) (.cons 0 _ _ _ _ _ (by decide) rfl Tryz.underlying9 rfl (.nil 1))
theorem OK:iM Tryz.prog 332 [.str]:=iM.of Tryz.underlying332 (by kernel_rfl) (by kernel_rfl) (.cons 0 _ _ _ _ _ (by decide) rfl Tryz.underlying9 rfl (.nil 1))
def PI:BT (List Kd):=(.node 213 (.node 148 (.node 45 (.node 8 (.leaf 7 [.int .i64,.int .i64,.bool,.int .u8]) (.leaf 8 [.int .i64,.int .i64,.bool,.int .u8])) (.node 46 (.leaf 45 [.bool,.str]) (.leaf 46 [.bool,.str]))) (.node 153 (.node 149 (.leaf 148 [.bool,.str]) (.leaf 149 [.bool,.str])) (.node 154 (.leaf 153 [.str,.str]) (.leaf 154 [.str,.str])))) (.node 306 (.node 219 (.node 214 (.leaf 213 [.int .i64,.int .i64]) (.leaf 214 [.int .i64,.int .i64])) (.node 220 (.leaf 219 [.int .i64,.int .i64,.str]) (.leaf 220 [.int .i64,.int .i64,.str]))) (.node 331 (.node 307 (.leaf 306 [.int .u8,.int .u8]) (.leaf 307 [.int .u8,.int .u8])) (.node 332 (.leaf 331 [.str]) (.leaf 332 [.str])))))
theorem F7:PI.xM (iM Tryz.prog):=⟨⟨⟨⟨V2,V1⟩,⟨Ri,Rh⟩⟩,⟨⟨OY,OX⟩,⟨OW,OV⟩⟩⟩,⟨⟨⟨OU,OT⟩,⟨OQ,OP⟩⟩,⟨⟨OO,ON⟩,⟨OM,OK⟩⟩⟩⟩
end Go.Proofs.YtlbbdpkjeeiahaaGreatDoor
end
section
set_option maxHeartbeats 8000000
namespace Go.AxS
open Go Go.Ax
theorem A6:∀ s,slt s s = false
 | []=>rfl
 | a :: s=>by rw [A7]; simp [A6 s]
theorem CR:∀ s t u,slt s t = true -> slt t u = true -> slt s u = true
 | _,[],_,h,_=>by cases ‹List Nat› <;> simp [slt] at h
 | _,_ :: _,[],_,h=>by simp [slt] at h
 | [],b :: t,c :: u,_,_=>rfl
 | a :: s,b :: t,c :: u,h1,h2=>by
  rw [A7] at h1 h2 ⊢
  simp only [Bool.or_eq_true,Bool.and_eq_true,decide_eq_true_eq] at h1 h2 ⊢
  rcases h1 with h1 | ⟨rfl,h1⟩
  ·rcases h2 with h2 | ⟨rfl,h2⟩
   ·exact .inl (by omega)
   ·exact .inl h1
  ·rcases h2 with h2 | ⟨rfl,h2⟩
   ·exact .inl h2
   ·exact .inr ⟨rfl,CR s t u h1 h2⟩
theorem kB:∀ s t:List Nat,Ax.seq s t = true ↔ s = t
 | [],[]=>by simp [Ax.seq]
 | [],_ :: _=>by simp [Ax.seq]
 | _ :: _,[]=>by simp [Ax.seq]
 | a :: s,b :: t=>by rw [A_]; simp [kB s t]
theorem DU (s t:List Nat):Ax.seq s t = decide (s = t):=by
 rw [Bool.eq_iff_iff,kB]; simp
abbrev bX:=Bool × List Nat
def row (x:bX):List V:=[.bool x.1,.str x.2]
def lt (x y:bX):Bool:=match x.1,y.1 with
 | false,true=>true
 | true,false=>false
 | _,_=>slt x.2 y.2
theorem lt_irrefl (x:bX):lt x x = false:=by
 obtain ⟨a,s⟩:=x
 cases a <;> exact A6 s
theorem lt_trans (x y z:bX) (h1:lt x y = true) (h2:lt y z = true):lt x z = true:=by
 obtain ⟨a,s⟩:=x; obtain ⟨b,t⟩:=y; obtain ⟨c,u⟩:=z
 cases a <;> cases b <;> cases c <;> simp only [lt] at h1 h2 ⊢ <;> first | exact CR _ _ _ h1 h2 | rfl | exact absurd h1 Bool.false_ne_true | exact absurd h2 Bool.false_ne_true
def Up (l:List bX):Prop:=l.Pairwise fun x y=>lt x y = true
theorem Up.nodup {l:List bX} (h:Up l):l.Nodup:=h.imp fun hxy e=>by
 subst e; rw [lt_irrefl] at hxy; cases hxy
def put:List bX -> bX -> List bX
 | [],x=>[x]
 | y :: r,x=>if lt y x = true then y :: put r x else if y = x then y :: r else x :: y :: r
def jE (l:List bX) (x:bX):List bX:=if x ∈ l then l else l ++ [x]
def keys (l:List bX) (xs:List bX):List bX:=xs.foldl jE l
theorem Da {l:List bX} {x z:bX}:z ∈ jE l x ↔ z ∈ l \/ z = x:=by
 unfold jE
 split
 ·rename_i h
  constructor
  ·exact .inl
  ·rintro (h' | rfl)
   ·exact h'
   ·exact h
 ·simp
theorem FD {l:List bX} {x:bX} (h:l.Nodup):(jE l x).Nodup:=by
 unfold jE
 split
 ·exact h
 ·rename_i hx
  rw [List.nodup_append]
  refine ⟨h,by simp,?_⟩
  intro a ha b hb e
  rw [List.mem_singleton] at hb
  subst hb; subst e
  exact hx ha
theorem mem_keys {z:bX}:∀ {xs l:List bX},z ∈ keys l xs ↔ z ∈ l \/ z ∈ xs
 | [],l=>by simp [keys]
 | x :: xs,l=>by
  show z ∈ keys (jE l x) xs ↔ _
  rw [mem_keys,Da,List.mem_cons,or_assoc]
theorem oQ:∀ {xs l:List bX},(keys l xs).length <= l.length + xs.length
 | [],l=>by simp [keys]
 | x :: xs,l=>by
  show (keys (jE l x) xs).length <= _
  have:=oQ (xs:=xs) (l:=jE l x)
  have h2:(jE l x).length <= l.length + 1:=by unfold jE; split <;> simp
  simp only [List.length_cons]
  omega
end Go.AxS
end
section
set_option maxHeartbeats 8000000
namespace Go.AxS
open Go
abbrev aX:=List Nat
structure Step where
 out:aX
 op:Int
 args:List aX
 lits:List aX
 n:Int
structure aG where
 name:aX
 ins:List aX
 outs:List aX
 after:List aX
 steps:List Step
def sign (c:Nat):Bool:=(decide (97 <= c) && decide (c <= 122)) || ((decide (65 <= c) && decide (c <= 90)) || ((decide (48 <= c) && decide (c <= 57)) || (decide (c = 46) || (decide (c = 95) || decide (c = 45)))))
def qN (p:aX):Bool:=!(decide (p = []) || decide (p = [46]) || decide (p = [46,46])) && p.all sign
def nS (s:aX):Bool:=decide (s = [114,117,108,101]) || (decide (s = [105,110]) || (decide (s = [111,117,116]) || decide (s = [97,102,116,101,114])))
def bR (s:aX):Bool:=!nS s && decide (s.length <= 40) && (Ax.cE 47 s).all qN
def counts (op:Int):Nat × Nat × Nat:=if op = 5 then (0,6,0) else if op = 6 then (0,0,1) else if op = 7 then (1,1,1) else if op = 8 then (1,1,2) else (1,1,0)
def bZ (s:Step):Bool:=decide (1 <= s.op /\ s.op <= 9) && decide ((counts s.op).1 <= s.args.length /\ s.args.length <= (counts s.op).2.1) && decide (s.lits.length = (counts s.op).2.2) && s.lits.all (fun l=>decide (l.length <= 100))
 && decide (s.op = 8 -> s.lits.head? ≠ some []) && decide (0 <= s.n /\ s.n <= 2000) && decide (s.op = 9 \/ s.n = 0)
def jU:List aX -> Bool
 | []=>false
 | s :: l=>decide (s ∈ l) || jU l
def lB (r:aG):Bool:=bR r.name && decide (r.outs ≠ []) && r.ins.all bR && r.outs.all bR && r.after.all bR && r.steps.all fun s=>bR s.out && s.args.all bR && bZ s
def long (r:aG):Bool:=decide (8 < r.ins.length) || decide (4 < r.outs.length) || decide (8 < r.after.length) || decide (12 < r.steps.length)
def gM:List aX -> List Step -> Bool
 | _,[]=>true
 | known,s :: l=>!decide (s.out ∈ known) && s.args.all (fun a=>decide (a ∈ known)) && gM (known ++ [s.out]) l
def eZ (r:aG):Bool:=!jU r.ins && !jU r.outs && !jU r.after && !decide (r.name ∈ r.after) && r.outs.all (fun o=>!decide (o ∈ r.ins)) && gM r.ins r.steps && r.outs.all fun o=>decide (o ∈ r.ins ++ r.steps.map Step.out)
def aY (r:aG):Int:=if lB r = false then 1 else if long r = true then 4 else if eZ r = false then 2 else 0
def bJ {α:Type} (p:α -> Bool):List α -> Option Nat
 | []=>none
 | x :: l=>if p x = true then some 0 else (bJ p l).map (· + 1)
def e_ (rs:List aG) (f:aX):Option Nat:=bJ (fun r=>decide (f ∈ r.outs)) rs
def fK (rs:List aG) (n:aX):Option Nat:=bJ (fun r=>decide (r.name = n)) rs
def wN (rs:List aG) (data:Bool) (r:aG) (k:Nat):Bool:=r.ins.any (fun f=>decide (e_ rs f = some k)) || (!data && r.after.any fun n=>decide (fK rs n = some k))
def iC (rs:List aG) (data:Bool) (i k:Nat):Bool:=match rs[i]? with
 | some r=>wN rs data r k
 | none=>false
inductive Way (m:Nat -> Nat -> Bool):Nat -> Nat -> Prop
 | one {i k}:m i k = true -> Way m i k
 | cons {i j k}:m i j = true -> Way m j k -> Way m i k
theorem Way.trans {m:Nat -> Nat -> Bool} {i j k:Nat} (h:Way m i j) (g:Way m j k):Way m i k:=by
 induction h with
 | one h=>exact .cons h g
 | cons h _ ih=>exact .cons h (ih g)
def nG (rs:List aG) (i:Nat):Bool:=match rs[i]? with
 | some r=>(rs.take i).any fun q=>decide (q.name = r.name) || r.outs.any fun o=>decide (o ∈ q.outs)
 | none=>false
def rG (rs:List aG):Bool:=(List.range rs.length).any (nG rs)
def fV (rs:List aG):Bool:=rs.any fun r=>r.after.any fun n=>decide (fK rs n = none)
def gE (rs:List aG):Int:=match rs.find? fun r=>decide (aY r ≠ 0) with
 | some r=>aY r
 | none=>if 40 < rs.length then 4 else if rG rs = true then 2 else if fV rs = true then 2 else 0
def Ring (rs:List aG):Prop:=∃ i,i < rs.length /\ Way (iC rs false) i i
def Gu (rs:List aG) (e:Int):Prop:=(gE rs ≠ 0 /\ e = gE rs) \/ (gE rs = 0 /\ ((Ring rs /\ e = 3) \/ (¬ Ring rs /\ e = 0)))
def eS (rs:List aG):Prop:=gE rs = 0 /\ ¬ Ring rs
theorem Gu.zero {rs:List aG} {e:Int} (h:Gu rs e):e = 0 ↔ eS rs:=by
 unfold eS
 rcases h with ⟨h1,h2⟩ | ⟨h1,⟨h2,h3⟩ | ⟨h2,h3⟩⟩
 ·exact ⟨fun g=>absurd (h2.symm.trans g) h1,fun g=>absurd g.1 h1⟩
 ·exact ⟨fun g=>by omega,fun g=>absurd h2 g.2⟩
 ·exact ⟨fun _=>⟨h1,h2⟩,fun _=>h3⟩
end Go.AxS
end
section
set_option maxHeartbeats 8000000
namespace Go.Ax
theorem Fj {α:Type} [DecidableEq α]:∀ {a b:List α},a.Nodup -> (∀ x ∈ a,x ∈ b) -> a.length <= b.length
 | [],b,_,_=>Nat.zero_le _
 | x :: a,b,hn,h=>by
  obtain ⟨hx,ha⟩:=List.nodup_cons.1 hn
  have hm:x ∈ b:=h x (List.mem_cons_self ..)
  have:=Fj (b:=b.erase x) ha fun y hy=>by
   have hne:y ≠ x:=fun e=>hx (e ▸ hy)
   exact (List.mem_erase_of_ne hne).2 (h y (List.mem_cons_of_mem _ hy))
  rw [List.length_erase_of_mem hm] at this
  have:0 < b.length:=List.length_pos_of_mem hm
  rw [List.length_cons]; omega
end Go.Ax
namespace Go.AxS
open Go
def wk (m:Nat -> Nat -> Bool):Nat -> Nat -> Nat -> Bool
 | 0,i,j=>m i j
 | k + 1,i,j=>wk m k i j || (wk m k i k && wk m k k j)
theorem KT {m:Nat -> Nat -> Bool} (k j:Nat):wk m (k + 1) k j = wk m k k j:=by
 rw [wk]; cases wk m k k j <;> simp
theorem KU {m:Nat -> Nat -> Bool} (k i:Nat):wk m (k + 1) i k = wk m k i k:=by
 rw [wk]; cases wk m k i k <;> simp
theorem DJ {m : Nat -> Nat -> Bool} {i j : Nat} : ∀ {k l : Nat}, k <= l -> wk m k i j = true -> wk m l i j = true
  | k, 0, h, e => by obtain rfl : k = 0 := by omega
                     exact e
  | k, l + 1, h, e => by
    rcases Nat.lt_or_ge l k with g | g
    · obtain rfl : k = l + 1 := by omega
      exact e
    · rw [wk, DJ g e]; rfl
theorem vN {m:Nat -> Nat -> Bool}:∀ (k i j l:Nat),j < k -> wk m k i j = true -> wk m k j l = true -> wk m k i l = true
 | 0,_,_,_,h,_,_=>absurd h (by omega)
 | k + 1,i,j,l,h,a,b=>by
  by_cases hj:j = k
  ·subst hj
   rw [KU] at a
   rw [KT] at b
   rw [wk,a,b]; simp
  ·have hj:j < k:=by omega
   rw [wk,Bool.or_eq_true,Bool.and_eq_true] at a b ⊢
   rcases a with a | ⟨a1,a2⟩ <;> rcases b with b | ⟨b1,b2⟩
   ·exact .inl (vN k i j l hj a b)
   ·exact .inr ⟨vN k i j k hj a b1,b2⟩
   ·exact .inr ⟨a1,vN k k j l hj a2 b⟩
   ·exact .inr ⟨a1,b2⟩
theorem AM {m:Nat -> Nat -> Bool}:∀ {k i j:Nat},wk m k i j = true -> Way m i j
 | 0,_,_,h=>.one h
 | k + 1,i,j,h=>by
  rw [wk,Bool.or_eq_true,Bool.and_eq_true] at h
  rcases h with h | ⟨h1,h2⟩
  ·exact AM h
  ·exact (AM h1).trans (AM h2)
theorem PW {m:Nat -> Nat -> Bool} {n:Nat} (hm:∀ i j,m i j = true -> i < n /\ j < n) {i j:Nat} (h:Way m i j):wk m n i j = true:=by
 induction h with
 | one h=>exact DJ (Nat.zero_le n) h
 | cons h _ ih=>exact vN n _ _ _ (hm _ _ h).2 (DJ (Nat.zero_le n) h) ih
theorem Way.step {m:Nat -> Nat -> Bool} {i j:Nat} (h:Way m i j):∃ k,m i k = true /\ (k = j \/ Way m k j):=by
 cases h with
 | one h=>exact ⟨_,h,.inl rfl⟩
 | cons h g=>exact ⟨_,h,.inr g⟩
def eB (bL:List Int) (i:Nat):Int:=(bL[i]?).getD (-1)
theorem lC {bL:List Int} {i j:Nat} {d:Int} (hi:i < bL.length):eB (bL.set i d) j = if j = i then d else eB bL j:=by
 unfold eB
 by_cases h:j = i
 ·subst h
  rw [if_pos rfl,List.getElem?_set_self hi]; rfl
 ·rw [if_neg h,List.getElem?_set_ne (fun e=>h e.symm)]
structure lJ (m:Nat -> Nat -> Bool) (n first d i k:Nat) (bL:List Int):Prop where
 len:bL.length = n
 JH:∀ j,j < n -> eB bL j = -1 \/ (0 <= eB bL j /\ eB bL j <= (d:Int) /\ (i < j -> eB bL j < (d:Int)))
 zero:∀ j,j < n -> (eB bL j = 0 ↔ j = first)
 down:∀ j (e:Nat),j < n -> eB bL j = (e:Int) + 1 -> ∃ l,l < n /\ m j l = true /\ eB bL l = (e:Int)
 old:∀ j l,j < n -> l < n -> m j l = true -> 0 <= eB bL l -> eB bL l + 1 < (d:Int) -> 0 <= eB bL j
 now:∀ j l,j < i -> j < n -> l < n -> m j l = true -> eB bL l + 1 = (d:Int) -> 0 <= eB bL j
 row:∀ l,l < k -> i < n -> l < n -> m i l = true -> eB bL l + 1 = (d:Int) -> 0 <= eB bL i
theorem lJ.init {m:Nat -> Nat -> Bool} {n first:Nat} (hf:first < n):lJ m n first 1 0 0 ((List.replicate n (-1)).set first 0):=by
 have hl:first < (List.replicate n (-1:Int)).length:=by simpa using hf
 have hg:∀ j,j < n -> eB ((List.replicate n (-1)).set first 0) j = if j = first then 0 else -1:=fun j hj=>by
  rw [lC hl]
  split
  ·rfl
  ·unfold eB; simp [hj]
 refine ⟨by simp,fun j hj=>?_,fun j hj=>?_,fun j e hj h=>?_,fun j l hj hl hm h1 h2=>?_,fun j l hj=>?_,fun l hl=>?_⟩
 ·rw [hg j hj]; split
  ·exact .inr ⟨by omega,by omega,fun _=>by omega⟩
  ·exact .inl rfl
 ·rw [hg j hj]; split
  ·rename_i h; exact ⟨fun _=>h,fun _=>rfl⟩
  ·rename_i h; exact ⟨fun g=>absurd g (by omega),fun g=>absurd g h⟩
 ·rw [hg j hj] at h; split at h <;> omega
 ·omega
 ·omega
 ·omega
theorem lJ.skip {m:Nat -> Nat -> Bool} {n first d i k:Nat} {bL:List Int} (h:lJ m n first d i k bL) (hne:¬ (m i k = true /\ eB bL k = (d:Int) - 1)):lJ m n first d i (k + 1) bL:=by
 refine ⟨h.len,h.JH,h.zero,h.down,h.old,h.now,fun l hl hi hln hm e=>?_⟩
 rcases Nat.lt_or_ge l k with g | g
 ·exact h.row l g hi hln hm e
 ·obtain rfl:l = k:=by omega
  exact absurd ⟨hm,by omega⟩ hne
theorem lJ.put {m:Nat -> Nat -> Bool} {n first d i k:Nat} {bL:List Int} (h:lJ m n first d i k bL) (hi:i < n) (hk:k < n) (hd:1 <= d) (hf:eB bL i < 0) (hm:m i k = true) (he:eB bL k = (d:Int) - 1) :
  lJ m n first d i (k + 1) (bL.set i (d:Int)):=by
 have hl:i < bL.length:=by rw [h.len]; exact hi
 have hi1:eB bL i = -1:=by rcases h.JH i hi with g | ⟨g,_⟩ <;> omega
 have hki:k ≠ i:=fun e=>by subst e; omega
 refine ⟨by rw [List.length_set]; exact h.len,fun j hj=>?_,fun j hj=>?_,fun j e hj g=>?_,fun j l hj hl2 hm2 h1 h2=>?_,fun j l hji hj hl2 hm2 h1=>?_,fun l hlk hi2 hl2 hm2 h1=>?_⟩
 ·rw [lC hl]; split
  ·rename_i e; subst e; exact .inr ⟨by omega,by omega,fun g=>by omega⟩
  ·exact h.JH j hj
 ·rw [lC hl]; split
  ·rename_i e; subst e
   constructor
   ·intro g; omega
   ·intro g; have:=(h.zero j hj).2 g; omega
  ·exact h.zero j hj
 ·rw [lC hl] at g; split at g
  ·rename_i e2; subst e2
   exact ⟨k,hk,hm,by rw [lC hl,if_neg hki]; omega⟩
  ·obtain ⟨l,h1,h2,h3⟩:=h.down j e hj g
   refine ⟨l,h1,h2,?_⟩
   rw [lC hl,if_neg]
   ·exact h3
   ·intro e2; subst e2; omega
 ·rw [lC hl] at h1 h2 ⊢
  split
  ·omega
  ·split at h1
   ·rename_i e2; rw [if_pos e2] at h2; omega
   ·rename_i e2; rw [if_neg e2] at h2; exact h.old j l hj hl2 hm2 h1 h2
 ·rw [lC hl] at h1 ⊢
  split
  ·omega
  ·split at h1
   ·omega
   ·exact h.now j l hji hj hl2 hm2 h1
 ·rw [lC hl,if_pos rfl]; omega
theorem lJ.next {m:Nat -> Nat -> Bool} {n first d i k:Nat} {bL:List Int} (h:lJ m n first d i k bL) (hk:k = n \/ 0 <= eB bL i) (hi:i < n):lJ m n first d (i + 1) 0 bL:=by
 refine ⟨h.len,fun j hj=>?_,h.zero,h.down,h.old,fun j l hj hjn hl hm e=>?_,fun l hl=>by omega⟩
 ·rcases h.JH j hj with g | ⟨g1,g2,g3⟩
  ·exact .inl g
  ·exact .inr ⟨g1,g2,fun g=>g3 (by omega)⟩
 ·rcases Nat.lt_or_ge j i with g | g
  ·exact h.now j l g hjn hl hm e
  ·obtain rfl:j = i:=by omega
   rcases hk with rfl | hk
   ·exact h.row l hl hjn hl hm e
   ·exact hk
theorem lJ.round {m:Nat -> Nat -> Bool} {n first d:Nat} {bL:List Int} (h:lJ m n first d n 0 bL):lJ m n first (d + 1) 0 0 bL:=by
 refine ⟨h.len,fun j hj=>?_,h.zero,h.down,fun j l hj hl hm h1 h2=>?_,fun j l hj=>by omega,fun l hl=>by omega⟩
 ·rcases h.JH j hj with g | ⟨g1,g2,_⟩
  ·exact .inl g
  ·exact .inr ⟨g1,by omega,fun _=>by omega⟩
 ·rcases Nat.lt_or_ge ((eB bL l + 1).toNat) d with g | g
  ·exact h.old j l hj hl hm h1 (by omega)
  ·exact h.now j l hj hj hl hm (by omega)
theorem lJ.small {m:Nat -> Nat -> Bool} {n first d:Nat} {bL:List Int} (h:lJ m n first d 0 0 bL) {j:Nat} (hj:j < n):eB bL j < (n:Int):=by
 have chain:∀ (e:Nat) (j:Nat),j < n -> eB bL j = (e:Int) -> ∃ l:List Nat,l.length = e + 1 /\ l.Nodup /\ ∀ x ∈ l,x < n /\ 0 <= eB bL x /\ eB bL x <= (e:Int):=by
  intro e
  induction e with
  | zero=>intro j hj he; exact ⟨[j],rfl,by simp,fun x hx=>by simp at hx; subst hx; exact ⟨hj,by omega,by omega⟩⟩
  | succ e ih=>
   intro j hj he
   obtain ⟨k,hk,_,hk2⟩:=h.down j e hj (by omega)
   obtain ⟨l,h1,h2,h3⟩:=ih k hk hk2
   refine ⟨j :: l,by simp [h1],List.nodup_cons.2 ⟨fun hm=>?_,h2⟩,fun x hx=>?_⟩
   ·have:=(h3 j hm).2.2; omega
   ·rcases List.mem_cons.1 hx with rfl | hx
    ·exact ⟨hj,by omega,by omega⟩
    ·obtain ⟨a,b,c⟩:=h3 x hx; exact ⟨a,b,by omega⟩
 rcases h.JH j hj with g | ⟨g,_⟩
 ·omega
 ·obtain ⟨l,h1,h2,h3⟩:=chain (eB bL j).toNat j hj (by omega)
  have:l.length <= (List.range n).length:=Ax.Fj h2 fun x hx=>List.mem_range.2 (h3 x hx).1
  rw [List.length_range] at this
  omega
theorem lJ.closed {m:Nat -> Nat -> Bool} {n first:Nat} {bL:List Int} (h:lJ m n first (n + 1) 0 0 bL) {j l:Nat} (hj:j < n) (hl:l < n) (hm:m j l = true) (hf:0 <= eB bL l):0 <= eB bL j:=
 h.old j l hj hl hm hf (by have:=h.small hl; omega)
theorem lJ.way {m:Nat -> Nat -> Bool} {n first:Nat} {bL:List Int} (hmn:∀ i j,m i j = true -> i < n /\ j < n) (h:lJ m n first (n + 1) 0 0 bL) (hf:first < n) {j:Nat} (hw:Way m j first):0 <= eB bL j:=by
 have h0:eB bL first = 0:=(h.zero first hf).2 rfl
 have:∀ i j,Way m i j -> j = first -> 0 <= eB bL i:=by
  intro i j hw
  induction hw with
  | one g=>intro e; subst e; exact h.closed (hmn _ _ g).1 hf g (by omega)
  | cons g _ ih=>intro e; exact h.closed (hmn _ _ g).1 (hmn _ _ g).2 g (ih e)
 exact this j first hw rfl
theorem lJ.first {m:Nat -> Nat -> Bool} {n first:Nat} {bL:List Int} (hmn:∀ i j,m i j = true -> i < n /\ j < n) (h:lJ m n first (n + 1) 0 0 bL) (hf:first < n) (hw:Way m first first):∃ k,k < n /\ m first k = true /\ 0 <= eB bL k:=by
 obtain ⟨k,hk,e | g⟩:=hw.step
 ·subst e; exact ⟨k,hf,hk,by rw [(h.zero k hf).2 rfl]; omega⟩
 ·exact ⟨k,(hmn _ _ hk).2,hk,h.way hmn hf g⟩
end Go.AxS
end
section
set_option maxHeartbeats 8000000
namespace Go.Ax
open Go
def oC (t:Nat):List V -> Sg -> Option (V × Sg)
 | [.aC],Z=>some (.fJ [],Z)
 | [.sl b 0 len _],Z=>match Z[b]? with
  | some (.cells u cs ex)=>match Nat.beq u t,Nat.beq len cs.length,allRows jQ (cs.map fun v=>[v]),Nat.ble len 1000000 with
   | true,true,true,true=>some (.fJ [],Z.set b (.cells u (lM strLt (cs.map fun v=>[v])).flatten ex))
   | _,_,_,_=>none
  | _=>none
 | _,_=>none
end Go.Ax
end
section
set_option maxHeartbeats 8000000
namespace Go.Proofs.YtlbbdpkjeeiahaaGreatDoor
open Go Go.Ax
def N4:BT Ax.Mode:=(.node 208 (.node 129 (.node 96 (.node 73 (.node 50 (.node 44 (.leaf 43 Ax.Mode.move) (.leaf 44 Ax.Mode.shared)) (.node 64 (.leaf 50 Ax.Mode.shared) (.node 71 (.leaf 64 Ax.Mode.shared) (.leaf 71 Ax.Mode.shared)))) (.node 85 (.node 78 (.leaf 73 Ax.Mode.shared) (.leaf 78 Ax.Mode.shared)) (.node 88 (.leaf 85 Ax.Mode.shared) (.node 95 (.leaf 88 Ax.Mode.shared) (.leaf 95 Ax.Mode.shared))))) (.node 110 (.node 100 (.node 97 (.leaf 96 Ax.Mode.shared) (.leaf 97 Ax.Mode.shared)) (.node 103 (.leaf 100 Ax.Mode.shared) (.node 104 (.leaf 103 Ax.Mode.shared) (.leaf 104 Ax.Mode.shared)))) (.node 113 (.node 111 (.leaf 110 Ax.Mode.shared) (.leaf 111 Ax.Mode.shared)) (.node 116 (.leaf 113 Ax.Mode.shared) (.node 128 (.leaf 116 Ax.Mode.shared) (.leaf 128 Ax.Mode.shared)))))) (.node 157 (.node 151 (.node 140 (.node 138 (.leaf 129 Ax.Mode.shared) (.leaf 138 Ax.Mode.shared)) (.node 149 (.leaf 140 Ax.Mode.shared) (.node 150 (.leaf 149 Ax.Mode.shared) (.leaf 150 Ax.Mode.shared)))) (.node 153 (.node 152 (.leaf 151 Ax.Mode.shared) (.leaf 152 Ax.Mode.shared)) (.node 154 (.leaf 153 Ax.Mode.shared) (.node 156 (.leaf 154 Ax.Mode.shared) (.leaf 156 Ax.Mode.shared))))) (.node 180 (.node 162 (.node 161 (.leaf 157 Ax.Mode.shared) (.leaf 161 Ax.Mode.shared)) (.node 174 (.leaf 162 Ax.Mode.shared) (.node 179 (.leaf 174 Ax.Mode.shared) (.leaf 179 Ax.Mode.shared)))) (.node 183 (.node 182 (.leaf 180 Ax.Mode.shared) (.leaf 182 Ax.Mode.shared)) (.node 184 (.leaf 183 Ax.Mode.shared) (.node 207 (.leaf 184 Ax.Mode.shared) (.leaf 207 Ax.Mode.shared))))))) (.node 258 (.node 228 (.node 213 (.node 210 (.node 209 (.leaf 208 Ax.Mode.shared) (.leaf 209 Ax.Mode.shared)) (.node 211 (.leaf 210 Ax.Mode.shared) (.node 212 (.leaf 211 Ax.Mode.shared) (.leaf 212 Ax.Mode.shared)))) (.node 215 (.node 214 (.leaf 213 Ax.Mode.shared) (.leaf 214 Ax.Mode.shared)) (.node 217 (.leaf 215 Ax.Mode.shared) (.node 227 (.leaf 217 Ax.Mode.shared) (.leaf 227 Ax.Mode.shared))))) (.node 245 (.node 242 (.node 235 (.leaf 228 Ax.Mode.shared) (.leaf 235 Ax.Mode.shared)) (.node 243 (.leaf 242 Ax.Mode.shared) (.node 244 (.leaf 243 Ax.Mode.shared) (.leaf 244 Ax.Mode.shared)))) (.node 247 (.node 246 (.leaf 245 Ax.Mode.shared) (.leaf 246 Ax.Mode.shared)) (.node 249 (.leaf 247 Ax.Mode.shared) (.node 257 (.leaf 249 Ax.Mode.shared) (.leaf 257 Ax.Mode.shared)))))) (.node 291 (.node 278 (.node 260 (.node 259 (.leaf 258 Ax.Mode.shared) (.leaf 259 Ax.Mode.shared)) (.node 261 (.leaf 260 Ax.Mode.shared) (.node 262 (.leaf 261 Ax.Mode.shared) (.leaf 262 Ax.Mode.shared)))) (.node 284 (.node 283 (.leaf 278 Ax.Mode.shared) (.leaf 283 Ax.Mode.shared)) (.node 286 (.leaf 284 Ax.Mode.shared) (.node 290 (.leaf 286 Ax.Mode.shared) (.leaf 290 Ax.Mode.shared))))) (.node 299 (.node 293 (.node 292 (.leaf 291 Ax.Mode.shared) (.leaf 292 Ax.Mode.shared)) (.node 294 (.leaf 293 Ax.Mode.shared) (.node 298 (.leaf 294 Ax.Mode.shared) (.leaf 298 Ax.Mode.shared)))) (.node 314 (.node 300 (.leaf 299 Ax.Mode.shared) (.node 310 (.leaf 300 Ax.Mode.shared) (.leaf 310 Ax.Mode.shared))) (.node 315 (.leaf 314 Ax.Mode.shared) (.node 326 (.leaf 315 Ax.Mode.shared) (.leaf 326 Ax.Mode.shared))))))))
def Mw:BT (List V -> Sg -> Option (V × Sg)):=(.node 136 (.node 87 (.leaf 64 (oC 9)) (.node 99 (.leaf 87 (oB 46 [129] [] 89)) (.leaf 99 (qZ 9 [138,314] [247])))) (.node 305 (.leaf 136 I1) (.node 307 (.leaf 305 Az) (.leaf 307 (I0 5)))))
noncomputable def ground:Ax.Ground Tryz.prog:={ ty:=KY,fn:=I6,mode:=N4,hspec:=Mw,eqs:=PI,gl:=Dh,Cl:=fun t=>Nat.beq t 260 }
noncomputable def sp0:BT (List V -> Option V):=(.node 254 (.node 171 (.leaf 148 nO) (.leaf 171 kN)) (.node 295 (.leaf 254 jV) (.leaf 295 vS)))
def Ez:List V:=[.str [122],.int .i64 5,.bP false [[.str [121]]] true,.aC,.int .i64 0]
def GA:List (List V):=[Ez]
def KO:List V:=[.str [99],.bP false [[.str [121]]] true,.bP false [[.str [122]]] true,.bP false [[.str [97]]] true,.bP false GA true]
def q19:List V:=[.str [120],.int .i64 5,.bP false [[.str [115]]] true,.aC,.int .i64 0]
def q20:List (List V):=[q19]
def q21:List V:=[.str [97],.bP false [[.str [115]]] true,.bP false [[.str [120]]] true,.aC,.bP false q20 true]
def q23:List V:=[.str [121],.int .i64 5,.bP false [[.str [120]]] true,.aC,.int .i64 0]
def q24:List (List V):=[q23]
def q25:List V:=[.str [98],.bP false [[.str [120]]] true,.bP false [[.str [121]]] true,.aC,.bP false q24 true]
def Gz:List (List V):=[KO,q21,q25]
def Tp:List V:=[.str [122],.int .i64 5,.bP false [[.str [121]]] false,.aC,.int .i64 0]
def To:List (List V):=[Tp]
def q29:List V:=[.str [99],.bP false [[.str [121]]] false,.bP false [[.str [122]]] false,.bP false [[.str [97]]] false,.bP false To false]
def q30:List V:=[.str [120],.int .i64 5,.bP false [[.str [115]]] false,.aC,.int .i64 0]
def q31:List (List V):=[q30]
def q32:List V:=[.str [97],.bP false [[.str [115]]] false,.bP false [[.str [120]]] false,.aC,.bP false q31 false]
def q33:List V:=[.str [121],.int .i64 5,.bP false [[.str [120]]] false,.aC,.int .i64 0]
def q34:List (List V):=[q33]
def q35:List V:=[.str [98],.bP false [[.str [120]]] false,.bP false [[.str [121]]] false,.aC,.bP false q34 false]
def q36:List (V × V):=[(.str [99],.agg q29),(.str [97],.agg q32),(.str [98],.agg q35)]
def Tn:List (V × V):=[(.str [122],.str [99]),(.str [120],.str [97]),(.str [121],.str [98])]
def q45:List (V × V):=[(.agg [.bool true,.str [99]],.bool true),(.agg [.bool false,.str [121]],.bool true),(.agg [.bool false,.str [122]],.bool true),(.agg [.bool true,.str [97]],.bool true),(.agg [.bool false,.str [115]],.bool true),(.agg [.bool false,.str [120]],.bool true),(.agg [.bool true,.str [98]],.bool true)]
def q46:List V:=[.imp false q45]
def q48:List V:=[.imp false [(.agg [.bool false,.str [121]],.bool true)]]
def q50:List V:=[.imp false [(.agg [.bool true,.str [99]],.bool true)]]
def q52:List V:=[.imp false [(.agg [.bool false,.str [115]],.bool true)]]
def q54:List V:=[.imp false [(.agg [.bool true,.str [97]],.bool true)]]
def q56:List V:=[.imp false [(.agg [.bool false,.str [120]],.bool true)]]
def q58:List V:=[.imp false [(.agg [.bool true,.str [98]],.bool true)]]
def q59:List (V × V):=[(.agg [.bool true,.str [99]],.cT false q48),(.agg [.bool false,.str [122]],.cT false q50),(.agg [.bool true,.str [97]],.cT false q52),(.agg [.bool false,.str [120]],.cT false q54),(.agg [.bool true,.str [98]],.cT false q56),(.agg [.bool false,.str [121]],.cT false q58)]
def q61:List V:=[.imp false [(.agg [.bool false,.str [122]],.bool true)]]
def q62:List (V × V):=[(.agg [.bool false,.str [121]],.cT false q50),(.agg [.bool true,.str [99]],.cT false q61),(.agg [.bool false,.str [115]],.cT false q54),(.agg [.bool true,.str [97]],.cT false q56),(.agg [.bool false,.str [120]],.cT false q58),(.agg [.bool true,.str [98]],.cT false q48)]
def PC:List V:=[.imp false q36,.imp false Tn,.cT false q46,.imp false q59,.imp false q62]
def q71:List V:=[.str [116],.int .i64 3,.bP true [[.str [97]]] true,.aC,.int .i64 0]
def q74:List V:=[.str [120],.int .i64 4,.bP true [[.str [116]]] true,.aC,.int .i64 0]
def q76:List V:=[.str [121],.int .i64 2,.bP true [[.str [98]]] true,.aC,.int .i64 0]
def q77:List (List V):=[q71,q74,q76]
def RT:List V:=[.str [114],.bP true [[.str [97]],[.str [98]]] true,.bP true [[.str [120]],[.str [121]]] true,.aC,.bP true q77 true]
def Tm:List (List V):=[RT]
def q80:List V:=[.str [97],.int .i64 1,.bP true [[.str [120]]] true,.aC,.int .i64 0]
def q81:List (List V):=[q80]
def q82:List V:=[.str [115],.bP true [[.str [120]]] true,.bP true [[.str [97]]] true,.aC,.bP true q81 true]
def q83:List (List V):=[q82,RT]
def q93:List (V × V):=[(.str [99],.bP false [[.str [97]],[.str [98]]] false),(.str [97],.aC),(.str [98],.bP false [[.str [97]]] false)]
def Tv:List (List V):=[[.bool true,.str [50,10]],[.bool false,.str []]]
def Tu:List (List V):=[[.bool false,.str []],[.bool true,.str [122]]]
def Tt:List Nat:=[114,117,108,101,32,114,32,123,32,105,110,32,98,44,32,97,59,32,111,117,116,32,120,59,32,35,32,110,111,10,32,120,32,61,32,115,101,108,101,99,116,32,34,113,92,110,34,32,97,59,32,125]
def Ts:List V:=[.int .i64 1,.int .i64 0,.str [114,117,108,101]]
def q171:List V:=[.str [120],.int .i64 7,.bP false [[.str [97]]] true,.bP false [[.str [113,10]]] true,.int .i64 0]
def q172:List (List V):=[q171]
def q173:List V:=[.str [114],.bP false [[.str [98]],[.str [97]]] false,.bP false [[.str [120]]] true,.aC,.bP false q172 false]
def Tr:List (List V):=[q173]
def LL:List V:=[.cT false PC]
def q188:List (V × V):=[(.str [97],.bool true),(.str [98],.bool true)]
def Tq:List (V × V):=[(.str [97],.imp false []),(.str [98],.imp false [(.str [97],.bool true)]),(.str [99],.imp false q188)]
def t253:List (List V × V):=[([.int .i32 99],.bool true),([.int .i32 121],.bool true),([.int .i32 122],.bool true),([.int .i32 97],.bool true),([.int .i32 115],.bool true),([.int .i32 120],.bool true),([.int .i32 98],.bool true),([.int .i32 114],.bool true),([.int .i32 116],.bool true),([.int .i32 46],.bool true)]
noncomputable def RS:=sp0.put 253 (bE t253)
def t224:List (List V × V):=[([.str [99]],.bool false),([.str [121]],.bool false),([.str [122]],.bool false),([.str [97]],.bool false),([.str [115]],.bool false),([.str [120]],.bool false),([.str [98]],.bool false),([.str [114]],.bool false),([.str [116]],.bool false),([.str [98,46,99]],.bool false),([.str []],.bool true)]
noncomputable def PB:=RS.put 224 (bE t224)
def t186:List (List V × V):=[([.str [99]],.bool true),([.str [121]],.bool true),([.str [122]],.bool true),([.str [97]],.bool true),([.str [115]],.bool true),([.str [120]],.bool true),([.str [98]],.bool true),([.str [114]],.bool true),([.str [116]],.bool true),([.str [105,110]],.bool false),([.str [97,47,99]],.bool true),([.str [97,47,98,46,99]],.bool true),([.str [97,47,47,98]],.bool false),([.str [114,117,108,101]],.bool false)]
noncomputable def Gx:=PB.put 186 (bE t186)
def t199:List (List V × V):=[([.str [99]],.bool false),([.str [121]],.bool false),([.str [122]],.bool false),([.str [97]],.bool false),([.str [115]],.bool false),([.str [120]],.bool false),([.str [98]],.bool false),([.str [114]],.bool false),([.str [116]],.bool false)]
noncomputable def RR:=Gx.put 199 (bE t199)
def t125:List (List V × V):=[([.agg Ez],.bool true),([.agg q19],.bool true),([.agg q23],.bool true),([.agg q71],.bool true),([.agg q74],.bool true),([.agg q76],.bool true),([.agg q80],.bool true)]
noncomputable def sp5:=RR.put 125 (bE t125)
def t202:List (List V × V):=[([.bP false [[.str [121]]] true],.bool false),([.bP false [[.str [122]]] true],.bool false),([.bP false [[.str [97]]] true],.bool false),([.bP false [[.str [115]]] true],.bool false),([.bP false [[.str [120]]] true],.bool false),([.aC],.bool false),([.bP true [[.str [97]],[.str [98]]] true],.bool false),([.bP true [[.str [120]],[.str [121]]] true],.bool false),([.bP true [[.str [120]]] true],.bool false),([.bP true [[.str [97]]] true],.bool false)]
noncomputable def sp6:=sp5.put 202 (bE t202)
def t124:List (List V × V):=[([.agg KO],.int .i64 0),([.agg q21],.int .i64 0),([.agg q25],.int .i64 0),([.agg RT],.int .i64 0),([.agg q82],.int .i64 0)]
noncomputable def sp7:=sp6.put 124 (bE t124)
def t108:List (List V × V):=[([.bP true Gz true],.fJ [.int .i64 0,.str []]),([.bP true Tm true],.fJ [.int .i64 0,.str []]),([.bP true q83 true],.fJ [.int .i64 0,.str []])]
noncomputable def sp8:=sp7.put 108 (bE t108)
def t147:List (List V × V):=[([.bP true Gz true],.imp false q93),([.bP true Tm true],.imp false [(.str [114],.aC)]),([.bP true q83 true],.imp false [(.str [115],.bP false [[.str [114]]] false),(.str [114],.bP false [[.str [115]]] false)])]
noncomputable def sp9:=sp8.put 147 (bE t147)
def t109:List (List V × V):=[([.bP true Gz true],.aC),([.bP true Tm true],.aC),([.bP true q83 true],.bP false [[.str [114]],[.str [115]]] false)]
noncomputable def Qf:=sp9.put 109 (bE t109)
def t62:List (List V × V):=[([.bP true Gz true],.fJ [.int .i64 0,.str []]),([.bP true Tm true],.fJ [.int .i64 0,.str []]),([.bP true q83 true],.fJ [.int .i64 3,.str [114]])]
noncomputable def Qe:=Qf.put 62 (bE t62)
def t70:List (List V × V):=[([.agg KO],.agg q29),([.agg q21],.agg q32),([.agg q25],.agg q35)]
noncomputable def Lq:=Qe.put 70 (bE t70)
def t19:List (List V × V):=[([.bP true Gz true],.cT false PC)]
noncomputable def Lp:=Lq.put 19 (bE t19)
def t63:List (List V × V):=[([.bP true Gz true],.imp false q93)]
noncomputable def Ln:=Lp.put 63 (bE t63)
def t14:List (List V × V):=[([.bP true Gz true],.bP false [[.str [97]],[.str [98]],[.str [99]]] false)]
noncomputable def Lm:=Ln.put 14 (bE t14)
def t15:List (List V × V):=[([.bP true Gz true],.bP false [[.bP false [[.str [97]]] false],[.bP false [[.str [98]]] false],[.bP false [[.str [99]]] false]] false)]
noncomputable def Ll:=Lm.put 15 (bE t15)
def t94:List (List V × V):=[([.bP true Gz true],.imp false Tq)]
noncomputable def Lj:=Ll.put 94 (bE t94)
def t93:List (List V × V):=[([.bP true Gz true,.imp false Tq,.agg KO,.str [97]],.bool true)]
noncomputable def Li:=Lj.put 93 (bE t93)
def t53:List (List V × V):=[([.bP true Gz true,.str [99],.str [97]],.bool true)]
noncomputable def Lh:=Li.put 53 (bE t53)
def t54:List (List V × V):=[([.bP true Gz true],.bP false [[.str [99],.bP false [[.str [121]]] true,.bP false [[.str [122]]] true,.bP false [] false,.bP false GA true],q21,q25] false)]
noncomputable def NL:=Lh.put 54 (bE t54)
def t114:List (List V × V):=[([.agg RT,.bP true [[.bool true,.str [113,10,112]],[.bool true,.str []]] true],.bP false Tv false),([.agg RT,.bP true Tu false],.bP false Tu false),([.agg RT,.bP true [[.bool true,.str [50,10,49]],[.bool false,.str []]] false],.bP false Tv false)]
noncomputable def Qd:=NL.put 114 (bE t114)
def t117:List (List V × V):=[([.bP true Tm true,.cT true [.imp true [(.str [97],.str [50,10,49])]],.bP true [[.str [120]],[.str [97]],[.str [121]]] true],.bP false [[.bool true,.str [50,10]],[.bool true,.str [50,10,49]],[.bool false,.str []]] true)]
noncomputable def NK:=Qd.put 117 (bE t117)
def t189:List (List V × V):=[([.str [97,32,34,92,120,52,49,34,32,59]],.fJ [.bP false [[.int .i64 1,.int .i64 0,.str [97]],[.int .i64 2,.int .i64 2,.str [65]],[.int .i64 3,.int .i64 9,.str [59]],[.int .i64 4,.int .i64 10,.str []]] false,.agg [.int .i64 0,.int .i64 0]]),([.str Tt],.fJ [.bP false [Ts,[.int .i64 1,.int .i64 5,.str [114]],[.int .i64 3,.int .i64 7,.str [123]],[.int .i64 1,.int .i64 9,.str [105,110]],[.int .i64 1,.int .i64 12,.str [98]],[.int .i64 3,.int .i64 13,.str [44]],[.int .i64 1,.int .i64 15,.str [97]],[.int .i64 3,.int .i64 16,.str [59]],[.int .i64 1,.int .i64 18,.str [111,117,116]],[.int .i64 1,.int .i64 22,.str [120]],[.int .i64 3,.int .i64 23,.str [59]],[.int .i64 1,.int .i64 31,.str [120]],[.int .i64 3,.int .i64 33,.str [61]],[.int .i64 1,.int .i64 35,.str [115,101,108,101,99,116]],[.int .i64 2,.int .i64 42,.str [113,10]],[.int .i64 1,.int .i64 48,.str [97]],[.int .i64 3,.int .i64 49,.str [59]],[.int .i64 3,.int .i64 51,.str [125]],[.int .i64 4,.int .i64 52,.str []]] false,.agg [.int .i64 0,.int .i64 0]]),([.str [114,117,108,101,32,105,110,32,123]],.fJ [.bP false [Ts,[.int .i64 1,.int .i64 5,.str [105,110]],[.int .i64 3,.int .i64 8,.str [123]],[.int .i64 4,.int .i64 9,.str []]] false,.agg [.int .i64 0,.int .i64 0]])]
noncomputable def Qc:=NK.put 189 (bE t189)
def t190:List (List V × V):=[([.str Tt],.fJ [.bP false Tr false,.agg [.int .i64 0,.int .i64 0]]),([.str [114,117,108,101,32,105,110,32,123]],.fJ [.aC,.agg [.int .i64 1,.int .i64 5]])]
noncomputable def NJ:=Qc.put 190 (bE t190)
def t193:List (List V × V):=[([.bP false Tr false],.str [114,117,108,101,32,114,32,123,10,32,32,105,110,32,97,44,32,98,59,10,32,32,111,117,116,32,120,59,10,32,32,120,32,61,32,115,101,108,101,99,116,32,34,113,92,110,34,32,97,59,10,125,10])]
noncomputable def NI:=NJ.put 193 (bE t193)
def t229:List (List V × V):=[([],.bool true)]
noncomputable def Qb:=NI.put 229 (bE t229)
def t163:List (List V × V):=[([],.bool true)]
noncomputable def Qa:=Qb.put 163 (bE t163)
def t86:List (List V × V):=[([],.bool true)]
noncomputable def NH:=Qa.put 86 (bE t86)
def t75:List (List V × V):=[([.cT false PC,.int .i64 1,.fn 23 LL [],.bP false [[.bool false,.str [122]]] true],.bP false [[.bool false,.str [122]],[.bool true,.str [99]]] false),([.cT false PC,.int .i64 (-1),.fn 36 LL [],.bP false [[.bool false,.str [121]]] true],.bP false [[.bool false,.str [121]],[.bool false,.str [122]],[.bool true,.str [99]]] false),([.cT false PC,.int .i64 (-1),.fn 23 LL [],.bP true [[.bool false,.str [121]]] false],.bP false [[.bool false,.str [115]],[.bool false,.str [120]],[.bool false,.str [121]],[.bool true,.str [97]],[.bool true,.str [98]]] false),([.cT false PC,.int .i64 (-1),.fn 23 LL [],.bP false [[.bool false,.str [122]]] true],.bP false [[.bool false,.str [115]],[.bool false,.str [120]],[.bool false,.str [121]],[.bool false,.str [122]],[.bool true,.str [97]],[.bool true,.str [98]],[.bool true,.str [99]]] false),([.cT false PC,.int .i64 (-1),.fn 36 LL [],.bP false [[.bool false,.str [120]]] true],.bP false [[.bool false,.str [120]],[.bool false,.str [121]],[.bool false,.str [122]],[.bool true,.str [98]],[.bool true,.str [99]]] false)]
noncomputable def P_:=NH.put 75 (bE t75)
def t82:List (List V × V):=[([.cT false PC,.bP true [[.bool false,.str [120]]] true],.imp false [(.agg [.bool false,.str [120]],.int .i64 0),(.agg [.bool true,.str [98]],.int .i64 1),(.agg [.bool false,.str [121]],.int .i64 2),(.agg [.bool true,.str [99]],.int .i64 3),(.agg [.bool false,.str [122]],.int .i64 4)])]
noncomputable def P9:=P_.put 82 (bE t82)
def t11:List (List V × V):=[([],.bool true)]
noncomputable def Sa:=P9.put 11 (bE t11)
end Go.Proofs.YtlbbdpkjeeiahaaGreatDoor
end
