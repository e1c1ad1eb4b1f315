/- Part 19 of the proof. -/
import Derived.Test.YtmhchflckonklaaGreatDoorY
import Derived.Test.YtmhchflckonklaaGreatDoorZ18
import Derived.Test.YtmhchflckonklaaGreatDoorZ16
import Derived.Test.YtmhchflckonklaaGreatDoorZ15
import Derived.Test.YtmhchflckonklaaGreatDoorZ17
set_option maxHeartbeats 8000000
set_option linter.unusedVariables false
set_option maxRecDepth 100000
open Nat (reduceEqDiff reduceLT reduceAdd reduceLeDiff reduceMul)
open Int (reduceNeg)
section
namespace Go.Proofs.YtmhchflckonklaaGreatDoor
open Go Go.Ax Go.AxS
section
section
variable {E:Env} {Z:Sg} {K:V -> Sg -> Prop}
structure Ri (nx:aI -> List aI) (all A0:List aI) (P:aI -> Prop) (A more:List aI):Prop where
 mem:∀ x,x ∈ A ↔ x ∈ A0 \/ P x
 new:∀ x,x ∈ more ↔ x ∈ A /\ x ∉ A0
 sub:∀ x,x ∈ A -> x ∈ all
 len:more.length <= A.length
 nd:A.Nodup
 up:A0.length <= A.length /\ (more ≠ [] -> A0.length < A.length)
theorem Ri.le {nx:aI -> List aI} {all A0 A more:List aI} {P:aI -> Prop} (h:Ri nx all A0 P A more) (hal:all.length <= 2000):A.length <= 2000:=cm (kN h.nd h.sub) hal
theorem Ri.old {nx:aI -> List aI} {all A0 A more:List aI} {P P':aI -> Prop} (h:Ri nx all A0 P A more) {x:aI} (hx:x ∈ A) (hP:∀ y,P' y ↔ P y \/ y = x):Ri nx all A0 P' A more:=⟨fun y=>by
 rw [hP,<- or_assoc,<- h.mem]
 exact ⟨.inl,fun h=>h.elim id fun e=>by rw [e]; exact hx⟩,h.new,h.sub,h.len,h.nd,h.up⟩
theorem Ri.fresh {nx:aI -> List aI} {all A0 A more:List aI} {P P':aI -> Prop} (h:Ri nx all A0 P A more) {x:aI} (hx:x ∉ A) (ha:x ∈ all) (hP:∀ y,P' y ↔ P y \/ y = x):Ri nx all A0 P' (A ++ [x]) (more ++ [x]):=by
 have hx0:x ∉ A0:=fun e=>hx ((h.mem x).2 (.inl e))
 refine ⟨fun y=>?_,fun y=>?_,fun y hy=>?_,by simp only [Z7,Z0,ZN]; have:=h.len; omega,gu.2 ⟨h.nd,List.pairwise_singleton ..,fun a ha b hb e=>hx (by rw [ae] at hb; rw [<- hb,<- e]; exact ha)⟩,?_⟩
 ·rw [hP,<- or_assoc,<- h.mem,aa,ae]
 ·rw [aa,aa,ae,h.new]
  constructor
  ·rintro (⟨h1,h2⟩ | rfl)
   ·exact ⟨.inl h1,h2⟩
   ·exact ⟨.inr rfl,hx0⟩
  ·rintro ⟨h1 | h1,h2⟩
   ·exact .inl ⟨h1,h2⟩
   ·exact .inr h1
 ·rcases aa.1 hy with h1 | h1
  ·exact h.sub y h1
  ·rw [ae.1 h1]; exact ha
 ·have:=h.up.1
  simp only [Z7,Z0,ZN]
  exact ⟨by omega,fun _=>by omega⟩
theorem Ri.congr {nx:aI -> List aI} {all A0 A more:List aI} {P P':aI -> Prop} (h:Ri nx all A0 P A more) (hP:∀ y,P' y ↔ P y):Ri nx all A0 P' A more:=⟨fun y=>by rw [hP]; exact h.mem y,h.new,h.sub,h.len,h.nd,h.up⟩
theorem mL {l:List aI} {j:Nat} {x:aI} (hj:l[j]? = some x) (y:aI):y ∈ l.take (j + 1) ↔ y ∈ l.take j \/ y = x:=by
 rw [bh,hj]
 simp
theorem pE (a:Bool) (s:bC):Ax.fill (fun j=>some (j * 2,2)) (iA 1 [V.bool false,V.str []]) [(0,V.agg [V.bool a,V.str s])] = some [.bool a,.str s]:=rfl
theorem IB (hl:Lb.cQ E) {Y:Sg} {w:V} {l:List aI} (on:bA eU 51 Y w l) {i:Nat} {y:aI} (hy:l[i]? = some y):∃ b o u cs ex,indexAddr E 23 w (.int .i64 (i:Int)) = some (.ref b o) /\ Y[b]? = some (.cells u cs ex) /\ o + 2 <= cs.length /\ (cs.drop o).take 2 = row y:=by
 obtain ⟨p,r0,e1,hr0,-,-,hp⟩:=HE hl.kI rfl hl.cP rfl on.ls hy
 obtain rfl:r0 = row y:=hr0
 rcases hp with ⟨g,rfl⟩ | ⟨b,o,rfl,u,cs,ex,hb,hle,hrow⟩
 ·exfalso
  rcases on with ⟨rfl,rfl⟩ | ⟨b,rs,ex,rfl,hb,-⟩
  ·cases hy
  ·unfold indexAddr at e1
   simp only [hl.kI,hl.cP] at e1
   repeat' split at e1
   all_goals cases e1
 ·exact ⟨b,o,u,cs,ex,e1,hb,hle,hrow⟩
end
end
section
section
variable {E:Env} {Z:Sg} {K:V -> Sg -> Prop}
structure Sd (rs:List aC) (l A now:List aI):Prop where
 mem:∀ x,x ∈ A ↔ x ∈ l /\ x ∈ gC rs
 nw:∀ x,x ∈ now ↔ x ∈ A
 len:now.length <= A.length
theorem Sd.old {rs:List aC} {ls A now:List aI} {j:Nat} {x:aI} (h:Sd rs (ls.take j) A now) (hx:ls[j]? = some x) (hA:x ∈ gC rs -> x ∈ A):Sd rs (ls.take (j + 1)) A now:=⟨fun y=>by
 rw [h.mem,mL hx]
 constructor
 ·exact fun e=>⟨.inl e.1,e.2⟩
 ·rintro ⟨e | rfl,e2⟩
  ·exact ⟨e,e2⟩
  ·exact (h.mem _).1 (hA e2),h.nw,h.len⟩
theorem Sd.fresh {rs:List aC} {ls A now:List aI} {j:Nat} {x:aI} (h:Sd rs (ls.take j) A now) (hx:ls[j]? = some x) (ha:x ∈ gC rs):Sd rs (ls.take (j + 1)) (A ++ [x]) (now ++ [x]):=⟨fun y=>by
 rw [aa,h.mem,mL hx,ae]
 constructor
 ·rintro (e | rfl)
  ·exact ⟨.inl e.1,e.2⟩
  ·exact ⟨.inr rfl,ha⟩
 ·rintro ⟨e | rfl,e2⟩
  ·exact .inl ⟨e,e2⟩
  ·exact .inr rfl,fun y=>by rw [aa,aa,h.nw],by have:=h.len; rw [Z7,Z7]; omega⟩
theorem Kb {rs:List aC} {x:aI} (hx:x ∈ gC rs):kindOf rs x ≠ 0:=by
 unfold kindOf
 rw [ZO hx]
 split
 ·decide
 ·split <;> decide
theorem GP {rs:List aC} {x:aI} (hx:x ∉ gC rs):kindOf rs x = 0:=ZM hx
end
end
section
section
variable {E:Env} {Z:Sg} {K:V -> Sg -> Prop}
theorem Ex.bD {g:V} {rs:List aC} (hg:Ex E rs g):Ax.bD g = true:=by
 obtain ⟨es0,es1,get,A,L3,L4,rfl,-⟩:=hg
 rfl
theorem C0.cK {v:V} {l:List aI} (hv:C0 v l) (Y:Sg):cK Y E.ty false v = some v:=by
 rcases hv with ⟨rfl,-⟩ | ⟨full,rfl⟩ <;> rfl
theorem GA {rs:List aC} (x y:aI) (hy:y ∈ iS rs x):y ∈ gC rs:=(JV (qO.1 hy)).2
theorem FN {rs:List aC} (x y:aI) (hy:y ∈ jI rs x):y ∈ gC rs:=(JV (zL.1 hy)).1
end
end
section
structure CW (E:Env):Prop where
 hs96:E.hspec 96 = none
 sp96:E.spec 96 = none
 fn96:E.fn 96 = some (aA Tryz.f96)
 md96:E.mode 96 = .eW
 T4:aL E (cutAt [1,1,1,1,0,2,2,1,2,1,0,1,2,2,1,1,0,2,1,1,2,2,1,1,0,2,1,1,1,0,0] (aA Tryz.f96).code) = true
 hs34:E.hspec 34 = none
 sp34:E.spec 34 = none
 fn34:E.fn 34 = some (aA Tryz.f34)
 md34:E.mode 34 = .eW
 hs98:E.hspec 98 = none
 sp98:E.spec 98 = none
 fn98:E.fn 98 = some (aA Tryz.f98)
 md98:E.mode 98 = .eW
 hs40:E.hspec 40 = none
 sp40:E.spec 40 = none
 fn40:E.fn 40 = some (aA Tryz.f40)
 md40:E.mode 40 = .eW
 Zu:aL E (cutAt [1,0,1,2,2,1,1,0,2,1,0] (aA Tryz.f40).code) = true
 XA:E.hspec 97 = none
 U0:E.spec 97 = none
 Yq:E.fn 97 = some (aA Tryz.f97)
 WC:E.mode 97 = .eW
 Yj:E.hspec 103 = none
 VJ:E.spec 103 = none
 Y7:E.fn 103 = some (aA Tryz.f103)
 Xo:E.mode 103 = .eW
 X_:E.hspec 132 = none
 Vz:E.spec 132 = none
 YX:E.fn 132 = some (aA Tryz.f132)
 Xe:E.mode 132 = .eW
 Uc:aL E (cutAt [1,0,1,2,2,1,1,0,2,1,0] (aA Tryz.f132).code) = true
 vC:E.ty 128 = some { kd:=.map 51 3,size:=1,bytes:=8,zero:=.bU }
section
variable {E:Env} {Z:Sg} {K:V -> Sg -> Prop}
def FD (nx:aI -> List aI) (s0:aI -> Prop) (d:Nat) (x:aI):Prop:=Rk nx s0 d x /\ ∀ d',d' < d -> ¬ Rk nx s0 d' x
section
variable {nx:aI -> List aI} {s0:aI -> Prop}
theorem FD.uniq {d e:Nat} {x:aI} (h:FD nx s0 d x) (h':FD nx s0 e x):d = e:=by
 rcases fm d e with h1 | h1 | h1
 ·exact absurd h.1 (h'.2 d h1)
 ·exact h1
 ·exact absurd h'.1 (h.2 e h1)
theorem FD.some {n:Nat} {x:aI} (h:Rk nx s0 n x):∃ d,d <= n /\ FD nx s0 d x:=by
 induction n using Nat.strongRecOn with
 | _ n ih=>
  by_cases hx:∃ m,m < n /\ Rk nx s0 m x
  ·obtain ⟨m,hm,hr⟩:=hx
   obtain ⟨d,hd,hi⟩:=ih m hm hr
   exact ⟨d,by omega,hi⟩
  ·exact ⟨n,Z1 _,h,fun d' hd hr=>hx ⟨d',hd,hr⟩⟩
theorem FD.back {d:Nat} {x:aI} (h:FD nx s0 (d + 1) x):∃ y,FD nx s0 d y /\ x ∈ nx y:=by
 rcases h.1 with h1 | ⟨y,hy,hx⟩
 ·exact absurd h1 (h.2 d (jn d))
 ·refine ⟨y,⟨hy,fun d' hd hr=>?_⟩,hx⟩
  exact h.2 (d' + 1) (by omega) (.inr ⟨y,hr,hx⟩)
theorem FD.next {d e:Nat} {x y:aI} (h:FD nx s0 d y) (hx:x ∈ nx y) (h':FD nx s0 e x):e <= d + 1:=
 k8 fun hlt=>h'.2 (d + 1) hlt (.inr ⟨y,h.1,hx⟩)
structure Di (nx:aI -> List aI) (s0:aI -> Prop) (k:Nat) (A now:List aI) (f:aI -> Option Nat):Prop where
 rd:Rd nx s0 k A now
 is:∀ x,x ∈ A -> ∃ d,f x = some d /\ FD nx s0 d x
 no:∀ x,x ∉ A -> f x = none
 last:∀ x,x ∈ now -> FD nx s0 k x
theorem Di.start {A now:List aI} {f:aI -> Option Nat} (h1:∀ x,x ∈ A ↔ s0 x) (h2:∀ x,x ∈ now ↔ x ∈ A) (hf:∀ x,x ∈ A -> f x = some 0) (hn:∀ x,x ∉ A -> f x = none):Di nx s0 0 A now f:=
 ⟨Rd.start h1 h2,fun x hx=>⟨0,hf x hx,(h1 x).1 hx,fun d' hd=>by omega⟩,hn,fun x hx=>⟨(h1 x).1 ((h2 x).1 hx),fun d' hd=>by omega⟩⟩
theorem Di.next {k:Nat} {A now A' more:List aI} {f f':aI -> Option Nat} (h:Di nx s0 k A now f) (h1:∀ x,x ∈ A' ↔ x ∈ A \/ ∃ y ∈ now,x ∈ nx y) (h2:∀ x,x ∈ more ↔ x ∈ A' /\ x ∉ A) (hf:∀ x,x ∈ more -> f' x = some (k + 1)) (hf':∀ x,x ∉ more -> f' x = f x):Di nx s0 (k + 1) A' more f':=by
 have rd:=h.rd.next h1 h2
 have hm:∀ x,x ∈ more -> FD nx s0 (k + 1) x:=fun x hx=>by
  obtain ⟨hA',hA⟩:=(h2 x).1 hx
  exact ⟨(rd.all x).1 hA',fun d' hd hr=>hA ((h.rd.all x).2 (hr.mono (by omega)))⟩
 refine ⟨rd,fun x hx=>?_,fun x hx=>?_,hm⟩
 ·by_cases hxm:x ∈ more
  ·exact ⟨k + 1,hf x hxm,hm x hxm⟩
  ·have hxA:x ∈ A:=Classical.byContradiction fun hn=>hxm ((h2 x).2 ⟨hx,hn⟩)
   rw [hf' x hxm]
   exact h.is x hxA
 ·rw [hf' x fun hxm=>hx ((h2 x).1 hxm).1]
  exact h.no x fun hxA=>hx ((h1 x).2 (.inl hxA))
theorem Di.fin {k:Nat} {A:List aI} {f:aI -> Option Nat} (h:Di nx s0 k A [] f) (x:aI) (d:Nat):f x = some d ↔ FD nx s0 d x:=by
 constructor
 ·intro hx
  by_cases hA:x ∈ A
  ·obtain ⟨e,h1,h2⟩:=h.is x hA
   rw [hx] at h1
   cases h1
   exact h2
  ·rw [h.no x hA] at hx; cases hx
 ·intro hd
  have hA:x ∈ A:=(h.rd.still (bJ:=-1) (by omega) x).2 (.inl ⟨by omega,d,hd.1⟩)
  obtain ⟨e,h1,h2⟩:=h.is x hA
  rw [h1,h2.uniq hd]
end
def dV (p:aI × Nat):V × V:=(jR p.1,.int .i64 (p.2:Int))
def oF (D:List (aI × Nat)) (x:aI):Option Nat:=(D.find? fun p=>decide (x = p.1)).map Prod.snd
theorem qV {D:List (aI × Nat)} {x:aI}:oF D x = none ↔ x ∉ D.map Prod.fst:=by
 unfold oF
 rw [Option.map_eq_none_iff,jc,ah]
 constructor
 ·rintro h ⟨p,hp,rfl⟩
  exact h p hp (BY rfl)
 ·exact fun h p hp e=>h ⟨p,hp,(bf e).symm⟩
theorem Hs {D:List (aI × Nat)} {x:aI} (hx:x ∉ D.map Prod.fst) (d:Nat) (y:aI):oF (D ++ [(x,d)]) y = if y = x then some d else oF D y:=by
 have h0:=qV.2 hx
 unfold oF at h0 ⊢
 rw [List.find?_append]
 by_cases hy:y = x
 ·subst hy
  rw [Option.map_eq_none_iff] at h0
  rw [h0,ZO rfl]
  simp only [jj,Option.none_or,decide_true,ZX]
 ·rw [ZM hy]
  simp only [jj,List.find?_nil,AS hy,Option.or_none]
theorem B8 (hl:Lb.cQ E) (x:aI):∀ D:List (aI × Nat),iG (dQ E 51) (jR x) (D.map dV) = some ((oF D x).map fun (d:Nat)=>V.int .i64 (d:Int))
 | []=>rfl
 | p :: D=>by
  show (match dQ E 51 (.agg [.bool x.1,.str x.2]) (.agg [.bool p.1.1,.str p.1.2]) with
   | some true=>some (some (V.int .i64 (p.2:Int)))
   | some false=>iG (dQ E 51) (jR x) (D.map dV)
   | none=>none) = _
  unfold oF
  rw [Lb.mM hl,jj]
  by_cases h:x = p.1
  ·rw [BY (show ((x.1,x.2):aI) = (p.1.1,p.1.2) from h)]; rfl
  ·rw [AS (show ¬ ((x.1,x.2):aI) = (p.1.1,p.1.2) from h)]
   exact B8 hl x D
theorem JZ (hl:Lb.cQ E) (x:aI) (d:Nat):∀ D:List (aI × Nat),x ∉ D.map Prod.fst -> jY (dQ E 51) (jR x) (.int .i64 (d:Int)) (D.map dV) = some ((D ++ [(x,d)]).map dV)
 | [],_=>rfl
 | p :: D,h=>by
  have hx:x ≠ p.1:=fun e=>h (by rw [e]; exact IN ..)
  show (match dQ E 51 (.agg [.bool x.1,.str x.2]) (.agg [.bool p.1.1,.str p.1.2]) with
   | some true=>some ((jR x,V.int .i64 (d:Int)) :: D.map dV)
   | some false=>(match jY (dQ E 51) (jR x) (.int .i64 (d:Int)) (D.map dV) with
    | some r=>some (dV p :: r)
    | none=>none)
   | none=>none) = _
  rw [Lb.mM hl,AS (show ¬ ((x.1,x.2):aI) = (p.1.1,p.1.2) from hx),JZ hl x d D fun hm=>h (OF _ hm)]
  rfl
theorem Bc (h:bH E) (hl:Lb.cQ E) (tr:CW E) {Z:Sg} {v:V} {D:List (aI × Nat)} (hv:entriesOf Z v = some (D.map dV)) (x:aI):lookup E Z 128 v (.agg [.bool x.1,.str x.2]) true = some (.gB [.int .i64 (((oF D x).getD 0:Nat):Int),.bool (oF D x).isSome]):=by
 have hk:=Lb.lG hl x.1 x.2
 have hf:=B8 hl x D
 unfold jR at hf
 unfold Ax.lookup
 simp only [tr.vC,h.mZ,hk,hv,hf,aq,Z4,ZK]
 cases oF D x <;> rfl
theorem NK (h:bH E) (hl:Lb.cQ E) (tr:CW E) {Z:Sg} {v:V} {D:List (aI × Nat)} (hv:entriesOf Z v = some (D.map dV)) {x:aI} {d:Nat} (hd:oF D x = some d):lookup E Z 128 v (.agg [.bool x.1,.str x.2]) false = some (.int .i64 (d:Int)):=by
 have hk:=Lb.lG hl x.1 x.2
 have hf:=B8 hl x D
 rw [hd] at hf
 unfold jR at hf
 unfold Ax.lookup
 simp only [tr.vC,h.mZ,hk,hv,hf,aq,Z4,ZK]
 rfl
theorem Ni (hl:Lb.cQ E) (tr:CW E) {Z:Sg} {b:Nat} {D:List (aI × Nat)} (hb:Z[b]? = some (.map (D.map dV))) {x:aI} (hx:x ∉ D.map Prod.fst) (d:Nat):mapUpdate E Z 128 (.mp b) (.agg [.bool x.1,.str x.2]) (.int .i64 (d:Int)) = some (Z.set b (.map ((D ++ [(x,d)]).map dV))):=by
 have hk:=Lb.lG hl x.1 x.2
 have hp:=JZ hl x d D hx
 unfold jR at hp
 unfold Ax.mapUpdate
 simp only [tr.vC,hk,hb,hp,eT,V.aZ,aq,ey,Z4,ZK,ZX]
theorem PL {Z:Sg} {b:Nat} {g:Bool} {D:List (aI × Nat)} (hb:Z[b]? = some (.map (D.map dV))) {n:Nat}:bO Z E.ty g (n + 2) (.mp b) = some (.imp g (D.map dV)):=by
 rw [bO]
 simp only [hb]
 rw [B_ (k:=dV) fun p _=>?_]
 have hp:(jR p.1).cells.all Ax.plainCell = true:=rfl
 show (if (jR p.1).cells.all Ax.plainCell = true then (match (match bO Z E.ty g (n + 1) (.int .i64 (p.2:Int)) with
   | some v=>if cH g v then some v else no "snap: borrowed"
   | none=>none) with
   | some v=>some (jR p.1,v)
   | none=>none) else none) = _
 rw [ZO hp,iW rfl]
 cases g <;> rfl
end
end
section
section
variable {E:Env} {Z:Sg} {K:V -> Sg -> Prop}
def Fi (D0 D:List (aI × Nat)) (more:List aI) (k:Nat):Prop:=∀ x,oF D x = if x ∈ more then some (k + 1) else oF D0 x
theorem Fi.start (D0:List (aI × Nat)) (k:Nat):Fi D0 D0 [] k:=fun x=>by rw [ZM (by simp)]
theorem Fi.fresh {D0 D:List (aI × Nat)} {more:List aI} {k:Nat} (h:Fi D0 D more k) {x:aI} (hx:x ∉ D.map Prod.fst):Fi D0 (D ++ [(x,k + 1)]) (more ++ [x]) k:=fun y=>by
 rw [Hs hx]
 by_cases hy:y = x
 ·rw [ZO hy,ZO (by rw [hy]; simp)]
 ·rw [ZM hy,h y]
  by_cases hm:y ∈ more
  ·rw [ZO hm,ZO (by simp [hm])]
  ·rw [ZM hm,ZM (by simp [hm,hy])]
theorem IE {Y:Sg} {w:V} {l:List aI} {b:Nat} {es:List (V × V)} {y:O} (ow:bA eU 51 Y w l) (hb:Y[b]? = some (.map es)):bA eU 51 (Y.set b y) w l:=ow.keep fun c o hc ho=>by
 rw [No (fun e=>?_)]
 ·exact ho
 ·subst e
  exact Gv ow (fun u ex e=>by rw [hb] at e; cases e) hc
theorem NA {Y τ':Sg} {w:V} {l:List aI} {b:Nat} {es:List (V × V)} (hb:Y[b]? = some (.map es)) (ow:bA eU 51 Y w l) (hk:Sp Y τ' w):τ'[b]? = some (.map es):=hk _ _ hb (Gv ow fun u ex e=>by rw [hb] at e; cases e)
theorem T3 (h:bH E) (h':pV E) (hl:Lb.cQ E) (q:Dn E) (tr:CW E) {b k:Nat} {g:V} {rs:List aC} (hg:Ex E rs g) (hf:Fits rs) {D0 D:List (aI × Nat)} {more now:List aI} {P P':aI -> Prop} {wn wm:V} {i:Nat} {y:aI} {Y:Sg}
  (hb:Y[b]? = some (.map (D.map dV))) (on:bA eU 51 Y wn now) (om:bA eU 51 Y wm more) (hne:∀ c,aQ wm = some c -> aQ wn ≠ some c) (hy:now[i]? = some y) (ri:Ri (jI rs) (gC rs) (D0.map Prod.fst) P (D.map Prod.fst) more) (fi:Fi D0 D more k) (hy0:oF D0 y = some k) (hkb:k <= 1000000) (hP:∀ x,P' x ↔ P x \/ x ∈ jI rs y)
  (F:FT) (g0:F.get 0 = g) (g5:F.get 5 = .mp b) (g11:F.get 11 = wm) (g49:F.get 49 = wn) (g51:F.get 51 = .int .i64 (i:Int)) {st:List jG} {Q:Ax.X -> Fr -> Sg -> Prop}
  (hk:∀ F' τ' wm' D' more',(∀ k,k ∈ [0,5,49,50,51] -> F'.get k = F.get k) -> F'.get 11 = wm' -> τ'[b]? = some (.map (D'.map dV)) -> bA eU 51 τ' wn now -> bA eU 51 τ' wm' more' -> (∀ c,aQ wm' = some c -> aQ wn ≠ some c) -> Ri (jI rs) (gC rs) (D0.map Prod.fst) P' (D'.map Prod.fst) more' -> Fi D0 D' more' k -> M E st .normal ⟨85,F'⟩ τ' Q):Ax.R E (cutAt [1,1,1,1,0,2,2,1,2,1,0,1,2,2,1,1,0,2] (aA Tryz.f96).code) st ⟨85,F⟩ Y Q:=by
 obtain ⟨c,o,u,cs,ex,e1,hc,hle,hrow⟩:=IB hl on hy
 have hlen:=uE hf
 have hyA:y ∈ D0.map Prod.fst:=Classical.byContradiction fun hn=>by rw [qV.2 hn] at hy0; cases hy0
 have d21:=tr.T4
 simp only [aA,Tryz.f96,cutAt,Z9] at d21
 simp only [aA,Tryz.f96,KP,Ax.loadAt,Ax.storeAt,↓reduceIte,reduceEqDiff,reduceLT,reduceAdd,reduceCtorEq,h.cP,cutAt,g0,g49,g51,e1,hc,hle,hrow,row,aK,bV]
 refine aP (OG h h' hl q hg hf y) ?_
 rintro v σ' ⟨rfl,hv⟩
 have hvi:=hv.Pe.is
 have la:=iT h hvi
 have hadl:jI rs y ⊆ gC rs:=fun x hx=>FN y x hx
 have hnl:(jI rs y).length <= 2000:=cm (kN (FO rs y).nodup hadl) hlen
 have hz1:(Y ++ [O.cells 51 [.bool y.1,.str y.2] true])[Y.length]? = some (O.cells 51 [.bool y.1,.str y.2] true):=aK
 have hb1:(Y ++ [O.cells 51 [.bool y.1,.str y.2] true])[b]? = some (.map (D.map dV)):=aN hb
 have on1:=on.app [O.cells 51 [.bool y.1,.str y.2] true]
 have om1:=om.app [O.cells 51 [.bool y.1,.str y.2] true]
 have hmz:∀ c,aQ wm = some c -> c ≠ Y.length:=fun c hc e=>by have:=RU om hc; omega
 generalize Y ++ [O.cells 51 [.bool y.1,.str y.2] true] = τ1 at hz1 hb1 on1 om1 ⊢
 generalize Y.length = z at hz1 hmz ⊢
 simp only [KP,↓reduceIte,reduceLT,la]
 generalize jI rs y = L at hvi hv la hnl hP hadl
 refine aV (fun j F2 τ2=>(∀ k,k ∈ [0,5,49,50,51] -> F2.get k = F.get k) /\ F2.get 13 = .ref z 0 /\ F2.get 57 = v /\ F2.get 58 = .int .i64 (L.length:Int) /\ F2.get 59 = .int .i64 (j:Int) /\ τ2[z]? = some (O.cells 51 [.bool y.1,.str y.2] true) /\ ∃ D more wm,F2.get 11 = wm /\ τ2[b]? = some (.map (D.map dV)) /\ bA eU 51 τ2 wn now /\ bA eU 51 τ2 wm more /\ (∀ c,aQ wm = some c -> aQ wn ≠ some c) /\ (∀ c,aQ wm = some c -> c ≠ z) /\ Ri (jI rs) (gC rs) (D0.map Prod.fst) (fun x=>P x \/ x ∈ L.take j) (D.map Prod.fst) more /\ Fi D0 D more k) L.length ?_ ?_ L.length 0 _ _ (by omega) ⟨?_,(fE (by simp +decide only [GS,Z5]) ⟨hz1,D,more,wm,(by simp +decide only [GS,g11]),hb1,on1,om1,hne,hmz,ri.congr fun x=>by simp,fi⟩)⟩
 ·clear hb1 on1 om1 hne hmz ri fi hz1 on om hb
  rintro j F2 τ2 hj ⟨hF,g13,g57,g58,g59,hz,D,more,wm,g11,hb,on,om,hne,hmz,ri,fi⟩ next
  obtain ⟨x,hx⟩:∃ x,L[j]? = some x:=⟨_,AT hj⟩
  obtain ⟨gi,e1⟩:=wL h hvi hx
  have hlt:=dZ hj
  have hadd:=bY j (by omega)
  have f5:F2.get 5 = .mp b:=(hF 5 (by simp)).trans g5
  have hAl:=ri.le hlen
  have hml:=ri.len
  have hym:y ∉ more:=fun e=>((ri.new y).1 e).2 hyA
  have hyD:oF D y = some k:=by rw [fi y,ZM hym]; exact hy0
  have hzb:z ≠ b:=fun e=>by rw [e,hb] at hz; cases hz
  have lk:=fun (Z:Sg) (hσ:Z[b]? = some (.map (D.map dV)))=>Bc (Z:=Z) (v:=.mp b) h hl tr (show entriesOf Z (.mp b) = some (D.map dV) by unfold entriesOf; simp only [hσ]) x
  rw [aG]
  have hz2:(τ2 ++ [O.cells 51 [.bool x.1,.str x.2] true])[τ2.length]? = some (O.cells 51 [.bool x.1,.str x.2] true):=aK
  have hzz:(τ2 ++ [O.cells 51 [.bool x.1,.str x.2] true])[z]? = some (O.cells 51 [.bool y.1,.str y.2] true):=aN hz
  have hb2:(τ2 ++ [O.cells 51 [.bool x.1,.str x.2] true])[b]? = some (.map (D.map dV)):=aN hb
  have on2:=on.app [O.cells 51 [.bool x.1,.str x.2] true]
  have om2:=om.app [O.cells 51 [.bool x.1,.str x.2] true]
  have hle2:τ2.length <= (τ2 ++ [O.cells 51 [.bool x.1,.str x.2] true]).length:=by rw [Z7]; omega
  by_cases hxA:x ∈ D.map Prod.fst
  ·have hxs:(oF D x).isSome = true:=by
    cases hd:oF D x with
    | none=>exact absurd hxA (qV.1 hd)
    | some d=>rfl
   have lk:=lk _ hb2
   rw [hxs] at lk
   simp only [KP,Ax.loadAt,Ax.storeAt,↓reduceIte,reduceEqDiff,reduceLT,reduceAdd,h.cP,f5,g57,g58,g59,hlt,hadd,e1,lk,aK,bV]
   refine next _ _ ⟨?_,(fE (by simp +decide only [GS,g13,g57,g58,Z5]) ⟨hzz,D,more,wm,(by simp +decide only [GS,g11]),hb2,on2,om2,hne,hmz,ri.old hxA fun y=>?_,fi⟩)⟩
   ·intro k hk
    rw [<- hF k hk]
    simp only [By,ZY,bt] at hk
    rcases hk with rfl | rfl | rfl | rfl | rfl <;> simp +decide only [GS]
   ·rw [or_assoc,mL hx]
  ·have hxs:(oF D x).isSome = false:=by rw [qV.2 hxA]; rfl
   have lk:=lk _ hb2
   rw [hxs] at lk
   have lk2:=NK (Z:=τ2 ++ [O.cells 51 [.bool x.1,.str x.2] true]) (v:=.mp b) h hl tr (show entriesOf _ (.mp b) = some (D.map dV) by unfold entriesOf; simp only [hb2]) hyD
   have hup:=Ni hl tr hb2 hxA (k + 1)
   have hadk:=bY k (by omega)
   have hb3:((τ2 ++ [O.cells 51 [.bool x.1,.str x.2] true]).set b (.map ((D ++ [(x,k + 1)]).map dV)))[b]? = some (.map ((D ++ [(x,k + 1)]).map dV)):=ZV (AI.1 hb2).1
   have on3:=IE (y:=.map ((D ++ [(x,k + 1)]).map dV)) on2 hb2
   have om3:=IE (y:=.map ((D ++ [(x,k + 1)]).map dV)) om2 hb2
   have hz3:((τ2 ++ [O.cells 51 [.bool x.1,.str x.2] true]).set b (.map ((D ++ [(x,k + 1)]).map dV)))[z]? = some (O.cells 51 [.bool y.1,.str y.2] true):=by rw [No (gr hzb)]; exact hzz
   have hy2b:τ2.length ≠ b:=fun e=>by rw [e,hb2] at hz2; cases hz2
   have hz4:((τ2 ++ [O.cells 51 [.bool x.1,.str x.2] true]).set b (.map ((D ++ [(x,k + 1)]).map dV)))[τ2.length]? = some (O.cells 51 [.bool x.1,.str x.2] true):=by rw [No (gr hy2b)]; exact hz2
   have hle3:τ2.length <= ((τ2 ++ [O.cells 51 [.bool x.1,.str x.2] true]).set b (.map ((D ++ [(x,k + 1)]).map dV))).length:=by rw [bq]; exact hle2
   have hset:∀ {u:Sg},mapUpdate E (τ2 ++ [O.cells 51 [.bool x.1,.str x.2] true]) 128 (.mp b) (.agg [.bool x.1,.str x.2]) (.int .i64 ((k + 1:Nat):Int)) = some u ↔ (τ2 ++ [O.cells 51 [.bool x.1,.str x.2] true]).set b (.map ((D ++ [(x,k + 1)]).map dV)) = u:=by
    intro u; rw [hup,eu]
   generalize hτ3:(τ2 ++ [O.cells 51 [.bool x.1,.str x.2] true]).set b (.map ((D ++ [(x,k + 1)]).map dV)) = τ3 at *
   obtain ⟨w',τ5,ha5,ow5,Mm,fr5⟩:=Fy (x:=x) (ex:=true) hl om3 (by omega)
   have hzlt:=(AI.1 hz3).1
   simp only [KP,Ax.loadAt,Ax.storeAt,↓reduceIte,reduceEqDiff,reduceLT,reduceLeDiff,reduceAdd,reduceMul,h.kI,h.cP,f5,g11,g13,g57,g58,g59,hlt,hadd,hadk,e1,lk,lk2,hup,hzz,hz4,ha5,aK,bV,pE,aU d21,bM]
   refine next _ _ ⟨?_,(fE (by simp +decide only [GS,g13,g57,g58,Z5]) ⟨Mm _ _ (aN hz3) (fun e=>hmz _ e rfl),D ++ [(x,k + 1)],more ++ [x],w',(by simp +decide only [GS]),NA (aN hb3) (om3.app _) Mm,Ww (on3.app _) (fun c hc=>hne c hc) Mm,ow5,fun c hc=>?_,fun c hc=>?_,?_,fi.fresh hxA⟩)⟩
   ·intro k hk
    rw [<- hF k hk]
    simp only [By,ZY,bt] at hk
    rcases hk with rfl | rfl | rfl | rfl | rfl <;> simp +decide only [GS]
   ·rcases fr5 c hc with hc | hc
    ·exact hne c hc
    ·exact fun e=>by have:=RU on3 e; omega
   ·rcases fr5 c hc with hc | hc
    ·exact hmz c hc
    ·omega
   ·rw [cj]
    exact ri.fresh hxA (hadl (Z2 hx)) fun y=>by rw [or_assoc,mL hx]
 ·rintro F2 τ2 ⟨hF,g13,g57,g58,g59,hz,D,more,wm,g11,hb,on,om,hne,hmz,ri,fi⟩
  have hlt:=d_ (ZT L.length)
  rw [Z6 (Z1 _)] at ri
  rw [aG]
  simp only [KP,↓reduceIte,reduceLT,g58,g59,hlt]
  refine hk _ _ wm D more ?_ (by simp +decide only [GS,g11]) hb on om hne (ri.congr hP) fi
  intro k hk
  rw [<- hF k hk]
  simp only [By,ZY,bt] at hk
  rcases hk with rfl | rfl | rfl | rfl | rfl <;> simp +decide only [GS]
 ·intro k hk
  simp only [By,ZY,bt] at hk
  rcases hk with rfl | rfl | rfl | rfl | rfl <;> simp +decide only [GS]
end
end
section
section
variable {E:Env} {Z:Sg} {K:V -> Sg -> Prop}
theorem QZ (h:bH E) (h':pV E) (hl:Lb.cQ E) (q:Dn E) (tr:CW E) {g:V} {rs:List aC} (hg:Ex E rs g) (hf:Fits rs) {b:Nat} {lv:V} {ls:List aI} (iv:IS eU lv ls) (hls:ls.length <= 1000000) {Y:Sg} (hb:Y[b]? = some (.map []))
  (F:FT) (g0:F.get 0 = g) (g1:F.get 1 = lv) (g5:F.get 5 = .mp b) (g6:F.get 6 = .aD) {st:List jG} {Q:Ax.X -> Fr -> Sg -> Prop}
  (hk:∀ F' τ' wn D now,F'.get 0 = g -> F'.get 5 = .mp b -> F'.get 6 = wn -> τ'[b]? = some (.map (D.map dV)) -> (D.map Prod.fst).Nodup -> bA eU 51 τ' wn now -> Sd rs ls (D.map Prod.fst) now -> (∀ x,x ∈ D.map Prod.fst -> oF D x = some 0) -> M E st .normal ⟨85,F'⟩ τ' Q):Ax.R E (cutAt [1,1,1,0] (aA Tryz.f96).code) st ⟨85,F⟩ Y Q:=by
 have la:=iT h iv
 simp only [aA,Tryz.f96,KP,↓reduceIte,reduceLT,cutAt,g1,la]
 refine aV (fun i F2 τ2=>F2.get 0 = g /\ F2.get 5 = .mp b /\ F2.get 19 = lv /\ F2.get 20 = .int .i64 (ls.length:Int) /\ F2.get 21 = .int .i64 (i:Int) /\ ∃ D now wn,F2.get 6 = wn /\ τ2[b]? = some (.map (D.map dV)) /\ (D.map Prod.fst).Nodup /\ bA eU 51 τ2 wn now /\ Sd rs (ls.take i) (D.map Prod.fst) now /\ ∀ x,x ∈ D.map Prod.fst -> oF D x = some 0) ls.length ?_ ?_ ls.length 0 _ _ (by omega) (iJ (by simp +decide only [GS,g0,g5,Z5]) ⟨[],[],.aD,(by simp +decide only [GS,g6]),hb,List.nodup_nil,.inl ⟨rfl,rfl⟩,⟨(fun x=>by simp),(fun x=>by simp),Z1 _⟩,fun x hx=>by cases hx⟩)
 ·rintro j F2 τ2 hj ⟨g0,g5,g19,g20,g21,D,now,wn,g6,hb,hnd,on,sd,h0⟩ next
  obtain ⟨x,hx⟩:∃ x,ls[j]? = some x:=⟨_,AT hj⟩
  obtain ⟨gi,e1⟩:=wL h iv hx
  have hlt:=dZ hj
  have hadd:=bY j (by omega)
  have hAl:(D.map Prod.fst).length <= 2000:=cm (kN hnd fun y hy=>((sd.mem y).1 hy).2) (uE hf)
  have hnl:=sd.len
  have kk:=fun (Y:Sg)=>dK fun K=>KD (Z:=Y) (K:=K) h h' hl q hg hf x
  have hz2:(τ2 ++ [O.cells 51 [.bool x.1,.str x.2] true])[τ2.length]? = some (O.cells 51 [.bool x.1,.str x.2] true):=aK
  have hb2:(τ2 ++ [O.cells 51 [.bool x.1,.str x.2] true])[b]? = some (.map (D.map dV)):=aN hb
  have on2:=on.app [O.cells 51 [.bool x.1,.str x.2] true]
  have lk:=Bc (Z:=τ2 ++ [O.cells 51 [.bool x.1,.str x.2] true]) (v:=.mp b) h hl tr (show entriesOf _ (.mp b) = some (D.map dV) by unfold entriesOf; simp only [hb2]) x
  rw [aG]
  by_cases hxA:x ∈ D.map Prod.fst
  ·have hxs:(oF D x).isSome = true:=by rw [h0 x hxA]; rfl
   rw [hxs] at lk
   simp only [KP,Ax.loadAt,Ax.storeAt,↓reduceIte,reduceEqDiff,reduceLT,reduceAdd,h.cP,g5,g19,g20,g21,hlt,hadd,e1,lk,aK,bV]
   exact next _ _ (iJ (by simp +decide only [GS,g0,g5,g19,g20,Z5]) ⟨D,now,wn,(by simp +decide only [GS,g6]),hb2,hnd,on2,sd.old hx fun _=>hxA,h0⟩)
  ·have hxs:(oF D x).isSome = false:=by rw [qV.2 hxA]; rfl
   rw [hxs] at lk
   by_cases hxa:x ∈ gC rs
   ·have hkd:=Kb hxa
    generalize kindOf rs x = kd at kk hkd
    have hkd:decide (kd = 0) = false:=AS hkd
    have hup:=Ni hl tr hb2 hxA 0
    have hb3:((τ2 ++ [O.cells 51 [.bool x.1,.str x.2] true]).set b (.map ((D ++ [(x,0)]).map dV)))[b]? = some (.map ((D ++ [(x,0)]).map dV)):=ZV (AI.1 hb2).1
    have on3:=IE (y:=.map ((D ++ [(x,0)]).map dV)) on2 hb2
    have hy2b:τ2.length ≠ b:=fun e=>by rw [e,hb2] at hz2; cases hz2
    have hz4:((τ2 ++ [O.cells 51 [.bool x.1,.str x.2] true]).set b (.map ((D ++ [(x,0)]).map dV)))[τ2.length]? = some (O.cells 51 [.bool x.1,.str x.2] true):=by rw [No (gr hy2b)]; exact hz2
    generalize hτ3:(τ2 ++ [O.cells 51 [.bool x.1,.str x.2] true]).set b (.map ((D ++ [(x,0)]).map dV)) = τ3 at *
    obtain ⟨w',τ5,ha5,ow5,Mm,-⟩:=Fy (x:=x) (ex:=true) hl on3 (by omega)
    rw [show (((0:Nat):Int)) = 0 from rfl] at hup
    simp only [KP,Ax.loadAt,Ax.storeAt,↓reduceIte,reduceEqDiff,reduceLT,reduceLeDiff,reduceAdd,reduceMul,reduceCtorEq,h.kI,h.cP,g0,g5,g6,g19,g20,g21,hlt,hadd,e1,lk,kk,hkd,hup,hz4,ha5,aK,bV,pE]
    refine next _ _ (iJ (by simp +decide only [GS,g0,g5,g19,g20,Z5]) ⟨D ++ [(x,0)],now ++ [x],w',(by simp +decide only [GS]),NA (aN hb3) (on3.app _) Mm,?_,ow5,?_,fun y hy=>?_⟩)
    ·rw [cj,gu]
     exact ⟨hnd,List.pairwise_singleton ..,fun a ha c hc e=>hxA (by have e2:c = x:=ae.1 hc; rw [<- e2,<- e]; exact ha)⟩
    ·rw [cj]
     exact sd.fresh hx hxa
    ·rw [Hs hxA]
     by_cases hyx:y = x
     ·rw [ZO hyx]
     ·rw [ZM hyx]
      rw [cj,aa] at hy
      exact h0 y (hy.resolve_right fun hm=>hyx (ae.1 hm))
   ·have hkd:=GP hxa
    rw [hkd] at kk
    simp only [KP,Ax.loadAt,Ax.storeAt,↓reduceIte,reduceEqDiff,reduceLT,reduceAdd,reduceCtorEq,h.cP,g0,g5,g19,g20,g21,hlt,hadd,e1,lk,kk,aK,bV]
    exact next _ _ (iJ (by simp +decide only [GS,g0,g5,g19,g20,Z5]) ⟨D,now,wn,(by simp +decide only [GS,g6]),hb2,hnd,on2,sd.old hx fun e=>absurd e hxa,h0⟩)
 ·rintro F2 τ2 ⟨g0,g5,g19,g20,g21,D,now,wn,g6,hb,hnd,on,sd,h0⟩
  have hlt:=d_ (ZT ls.length)
  rw [Z6 (Z1 _)] at sd
  rw [aG]
  simp only [KP,↓reduceIte,reduceLT,g20,g21,hlt]
  exact hk _ _ wn D now (by simp +decide only [GS,g0]) (by simp +decide only [GS,g5]) (by simp +decide only [GS,g6]) hb hnd on sd h0
theorem Di.le {nx:aI -> List aI} {s0:aI -> Prop} {k M:Nat} {A now:List aI} {f:aI -> Option Nat} (h:Di nx s0 k A now f) (hk:k <= M) (x:aI) (d:Nat) (hd:f x = some d):d <= M:=by
 by_cases hA:x ∈ A
 ·obtain ⟨e,h1,h2⟩:=h.is x hA
  rw [hd] at h1
  cases h1
  have hr:=(h.rd.all x).1 hA
  exact k8 fun hlt=>h2.2 k (by omega) hr
 ·rw [h.no x hA] at hd; cases hd
theorem LN (h:bH E) (h':pV E) (hl:Lb.cQ E) (q:Dn E) (tr:CW E) {b:Nat} {g:V} {rs:List aC} (hg:Ex E rs g) (hf:Fits rs) {s0:aI -> Prop} {D:List (aI × Nat)} {now:List aI} {wn:V} {Y:Sg} (hb:Y[b]? = some (.map (D.map dV))) (hnd:(D.map Prod.fst).Nodup) (on:bA eU 51 Y wn now) (di:Di (jI rs) s0 0 (D.map Prod.fst) now (oF D)) (hsub:∀ x,x ∈ D.map Prod.fst -> x ∈ gC rs) (hnlen:now.length <= (D.map Prod.fst).length)
  (F:FT) (g0:F.get 0 = g) (g5:F.get 5 = .mp b) (g6:F.get 6 = wn) {st:List jG} {Q:Ax.X -> Fr -> Sg -> Prop}
  (hk:∀ F' τ' D',F'.get 5 = .mp b -> τ'[b]? = some (.map (D'.map dV)) -> (∀ x d,oF D' x = some d ↔ FD (jI rs) s0 d x) -> (∀ x d,oF D' x = some d -> d <= 2001) -> M E st .normal ⟨85,F'⟩ τ' Q):Ax.R E (cutAt [1,1,1,1,0] (aA Tryz.f96).code) st ⟨85,F⟩ Y Q:=by
 have hlen:=uE hf
 have one:=fun {D0 D k more now P P' wn wm i y Y} hb on om hne hy ri fi hy0 hkb hP F g0 g5 g11 g49 g51 st Q hk=>T3 (b:=b) (k:=k) (D0:=D0) (D:=D) (more:=more) (now:=now) (P:=P) (P':=P') (wn:=wn) (wm:=wm) (i:=i) (y:=y) (Y:=Y) h h' hl q tr hg hf hb on om hne hy ri fi hy0 hkb hP F g0 g5 g11 g49 g51 (st:=st) (Q:=Q) hk
 rw [show (cutAt [1,1,1,1,0] (aA Tryz.f96).code) = .block 2 (.loop (.seq (cutAt [1,1,1,1,0,2,2,0] (aA Tryz.f96).code) (.block 3 (.seq (cutAt [1,1,1,1,0,2,2,1,2,0] (aA Tryz.f96).code) (.seq (.seq (cutAt [1,1,1,1,0,2,2,1,2,1,0,0] (aA Tryz.f96).code) (.block 4 (.loop (.seq (cutAt [1,1,1,1,0,2,2,1,2,1,0,1,2,2,0] (aA Tryz.f96).code) (.seq (cutAt [1,1,1,1,0,2,2,1,2,1,0,1,2,2,1,0] (aA Tryz.f96).code) (.seq (.block 5 (cutAt [1,1,1,1,0,2,2,1,2,1,0,1,2,2,1,1,0,2] (aA Tryz.f96).code)) (cutAt [1,1,1,1,0,2,2,1,2,1,0,1,2,2,1,1,1] (aA Tryz.f96).code))))))) (cutAt [1,1,1,1,0,2,2,1,2,1,1] (aA Tryz.f96).code)))))) from rfl]
 generalize cutAt [1,1,1,1,0,2,2,1,2,1,0,1,2,2,1,1,0,2] (aA Tryz.f96).code = B at one ⊢
 simp only [aA,Tryz.f96,KP,cutAt]
 refine P_ (fun n F Y=>∃ (k:Nat) (D:List (aI × Nat)) (now:List aI) (wn:V),F.get 0 = g /\ F.get 5 = .mp b /\ F.get 6 = wn /\ Y[b]? = some (.map (D.map dV)) /\ (D.map Prod.fst).Nodup /\ bA eU 51 Y wn now /\ Di (jI rs) s0 k (D.map Prod.fst) now (oF D) /\ (∀ x,x ∈ D.map Prod.fst -> x ∈ gC rs) /\ now.length <= (D.map Prod.fst).length /\ (k <= (D.map Prod.fst).length + 1 /\ (now ≠ [] -> k <= (D.map Prod.fst).length)) /\ ((now = [] /\ n = 2 * (2001 - (D.map Prod.fst).length)) \/ (now ≠ [] /\ n = 2 * (2001 - (D.map Prod.fst).length) + 1))) ?_ (2 * (2001 - (D.map Prod.fst).length) + (if now = [] then 0 else 1)) _ _ ⟨0,D,now,wn,(by simp +decide only [g0]),(by simp +decide only [g5]),(by simp +decide only [g6]),hb,hnd,on,di,hsub,hnlen,⟨by omega,fun _=>by omega⟩,?_⟩
 ·clear hb hnd on di hsub hnlen g0 g5 g6
  rintro n F Y ⟨k,D,now,wn,g0,g5,g6,hb,hnd,on,di,hsub,hnlen,hkl,hn⟩ next
  have hAl:(D.map Prod.fst).length <= 2000:=cm (kN hnd hsub) hlen
  have ln:=nM hl.kI rfl on.ls
  rw [aG]
  by_cases h0:now = []
  ·subst h0
   rw [ZN] at ln
   simp only [KP,↓reduceIte,reduceLT,Int.reduceLT,g6,ln]
   exact hk _ _ D (by simp +decide only [GS,g5]) hb di.fin (di.le (by omega))
  have hgt:decide ((0:Int) < (now.length:Int)) = true:=BY (by have:=ff.2 h0; omega)
  simp only [KP,↓reduceIte,reduceEqDiff,reduceLT,g6,ln,hgt]
  refine aV (fun i F2 τ2=>F2.get 0 = g /\ F2.get 5 = .mp b /\ F2.get 49 = wn /\ F2.get 50 = .int .i64 (now.length:Int) /\ F2.get 51 = .int .i64 (i:Int) /\ ∃ D' more wm,F2.get 11 = wm /\ τ2[b]? = some (.map (D'.map dV)) /\ bA eU 51 τ2 wn now /\ bA eU 51 τ2 wm more /\ (∀ c,aQ wm = some c -> aQ wn ≠ some c) /\ Ri (jI rs) (gC rs) (D.map Prod.fst) (fun x=>∃ y ∈ now.take i,x ∈ jI rs y) (D'.map Prod.fst) more /\ Fi D D' more k) now.length ?_ ?_ now.length 0 _ _ (by omega) (iJ (by simp +decide only [GS,g0,g5,Z5]) ⟨D,[],.aD,(by simp +decide only [GS]),hb,on,.inl ⟨rfl,rfl⟩,(fun c hc=>by cases hc),⟨fun x=>by simp,(fun x=>by simp),hsub,dc _,hnd,Z1 _,fun e=>absurd rfl e⟩,Fi.start _ _⟩)
  ·clear hb on g0 g5
   rintro i F2 τ2 hi ⟨g0,g5,g49,g50,g51,D',more,wm,g11,hb,on,om,hne,ri,fi⟩ next2
   obtain ⟨y,hy⟩:∃ y,now[i]? = some y:=⟨_,AT hi⟩
   have hlt:=dZ hi
   have hadd:=bY i (by omega)
   have hyn:=Z2 hy
   have hy0:oF D y = some k:=by
    obtain ⟨d,h1,h2⟩:=di.is y (di.rd.sub y hyn)
    rw [h1,h2.uniq (di.last y hyn)]
   rw [aG]
   simp only [KP,↓reduceIte,reduceLT,g50,g51,hlt]
   refine one hb on om hne hy ri fi hy0 (by omega) (P':=fun x=>∃ y ∈ now.take (i + 1),x ∈ jI rs y) (fun x=>?_) _ ?_ ?_ ?_ ?_ ?_ _ _ (fun F3 τ3 wm' D3 more' hF g11' hb' on' om' hne' ri' fi'=>?_)
   ·constructor
    ·rintro ⟨z,hz,hx⟩
     rcases (mL hy z).1 hz with h1 | rfl
     ·exact .inl ⟨z,h1,hx⟩
     ·exact .inr hx
    ·rintro (⟨z,hz,hx⟩ | hx)
     ·exact ⟨z,(mL hy z).2 (.inl hz),hx⟩
     ·exact ⟨y,(mL hy y).2 (.inr rfl),hx⟩
   ·simp +decide only [GS,g0]
   ·simp +decide only [GS,g5]
   ·simp +decide only [GS,g11]
   ·simp +decide only [GS,g49]
   ·simp +decide only [GS,g51]
   have q0:F3.get 0 = g:=(hF 0 (by simp)).trans (by simp +decide only [GS,g0])
   have q5:F3.get 5 = .mp b:=(hF 5 (by simp)).trans (by simp +decide only [GS,g5])
   have q49:F3.get 49 = wn:=(hF 49 (by simp)).trans (by simp +decide only [GS,g49])
   have q50:F3.get 50 = .int .i64 (now.length:Int):=(hF 50 (by simp)).trans (by simp +decide only [GS,g50])
   have q51:F3.get 51 = .int .i64 (i:Int):=(hF 51 (by simp)).trans (by simp +decide only [GS,g51])
   simp only [KP,↓reduceIte,reduceLT,q51,hadd]
   exact next2 _ _ (iJ (by simp +decide only [GS,q0,q5,q49,q50,Z5]) ⟨D3,more',wm',(by simp +decide only [GS,g11']),hb',on',om',hne',ri',fi'⟩)
  ·clear hb on g0 g5
   rintro F2 τ2 ⟨g0,g5,g49,g50,g51,D',more,wm,g11,hb,on,om,hne,ri,fi⟩
   have hlt:=d_ (ZT now.length)
   rw [Z6 (Z1 _)] at ri
   have hA'l:=ri.le hlen
   rw [aG]
   simp only [KP,↓reduceIte,reduceEqDiff,reduceLT,g11,g50,g51,hlt]
   have hup:=ri.up
   refine next (2 * (2001 - (D'.map Prod.fst).length) + (if more = [] then 0 else 1)) _ _ ?_ ⟨k + 1,D',more,wm,(iU (by simp +decide only [GS,g0,g5,Z5]) ⟨hb,ri.nd,om,di.next ri.mem ri.new (fun x hx=>by rw [fi x,ZO hx]) (fun x hx=>by rw [fi x,ZM hx]),ri.sub,ri.len,?_,?_⟩)⟩
   ·rcases hn with ⟨h1,-⟩ | ⟨-,rfl⟩
    ·exact absurd h1 h0
    ·by_cases hm:more = []
     ·rw [ZO hm]; omega
     ·rw [ZM hm]; have:=hup.2 hm; omega
   ·have:=hkl.2 h0
    exact ⟨by omega,fun hm=>by have:=hup.2 hm; omega⟩
   ·by_cases hm:more = []
    ·exact .inl ⟨hm,by rw [ZO hm]; rfl⟩
    ·exact .inr ⟨hm,by rw [ZM hm]⟩
 ·by_cases h0:now = []
  ·exact .inl ⟨h0,by rw [ZO h0]; rfl⟩
  ·exact .inr ⟨h0,by rw [ZM h0]⟩
structure Ey (rs:List aC) (ls:List aI) (D:List (aI × Nat)):Prop where
 is:∀ x d,oF D x = some d ↔ FD (jI rs) (fun x=>x ∈ ls /\ x ∈ gC rs) d x
 le:∀ x d,oF D x = some d -> d <= 2001
def ZI (rs:List aC) (ls:List aI) (v:V):Prop:=∃ D,v = .imp false (D.map dV) /\ Ey rs ls D
theorem HD (h:bH E) (h':pV E) (hl:Lb.cQ E) (q:Dn E) (tr:CW E) {g:V} {rs:List aC} (hg:Ex E rs g) (hf:Fits rs) {a:V} {ls:List aI} (ha:LS eU 51 Z a ls) (hls:ls.length <= 1000000):aB E 96 [g,a] Z fun v σ'=>σ' = Z /\ ZI rs ls v:=by
 obtain ⟨a',ea,ia⟩:=kV h ha
 have e1:=cN (Z:=Z) (ty:=E.ty) hg.bD (cA hg.bD)
 rw [aH tr.hs96 tr.sp96 tr.fn96 tr.md96 (args':=[g,a']) (by simp only [aW,e1,ea]),aX (by kernel_rfl)]
 have kseed:=fun {Y} hb F g0 g1 g5 g6 st Q hk=>QZ (b:=0) (Y:=Y) h h' hl q tr hg hf ia hls hb F g0 g1 g5 g6 (st:=st) (Q:=Q) hk
 have krounds:=fun {D now wn Y} hb hnd on di hsub hnlen F g0 g5 g6 st Q hk=>LN (b:=0) (s0:=fun x=>x ∈ ls /\ x ∈ gC rs) (D:=D) (now:=now) (wn:=wn) (Y:=Y) h h' hl q tr hg hf hb hnd on di hsub hnlen F g0 g5 g6 (st:=st) (Q:=Q) hk
 rw [show (aA Tryz.f96).code = .seq (cutAt [0] (aA Tryz.f96).code) (.seq (cutAt [1,0] (aA Tryz.f96).code) (.seq (cutAt [1,1,0] (aA Tryz.f96).code) (.seq (cutAt [1,1,1,0] (aA Tryz.f96).code) (.seq (cutAt [1,1,1,1,0] (aA Tryz.f96).code) (cutAt [1,1,1,1,1] (aA Tryz.f96).code))))) from rfl]
 generalize cutAt [1,1,1,0] (aA Tryz.f96).code = SS at kseed ⊢
 generalize cutAt [1,1,1,1,0] (aA Tryz.f96).code = BB at krounds ⊢
 simp only [aA,Tryz.f96,KP,↓reduceIte,reduceLT,reduceAdd,cutAt]
 refine kseed rfl _ ?_ ?_ ?_ ?_ _ _ (fun F1 τ1 wn D now q0 q5 q6 hb hnd on sd h0=>?_)
 ·simp +decide only [GS]
 ·simp +decide only [GS]
 ·simp +decide only [GS]
 ·simp +decide only [GS]
 rw [Ln]
 simp only [KP]
 refine krounds hb hnd on (Di.start sd.mem sd.nw h0 fun x hx=>qV.2 hx) (fun x hx=>((sd.mem x).1 hx).2) sd.len _ q0 q5 q6 _ _ (fun F2 τ2 D2 p5 hb2 hd hd2=>?_)
 have es:cK τ2 E.ty false (.mp 0) = some (.imp false (D2.map dV)):=by
  show aS.one τ2 E.ty false (.mp 0) = _
  unfold aS.one
  rw [show dJ = 10 + 2 from rfl,PL hb2]
  rfl
 rw [Ln]
 simp only [KP,↓reduceIte,reduceLT,p5,es]
 exact ⟨D2,rfl,hd,hd2⟩
end
end
section
section
variable {E:Env} {Z:Sg} {K:V -> Sg -> Prop}
theorem RA (h:bH E) (hl:Lb.cQ E) (tr:CW E) {a:V} {l:List aI} {k:Nat} {caps:List V} {P:aI -> Bool} (ha:LS eU 51 Z a l) (hsm:l.length <= 4294967296) (hP:∀ y:aI,y ∈ l -> aB E k ([.agg [.bool y.1,.str y.2]] ++ caps) [] fun u Y=>Y = [] /\ u = .bool (P y)) {fv:V} (ef:aS Z E.ty true fv = some (.fn k [] caps)):aB E 97 [a,fv] Z K = K (.int .i64 (idx (bQ P l))) Z:=by
 refine aB.of ?_
 obtain ⟨a',ea,ia⟩:=kV h ha
 rw [aH tr.XA tr.U0 tr.Yq tr.WC (args':=[a',.fn k [] caps]) (by simp only [aW,ea,ef]),aX (by kernel_rfl)]
 have la:=iT h ia
 simp only [aA,Tryz.f97,KP,↓reduceIte,reduceLT,reduceAdd,reduceCtorEq,reduceNeg,la]
 refine aV (fun i F Y=>Y = [] /\ F.get 0 = a' /\ F.get 1 = .fn k [] caps /\ F.get 8 = .int .i64 (i:Int) /\ F.get 7 = .int .i64 (l.length:Int) /\ ∀ j y,j < i -> l[j]? = some y -> P y = false) l.length ?_ ?_ l.length 0 _ _ (by omega) ⟨rfl,(fE (by simp +decide only [GS,Z5]) (fun j y hj=>by omega))⟩
 ·rintro i F Y hi ⟨rfl,g0,g1,g8,g7,hp⟩ next
  obtain ⟨x,hx⟩:∃ x,l[i]? = some x:=⟨_,AT hi⟩
  obtain ⟨g,e1⟩:=wL h ia hx
  have hlt:=dZ hi
  have hadd:=bY i (by omega)
  rw [aG]
  simp only [KP,Ax.loadAt,↓reduceIte,reduceEqDiff,reduceLT,reduceAdd,reduceCtorEq,reduceNeg,h.cP,g0,g1,g7,g8,hlt,e1]
  refine aP (hP x (Z2 hx)) ?_
  rintro u Y ⟨rfl,rfl⟩
  by_cases hxs:P x = true
  ·simp only [KP,↓reduceIte,reduceEqDiff,reduceLT,reduceNeg,hxs]
   rw [fL (i:=i) (x:=x) hp hx hxs]
   exact rfl
  ·have hxs:P x = false:=by simpa using hxs
   simp only [KP,↓reduceIte,reduceEqDiff,reduceLT,reduceNeg,g8,hxs,hadd]
   refine next _ _ ⟨rfl,(fE (by simp +decide only [GS,g0,g1,g7,Z5]) (fun j y hj hy=>?_))⟩
   rcases ZZ j i with g | g
   ·exact hp j y g hy
   ·obtain rfl:j = i:=by omega
    rw [hx] at hy; cases hy; exact hxs
 ·rintro F Y ⟨rfl,g0,g1,g8,g7,hp⟩
  have hlt:=d_ (ZT l.length)
  rw [aG]
  simp only [KP,↓reduceIte,reduceLT,reduceNeg,g7,g8,hlt]
  rw [fM fun x hx=>by
   obtain ⟨j,hj,e⟩:=bu hx
   exact hp j x hj (by rw [AT hj,e])]
  exact rfl
theorem Us (h:bH E) (hl:Lb.cQ E) (tr:CW E) {a:V} {l:List aI} {s:aI} (ha:LS eU 51 Z a l) (hsm:l.length <= 4294967296):aB E 132 [a,.agg [.bool s.1,.str s.2]] Z K = K (.int .i64 (idx (bQ (fun x=>decide (x = s)) l))) Z:=by
 refine aB.of ?_
 obtain ⟨a',ea,ia⟩:=kV h ha
 have es:=BI (E:=E) Z s
 have d4:=tr.Uc
 simp only [aA,Tryz.f132,cutAt,Z9] at d4
 rw [aH tr.X_ tr.Vz tr.YX tr.Xe (args':=[a',.agg [.bool s.1,.str s.2]]) (by simp only [aW,ea,es]),aX (by kernel_rfl)]
 have la:=iT h ia
 simp only [aA,Tryz.f132,KP,↓reduceIte,reduceLT,reduceAdd,reduceCtorEq,reduceNeg,h.cP,la]
 refine aV (fun i F Y=>Y[0]? = some (O.cells 51 [.bool s.1,.str s.2] true) /\ F.get 0 = a' /\ F.get 3 = .ref 0 0 /\ F.get 8 = .int .i64 (i:Int) /\ F.get 7 = .int .i64 (l.length:Int) /\ ∀ j y,j < i -> l[j]? = some y -> y ≠ s) l.length ?_ ?_ l.length 0 _ _ (by omega) ⟨rfl,(fE (by simp +decide only [GS,Z5]) (fun j y hj=>by omega))⟩
 ·rintro i F Y hi ⟨hb,g0,g3,g8,g7,hp⟩ next
  obtain ⟨x,hx⟩:∃ x,l[i]? = some x:=⟨_,AT hi⟩
  obtain ⟨g,e1⟩:=wL h ia hx
  have hlt:=dZ hi
  have hadd:=bY i (by omega)
  have ev:=fun b=>Kx (b:=b) hl s x
  rw [aG]
  by_cases hxs:x = s
  ·rw [BY hxs.symm] at ev
   simp only [KP,Ax.loadAt,↓reduceIte,reduceEqDiff,reduceLT,reduceAdd,reduceCtorEq,reduceNeg,h.cP,g0,g3,g7,g8,hlt,e1,hb,ev,aU d4,bM]
   rw [fL (i:=i) (x:=x) (fun j y hj hy=>AS (hp j y hj hy)) hx (BY hxs)]
   exact rfl
  ·rw [AS (gr hxs)] at ev
   simp only [KP,Ax.loadAt,↓reduceIte,reduceEqDiff,reduceLT,reduceAdd,reduceCtorEq,reduceNeg,h.cP,g0,g3,g7,g8,hlt,e1,hb,ev,hadd,aU d4,bM]
   refine next _ _ ⟨hb,(fE (by simp +decide only [GS,g0,g3,g7,Z5]) (fun j y hj hy=>?_))⟩
   rcases ZZ j i with g | g
   ·exact hp j y g hy
   ·obtain rfl:j = i:=by omega
    rw [hx] at hy; cases hy; exact hxs
 ·rintro F Y ⟨hb,g0,g3,g8,g7,hp⟩
  have hlt:=d_ (ZT l.length)
  rw [aG]
  simp only [KP,↓reduceIte,reduceLT,reduceNeg,g7,g8,hlt]
  rw [fM fun x hx=>by
   obtain ⟨j,hj,e⟩:=bu hx
   exact AS (hp j x hj (by rw [AT hj,e]))]
  exact rfl
theorem RH {l:List aI} {s:aI}:(l.any fun x=>decide (x = s)) = decide (s ∈ l):=by
 rw [b8,bp,IT]
 exact ⟨fun ⟨x,hx,e⟩=>by rw [<- bf e]; exact hx,fun hs=>⟨s,hs,BY rfl⟩⟩
theorem RC (h:bH E) (hl:Lb.cQ E) (tr:CW E) {a:V} {l:List aI} {s:aI} (ha:LS eU 51 Z a l) (hsm:l.length <= 4294967296):aB E 103 [a,.agg [.bool s.1,.str s.2]] Z K = K (.bool (decide (s ∈ l))) Z:=by
 refine aB.of ?_
 obtain ⟨a',ea,ia⟩:=kV h ha
 have es:=BI (E:=E) Z s
 rw [aH tr.Yj tr.VJ tr.Y7 tr.Xo (args':=[a',.agg [.bool s.1,.str s.2]]) (by simp only [aW,ea,es]),aX (by kernel_rfl)]
 have kk:=fun (Y:Sg)=>dK (fun K=>Us (Z:=Y) (s:=s) (K:=K) h hl tr (ia.ls Y 51) hsm)
 simp only [aA,Tryz.f103,KP,Ax.loadAt,↓reduceIte,reduceEqDiff,reduceLT,reduceAdd,reduceCtorEq,h.cP,kk,kG,cB,RH]
 exact rfl
def De (D:List (aI × Nat)) (n:Int) (x:aI):Bool:=match oF D x with
 | some d=>decide ((d:Int) = n)
 | none=>false
theorem b_S1 (h:bH E) (hl:Lb.cQ E) (tr:CW E) {D:List (aI × Nat)} {n:Int} {g g2 g3:Bool} {x:aI} (hn:wr .i64 (n - 1) = n - 1):aB E 98 [.agg [.bool x.1,.str x.2],.cW g [.imp g2 (D.map dV)],.cW g3 [.int .i64 n]] [] K = K (.bool (De D (n - 1) x)) []:=by
 refine aB.of ?_
 have hi:Ax.bD (.cW g [.imp g2 (D.map dV)]) = true:=rfl
 have hi2:Ax.bD (.cW g3 [.int .i64 n]) = true:=rfl
 have ew:=cN (Z:=[]) (ty:=E.ty) hi (cA hi)
 have ew2:=cN (Z:=[]) (ty:=E.ty) hi2 (cA hi2)
 have es:=BI (E:=E) [] x
 rw [aH tr.hs98 tr.sp98 tr.fn98 tr.md98 (args':=[.agg [.bool x.1,.str x.2],.cW g [.imp g2 (D.map dV)],.cW g3 [.int .i64 n]]) (by simp only [aW,es,ew,ew2]),aX (by kernel_rfl)]
 have lk:=fun (Y:Sg)=>Bc (Z:=Y) (v:=.imp g2 (D.map dV)) h hl tr rfl x
 unfold De
 cases hd:oF D x with
 | none=>
  rw [hd] at lk
  simp only [aA,Tryz.f98,KP,Ax.loadAt,↓reduceIte,reduceEqDiff,reduceLT,reduceAdd,reduceCtorEq,h.cP,tr.vC,lk]
  exact rfl
 | some d=>
  rw [hd] at lk
  simp only [aA,Tryz.f98,KP,Ax.loadAt,↓reduceIte,reduceEqDiff,reduceLT,reduceAdd,reduceCtorEq,h.mZ,h.cP,tr.vC,lk,hn]
  exact rfl
end
end
section
section
variable {E:Env} {Z:Sg} {K:V -> Sg -> Prop}
def Pb (D:List (aI × Nat)) (S:List aI) (i:Nat) (left:Int) (p:List aI):Prop:=
 (left = -1 /\ p = [] /\ ∀ (j:Nat) (x:aI),j < i -> S[j]? = some x -> oF D x = none) \/
 ∃ (j:Nat) (x0:aI) (d:Nat),j < i /\ S[j]? = some x0 /\ oF D x0 = some d /\ left = (d:Int) /\ p = [x0] /\ ∀ (j':Nat) (x:aI) (e:Nat),j' < i -> S[j']? = some x -> oF D x = some e -> d <= e /\ (j' < j -> d < e)
theorem Pb.none {D:List (aI × Nat)} {S:List aI} {i:Nat} {left:Int} {p:List aI} (h:Pb D S i left p) {x:aI} (hx:S[i]? = some x) (hd:oF D x = none):Pb D S (i + 1) left p:=by
 rcases h with ⟨h1,h2,h3⟩ | ⟨j,x0,d,h1,h2,h3,h4,h5,h6⟩
 ·refine .inl ⟨h1,h2,fun j y hj hy=>?_⟩
  rcases ZZ j i with g | g
  ·exact h3 j y g hy
  ·obtain rfl:j = i:=by omega
   rw [hx] at hy; cases hy; exact hd
 ·refine .inr ⟨j,x0,d,by omega,h2,h3,h4,h5,fun j' y e hj' hy he=>?_⟩
  rcases ZZ j' i with g | g
  ·exact h6 j' y e g hy he
  ·obtain rfl:j' = i:=by omega
   rw [hx] at hy; cases hy; rw [hd] at he; cases he
theorem Pb.take {D:List (aI × Nat)} {S:List aI} {i:Nat} {left:Int} {p:List aI} (h:Pb D S i left p) {x:aI} {d:Nat} (hx:S[i]? = some x) (hd:oF D x = some d) (hlt:left < 0 \/ (d:Int) < left):Pb D S (i + 1) (d:Int) [x]:=by
 refine .inr ⟨i,x,d,by omega,hx,hd,rfl,rfl,fun j' y e hj' hy he=>?_⟩
 rcases ZZ j' i with g | g
 ·rcases h with ⟨h1,h2,h3⟩ | ⟨j,x0,d0,h1,h2,h3,h4,h5,h6⟩
  ·rw [h3 j' y g hy] at he; cases he
  ·have:=(h6 j' y e g hy he).1
   exact ⟨by omega,fun _=>by omega⟩
 ·obtain rfl:j' = i:=by omega
  rw [hx] at hy; cases hy; rw [hd] at he; cases he
  exact ⟨Z1 _,fun hh=>absurd hh (ZT _)⟩
theorem Pb.skip {D:List (aI × Nat)} {S:List aI} {i:Nat} {left:Int} {p:List aI} (h:Pb D S i left p) {x:aI} {d:Nat} (hx:S[i]? = some x) (hd:oF D x = some d) (hlt:0 <= left) (hge:left <= (d:Int)):Pb D S (i + 1) left p:=by
 rcases h with ⟨h1,h2,h3⟩ | ⟨j,x0,d0,h1,h2,h3,h4,h5,h6⟩
 ·omega
 ·refine .inr ⟨j,x0,d0,by omega,h2,h3,h4,h5,fun j' y e hj' hy he=>?_⟩
  rcases ZZ j' i with g | g
  ·exact h6 j' y e g hy he
  ·obtain rfl:j' = i:=by omega
   rw [hx] at hy; cases hy; rw [hd] at he; cases he
   exact ⟨by omega,fun hh=>by omega⟩
theorem xL {Y:Sg} {w:V} {l:List aI} {b u:Nat} {cs:List V} {ex:Bool} {y:O} (ow:bA eU 51 Y w l) (hb:Y[b]? = some (.cells u cs ex)) (hu:u ≠ 51):bA eU 51 (Y.set b y) w l:=ow.keep fun c o hc ho=>by
 rw [No (fun e=>?_)]
 ·exact ho
 ·subst e
  exact Gv ow (fun u' ex' e=>by rw [hb] at e; cases e; exact hu rfl) hc
theorem PJ (h:bH E) (h':pV E) (hl:Lb.cQ E) (q:Dn E) (tr:CW E) {D:List (aI × Nat)} {Sx:List aI} {r g:V} {Y:Sg} (hlen:Sx.length <= 1000000) (on:bA eU 51 Y r Sx) (b0:Y[0]? = some (.cells 128 [.imp false (D.map dV)] true)) (b1:Y[1]? = some (.cells 3 [.int .i64 (-1)] true))
  (F:FT) (g0:F.get 0 = g) (g7:F.get 7 = .ref 0 0) (g8:F.get 8 = .aD) (g9:F.get 9 = .ref 1 0) (g23:F.get 23 = r) (g24:F.get 24 = .int .i64 (Sx.length:Int)) (g25:F.get 25 = .int .i64 0) {st:List jG} {Q:Ax.X -> Fr -> Sg -> Prop}
  (hk:∀ F' τ' w p left,F'.get 0 = g -> F'.get 7 = .ref 0 0 -> F'.get 8 = w -> F'.get 9 = .ref 1 0 -> bA eU 51 τ' w p -> τ'[0]? = some (.cells 128 [.imp false (D.map dV)] true) -> τ'[1]? = some (.cells 3 [.int .i64 left] true) -> Pb D Sx Sx.length left p -> M E st .normal ⟨72,F'⟩ τ' Q):Ax.R E (cutAt [1,1,1,1,0,1] (aA Tryz.f34).code) st ⟨72,F⟩ Y Q:=by
 simp only [aA,Tryz.f34,KP,reduceNeg,cutAt]
 refine aV (fun i F Y=>F.get 0 = g /\ F.get 7 = .ref 0 0 /\ F.get 9 = .ref 1 0 /\ F.get 23 = r /\ F.get 24 = .int .i64 (Sx.length:Int) /\ F.get 25 = .int .i64 (i:Int) /\ bA eU 51 Y r Sx /\ Y[0]? = some (.cells 128 [.imp false (D.map dV)] true) /\ ∃ w p left,F.get 8 = w /\ bA eU 51 Y w p /\ Y[1]? = some (.cells 3 [.int .i64 left] true) /\ Pb D Sx i left p) Sx.length ?_ ?_ Sx.length 0 _ _ (by omega) ⟨(by simp +decide only [g0]),(by simp +decide only [g7]),(by simp +decide only [g9]),(by simp +decide only [g23]),(by simp +decide only [g24]),(by simp +decide only [GS,g25]),on,b0,.aD,[],-1,(by simp +decide only [g8]),.inl ⟨rfl,rfl⟩,b1,.inl ⟨rfl,rfl,fun j x hj=>by omega⟩⟩
 ·clear on b0 b1 g0 g7 g8 g9 g23 g24 g25
  rintro i F Y hi ⟨g0,g7,g9,g23,g24,g25,on,b0,w,p,left,g8,ow,b1,bs⟩ next
  obtain ⟨x,hx⟩:∃ x,Sx[i]? = some x:=⟨_,AT hi⟩
  obtain ⟨c,o,u,cs,ex,e1,hc,hle,hrow⟩:=IB hl on hx
  have hlt:=dZ hi
  have hadd:=bY i (by omega)
  have lk:=fun (Y:Sg)=>Bc (Z:=Y) (v:=.imp false (D.map dV)) h hl tr rfl x
  have b0':(Y ++ [O.cells 51 [.bool x.1,.str x.2] true])[0]? = some (.cells 128 [.imp false (D.map dV)] true):=aN b0
  have b1':(Y ++ [O.cells 51 [.bool x.1,.str x.2] true])[1]? = some (.cells 3 [.int .i64 left] true):=aN b1
  have on1:=on.app [O.cells 51 [.bool x.1,.str x.2] true]
  have ow1:=ow.app [O.cells 51 [.bool x.1,.str x.2] true]
  have b1'':(Y ++ [O.cells 51 [.bool x.1,.str x.2] true] ++ [O.cells 51 [.bool x.1,.str x.2] true])[1]? = some (.cells 3 [.int .i64 left] true):=aN b1'
  have b0'':(Y ++ [O.cells 51 [.bool x.1,.str x.2] true] ++ [O.cells 51 [.bool x.1,.str x.2] true])[0]? = some (.cells 128 [.imp false (D.map dV)] true):=aN b0'
  have on2:=on1.app [O.cells 51 [.bool x.1,.str x.2] true]
  have s2:(Y ++ [O.cells 51 [.bool x.1,.str x.2] true] ++ [O.cells 51 [.bool x.1,.str x.2] true])[(Y ++ [O.cells 51 [.bool x.1,.str x.2] true]).length]? = some (O.cells 51 [.bool x.1,.str x.2] true):=aK
  have s1:(Y ++ [O.cells 51 [.bool x.1,.str x.2] true])[Y.length]? = some (O.cells 51 [.bool x.1,.str x.2] true):=aK
  rw [aG]
  cases hd:oF D x with
  | none=>
   rw [hd] at lk
   simp only [KP,Ax.loadAt,Ax.storeAt,↓reduceIte,reduceEqDiff,reduceLT,reduceAdd,reduceCtorEq,h.cP,tr.vC,g7,g23,g24,g25,hlt,hadd,e1,hc,hle,hrow,row,lk,b0',aK,bV]
   exact next _ _ (yJ (by simp +decide only [GS,g0,g7,g9,g23,g24,Z5]) ⟨on1,b0',w,p,left,(by simp +decide only [GS,g8]),ow1,b1',bs.none hx hd⟩)
  | some d=>
   rw [hd] at lk
   by_cases hl0:left < 0
   ·have q0:=BY hl0
    simp only [KP,Ax.loadAt,Ax.storeAt,↓reduceIte,reduceEqDiff,reduceLT,reduceLeDiff,reduceAdd,reduceMul,h.mZ,h.kI,h.cP,tr.vC,g7,g9,g23,g24,g25,hlt,hadd,e1,hc,hle,hrow,row,lk,b0',b1',b1'',q0,aK,bV,pE]
    refine next _ _ (yJ (by simp +decide only [GS,g0,g7,g9,g23,g24,Z5]) ⟨xL on2 b1'' (by decide),(by rw [No (by decide)]; exact b0''),.sl (Y ++ [O.cells 51 [.bool x.1,.str x.2] true]).length 0 1 none,[x],(d:Int),(by simp +decide only [GS]),xL (.inr ⟨_,[row x],true,rfl,s2,.one rfl⟩) b1'' (by decide),(by rw [ZV (AI.1 b1'').1]),bs.take hx hd (.inl hl0)⟩)
   ·have q0:=AS hl0
    by_cases hdl:(d:Int) < left
    ·have q1:=BY hdl
     simp only [KP,Ax.loadAt,Ax.storeAt,↓reduceIte,reduceEqDiff,reduceLT,reduceLeDiff,reduceAdd,reduceMul,h.mZ,h.kI,h.cP,tr.vC,g7,g9,g23,g24,g25,hlt,hadd,e1,hc,hle,hrow,row,lk,b0',b1',b1'',q0,q1,aK,bV,pE]
     refine next _ _ (yJ (by simp +decide only [GS,g0,g7,g9,g23,g24,Z5]) ⟨xL on2 b1'' (by decide),(by rw [No (by decide)]; exact b0''),.sl (Y ++ [O.cells 51 [.bool x.1,.str x.2] true]).length 0 1 none,[x],(d:Int),(by simp +decide only [GS]),xL (.inr ⟨_,[row x],true,rfl,s2,.one rfl⟩) b1'' (by decide),(by rw [ZV (AI.1 b1'').1]),bs.take hx hd (.inr hdl)⟩)
    ·have q1:=AS hdl
     simp only [KP,Ax.loadAt,Ax.storeAt,↓reduceIte,reduceEqDiff,reduceLT,reduceAdd,h.mZ,h.cP,tr.vC,g7,g9,g23,g24,g25,hlt,hadd,e1,hc,hle,hrow,row,lk,b0',b1',q0,q1,aK,bV]
     exact next _ _ (yJ (by simp +decide only [GS,g0,g7,g9,g23,g24,Z5]) ⟨on1,b0',w,p,left,(by simp +decide only [GS,g8]),ow1,b1',bs.skip hx hd (by omega) (by omega)⟩)
 ·rintro F Y ⟨g0,g7,g9,g23,g24,g25,on,b0,w,p,left,g8,ow,b1,bs⟩
  have hlt:=d_ (ZT Sx.length)
  rw [aG]
  simp only [KP,↓reduceIte,reduceLT,g24,g25,hlt]
  exact hk _ _ w p left (by simp +decide only [GS,g0]) (by simp +decide only [GS,g7]) (by simp +decide only [GS,g8]) (by simp +decide only [GS,g9]) ow b0 b1 bs
end
end
section
section
variable {E:Env} {Z:Sg} {K:V -> Sg -> Prop}
theorem DR {rs:List aC} (x y:aI):x ∈ iS rs y ↔ y ∈ jI rs x:=by rw [qO,zL]
end
end
section
section
variable {E:Env} {Z:Sg} {K:V -> Sg -> Prop}
structure Wy (D:List (aI × Nat)) (rs:List aC) (d:Nat) (p:List aI):Prop where
 bJ:∀ (i:Nat) (y:aI),p[i]? = some y -> i <= d /\ oF D y = some (d - i)
 nx:∀ (i:Nat) (y x:aI),p[i]? = some y -> p[i + 1]? = some x -> ∃ m,bQ (De D ((d:Int) - (i:Int) - 1)) (iS rs y) = some m /\ (iS rs y)[m]? = some x
theorem G1 {D:List (aI × Nat)} {n:Int} {x:aI}:De D n x = true ↔ ∃ d:Nat,oF D x = some d /\ (d:Int) = n:=by
 unfold De
 cases oF D x with
 | none=>simp
 | some d=>simp
theorem Wy.snoc {D:List (aI × Nat)} {rs:List aC} {d i m:Nat} {p:List aI} {y x:aI} (h:Wy D rs d p) (hp:p.length = i + 1) (hid:i < d) (hy:p[i]? = some y) (hm:bQ (De D ((d:Int) - (i:Int) - 1)) (iS rs y) = some m) (hx:(iS rs y)[m]? = some x):Wy D rs d (p ++ [x]):=by
 have hxa:De D ((d:Int) - (i:Int) - 1) x = true:=by
  obtain ⟨x',h1,h2⟩:=gY hm
  rw [hx] at h1; cases h1; exact h2
 refine ⟨fun j z hz=>?_,fun j z u hz hu=>?_⟩
 ·rcases ZZ j p.length with g | g
  ·rw [Z8 g] at hz
   exact h.bJ j z hz
  ·rw [ZR g] at hz
   obtain ⟨h0,e⟩:=AI.1 hz
   have hj:j = i + 1:=by rw [cq] at h0; omega
   subst hj
   have hzx:z = x:=by rw [<- e]; simp [hp]
   subst hzx
   obtain ⟨e',h1,h2⟩:=G1.1 hxa
   exact ⟨by omega,by rw [h1]; congr 1; omega⟩
 ·rcases ZZ (j + 1) p.length with g | g
  ·rw [Z8 (by omega)] at hz
   rw [Z8 g] at hu
   exact h.nx j z u hz hu
  ·have hj:j = i:=by
    have:=(AI.1 hu).1
    rw [Z7,cq] at this
    omega
   subst hj
   rw [Z8 (by omega),hy] at hz
   cases hz
   rw [ZR (by omega),hp,gz] at hu
   cases hu
   exact ⟨m,hm,hx⟩
theorem Ts {rs:List aC} {ls:List aI} {D:List (aI × Nat)} (dd:Ey rs ls D) {y:aI} {d i:Nat} (hid:i < d) (hy:oF D y = some (d - i)):∃ m x,bQ (De D ((d:Int) - (i:Int) - 1)) (iS rs y) = some m /\ (iS rs y)[m]? = some x:=by
 have h1:FD (jI rs) (fun x=>x ∈ ls /\ x ∈ gC rs) ((d - i - 1) + 1) y:=by
  rw [show d - i - 1 + 1 = d - i by omega]
  exact (dd.is y _).1 hy
 obtain ⟨z,hz,hyz⟩:=h1.back
 obtain ⟨m,hm⟩:=nF (p:=De D ((d:Int) - (i:Int) - 1)) ((DR z y).2 hyz) (G1.2 ⟨d - i - 1,(dd.is z _).2 hz,by omega⟩)
 obtain ⟨x,hx,-⟩:=gY hm
 exact ⟨m,x,hm,hx⟩
theorem PK {Y:Sg} {es:List (V × V)} {n:Int} {f:Nat} (b0:Y[0]? = some (.cells 128 [.imp false es] true)) (b1:Y[1]? = some (.cells 3 [.int .i64 n] true)) :
  aS Y E.ty true (.fn f [] [.ref 0 0,.ref 1 0]) = some (.fn f [] [.cW true [.imp false es],.cW true [.int .i64 n]]):=by
 have h1:=JW (E:=E) b0 (cs':=[.imp false es]) (gK fun x hx=>by
  rw [ae.1 hx]
  rfl)
 have h2:=JW (E:=E) b1 (cs':=[.int .i64 n]) (gK fun x hx=>by
  rw [ae.1 hx]
  rfl)
 simp only [aS,aW,h1,h2]
theorem PI (h:bH E) (h':pV E) (hl:Lb.cQ E) (q:Dn E) (tr:CW E) {g:V} {rs:List aC} (hg:Ex E rs g) (hf:Fits rs) {ls:List aI} {D:List (aI × Nat)} (dd:Ey rs ls D) {x0:aI} {d:Nat} (hx0:oF D x0 = some d) {w:V} {Y:Sg} (ow:bA eU 51 Y w [x0]) (b0:Y[0]? = some (.cells 128 [.imp false (D.map dV)] true)) (b1:Y[1]? = some (.cells 3 [.int .i64 (d:Int)] true))
  (F:FT) (g0:F.get 0 = g) (g7:F.get 7 = .ref 0 0) (g8:F.get 8 = w) (g9:F.get 9 = .ref 1 0) {st:List jG} {Q:Ax.X -> Fr -> Sg -> Prop}
  (hk:∀ F' τ' w' p,F'.get 8 = w' -> bA eU 51 τ' w' p -> p.length = d + 1 -> p[0]? = some x0 -> Wy D rs d p -> M E st .normal ⟨72,F'⟩ τ' Q):Ax.R E (cutAt [1,1,1,1,1,0] (aA Tryz.f34).code) st ⟨72,F⟩ Y Q:=by
 have hd2:=dd.le x0 d hx0
 simp only [aA,Tryz.f34,KP,reduceNeg,cutAt]
 refine aV (fun i F Y=>F.get 0 = g /\ F.get 7 = .ref 0 0 /\ F.get 9 = .ref 1 0 /\ Y[0]? = some (.cells 128 [.imp false (D.map dV)] true) /\ Y[1]? = some (.cells 3 [.int .i64 ((d:Int) - (i:Int))] true) /\ ∃ w p,F.get 8 = w /\ bA eU 51 Y w p /\ p.length = i + 1 /\ p[0]? = some x0 /\ Wy D rs d p) d ?_ ?_ d 0 _ _ (by omega) ⟨(by simp +decide only [g0]),(by simp +decide only [g7]),(by simp +decide only [g9]),b0,by rw [show ((d:Int) - ((0:Nat):Int)) = (d:Int) by omega]; exact b1,w,[x0],(by simp +decide only [g8]),ow,rfl,rfl,⟨fun i y hy=>by
  obtain ⟨hi,e⟩:=AI.1 hy
  rw [cq] at hi
  obtain rfl:i = 0:=by omega
  cases e
  exact ⟨dc _,hx0⟩,fun i y x hy hx=>by
  have:=(AI.1 hx).1
  rw [cq] at this
  omega⟩⟩
 ·clear ow b0 b1 g0 g7 g8 g9
  rintro i F Y hi ⟨g0,g7,g9,b0,b1,w,p,g8,ow,hpl,hp0,wy⟩ next
  obtain ⟨y,hy⟩:∃ y,p[i]? = some y:=⟨_,AT (by omega)⟩
  obtain ⟨c,o,u,cs,ex,e1,hc,hle,hrow⟩:=IB hl ow hy
  obtain ⟨m,x,hm,hx⟩:=Ts dd hi (wy.bJ i y hy).2
  have lw:=nM hl.kI rfl ow.ls
  rw [hpl] at lw
  have hgt:decide ((0:Int) < (d:Int) - (i:Int)) = true:=BY (by omega)
  have hw1:wr .i64 (((i + 1:Nat):Int) - 1) = (i:Int):=by rw [FG _ (by omega) (by omega)]; omega
  have hw2:wr .i64 ((d:Int) - (i:Int) - 1) = (d:Int) - (i:Int) - 1:=FG _ (by omega) (by omega)
  rw [aG]
  simp only [KP,Ax.loadAt,↓reduceIte,reduceEqDiff,reduceLT,reduceCtorEq,h.mZ,h.cP,g0,g8,g9,b1,hgt,lw,hw1,e1,hc,hle,hrow,row]
  refine aP (HC h h' hl q hg hf y) ?_
  rintro v σ' ⟨rfl,hv⟩
  have hvi:=hv.Pe.is
  have hdl:(iS rs y).length <= 2000:=cm (kN (B1 rs y).nodup fun x hx=>GA y x hx) (uE hf)
  have ef:=PK (E:=E) (f:=98) b0 b1
  have kf:=dK (fun K=>RA (Z:=σ') (K:=K) (k:=98) (caps:=[.cW true [.imp false (D.map dV)],.cW true [.int .i64 ((d:Int) - (i:Int))]]) (P:=De D ((d:Int) - (i:Int) - 1)) h hl tr (hvi.ls σ' 51) (by omega) (fun z _=>by
   show aB E 98 [.agg [.bool z.1,.str z.2],.cW true [.imp false (D.map dV)],.cW true [.int .i64 ((d:Int) - (i:Int))]] [] _
   rw [b_S1 h hl tr hw2]; exact ⟨rfl,rfl⟩) ef)
  rw [hm,eV] at kf
  obtain ⟨gi,e2⟩:=wL h hvi hx
  obtain ⟨w',τ5,ha5,ow5,Mm,-⟩:=Fy (x:=x) (ex:=true) hl ow (by omega)
  have n0:aQ w ≠ some 0:=Gv ow fun u ex e=>by rw [b0] at e; cases e
  have n1:aQ w ≠ some 1:=Gv ow fun u ex e=>by rw [b1] at e; cases e
  have b05:=Mm _ _ (aN b0) n0
  have b15:=Mm _ _ (aN b1) n1
  simp only [KP,Ax.loadAt,Ax.storeAt,↓reduceIte,reduceEqDiff,reduceLT,reduceLeDiff,reduceAdd,reduceMul,h.mZ,h.kI,h.cP,g7,g8,g9,kf,e2,pE,ha5,b15,hw2]
  refine next _ _ (iU (by simp +decide only [GS,g0,g7,g9,Z5]) ⟨(by rw [No (by decide)]; exact b05),(by rw [ZV (AI.1 b15).1,show ((d:Int) - ((i + 1:Nat):Int)) = (d:Int) - (i:Int) - 1 by omega]),w',p ++ [x],(by simp +decide only [GS]),xL ow5 b15 (by decide),by rw [Z7,cq,hpl],by rw [Z8 (by omega)]; exact hp0,wy.snoc hpl hi hy hm hx⟩)
 ·rintro F Y ⟨g0,g7,g9,b0,b1,w,p,g8,ow,hpl,hp0,wy⟩
  rw [show ((d:Int) - (d:Int)) = 0 by omega] at b1
  rw [aG]
  simp only [KP,Ax.loadAt,↓reduceIte,reduceLT,Int.reduceLT,h.mZ,g9,b1]
  exact hk _ _ w p (by simp +decide only [GS,g8]) ow hpl hp0 wy
def R_ (rs:List aC) (D:List (aI × Nat)) (Sx p:List aI):Prop:=
 (p = [] /\ ∀ x,x ∈ Sx -> oF D x = none) \/
 ∃ (j:Nat) (x0:aI) (d:Nat),Sx[j]? = some x0 /\ oF D x0 = some d /\ (∀ (j':Nat) (x:aI) (e:Nat),Sx[j']? = some x -> oF D x = some e -> d <= e /\ (j' < j -> d < e)) /\ p.length = d + 1 /\ p[0]? = some x0 /\ Wy D rs d p
theorem Qg:∀ r x,eU.P r x -> ∀ c ∈ r,cH false c = true:=fun r x hr c hc=>by
 rw [show r = row x from hr] at hc
 simp only [row,By,ZY,bt] at hc
 rcases hc with rfl | rfl <;> rfl
theorem tG (hl:Lb.cQ E) {Y:Sg} {r:V} {l:List aI} (ow:bA eU 51 Y r l):∃ v',cK Y E.ty false r = some v' /\ C0 v' l:=by
 obtain ⟨v',h1,h2⟩:=oI hl.cP rfl Qg ow
 exact ⟨v',h1,h2.imp id fun ⟨rs,f,e,a⟩=>⟨f,by rw [e,rI a]⟩⟩
theorem Un (h:bH E) (h':pV E) (hl:Lb.cQ E) (q:Dn E) (tr:CW E) {g:V} {rs:List aC} (hg:Ex E rs g) (hf:Fits rs) {a b:V} {fr tto:List aI} (ha:LS eU 51 Z a fr) (hb:LS eU 51 Z b tto) (hfr:fr.length <= 1000000) (hto:tto.length <= 1000000) (hstr:∀ x ∈ fr,x.2.length <= 9223372036854775806) :
  aB E 34 [g,a,b] Z fun v σ'=>σ' = Z /\ ∃ D Sx p,Ey rs tto D /\ C0 v p /\ Up Sx /\ (∀ x,x ∈ Sx ↔ x ∈ fr) /\ R_ rs D Sx p:=by
 obtain ⟨a',ea,ia⟩:=kV h ha
 obtain ⟨b',eb,ib⟩:=kV h hb
 have e1:=cN (Z:=Z) (ty:=E.ty) hg.bD (cA hg.bD)
 rw [aH tr.hs34 tr.sp34 tr.fn34 tr.md34 (args':=[g,a',b']) (by simp only [aW,e1,ea,eb]),aX (by kernel_rfl)]
 have kpick:=fun {D Sx r Y} hlen on b0 b1 F g0 g7 g8 g9 g23 g24 g25 st Q hk=>PJ (D:=D) (Sx:=Sx) (r:=r) (g:=g) (Y:=Y) h h' hl q tr hlen on b0 b1 F g0 g7 g8 g9 g23 g24 g25 (st:=st) (Q:=Q) hk
 have kwalk:=fun {D x0 d w Y} dd hx0 ow b0 b1 F g0 g7 g8 g9 st Q hk=>PI (ls:=tto) (D:=D) (x0:=x0) (d:=d) (w:=w) (Y:=Y) h h' hl q tr hg hf dd hx0 ow b0 b1 F g0 g7 g8 g9 (st:=st) (Q:=Q) hk
 rw [show (aA Tryz.f34).code = .seq (cutAt [0] (aA Tryz.f34).code) (.seq (cutAt [1,0] (aA Tryz.f34).code) (.seq (cutAt [1,1,0] (aA Tryz.f34).code) (.seq (cutAt [1,1,1,0] (aA Tryz.f34).code) (.seq (.seq (cutAt [1,1,1,1,0,0] (aA Tryz.f34).code) (cutAt [1,1,1,1,0,1] (aA Tryz.f34).code)) (.seq (cutAt [1,1,1,1,1,0] (aA Tryz.f34).code) (cutAt [1,1,1,1,1,1] (aA Tryz.f34).code)))))) from rfl]
 generalize cutAt [1,1,1,1,0,1] (aA Tryz.f34).code = PP at kpick ⊢
 generalize hBB:cutAt [1,1,1,1,1,0] (aA Tryz.f34).code = BB at kwalk ⊢
 simp only [aA,Tryz.f34,KP,↓reduceIte,reduceEqDiff,reduceLT,reduceAdd,reduceCtorEq,reduceNeg,cutAt]
 refine aP (HD h h' hl q tr hg hf (ib.ls _ 51) hto) ?_
 rintro v σ' ⟨rfl,D,rfl,dd⟩
 simp only [KP,Ax.storeAt,↓reduceIte,reduceEqDiff,reduceLT,reduceNeg,h.mZ,tr.vC]
 refine aP (Lb.OK hl ((IS.lv ia).sv _) (by omega)) ?_
 rintro r σ2 ⟨m,rfl,hs,-,ka⟩
 have b0:=ka 0 _ rfl
 have b1:=ka 1 _ rfl
 have hkl:(keys [] fr).length <= 1000000:=cm nC (by rw [ZN]; omega)
 simp only [KP,↓reduceIte,reduceLT,reduceAdd,reduceCtorEq,reduceNeg,hl.uY,hl.AO]
 refine aP (Lb.ZE hl hs hkl (fun x hx=>by
  have:=hstr x ((mem_keys.1 hx).resolve_left (by simp))
  omega)) ?_
 rintro r Y ⟨ho,ka2⟩
 have b0:=ka2 _ _ b0
 have b1:=ka2 _ _ b1
 have hmS:∀ x,x ∈ setOf (keys [] fr) ↔ x ∈ fr:=fun x=>by rw [iH,mem_keys]; simp
 have hup:=m_ (keys [] fr)
 have hSl:(setOf (keys [] fr)).length <= 1000000:=cm (kN hup.nodup fun x hx=>(iH.1 hx)) hkl
 generalize setOf (keys [] fr) = Sx at ho hmS hup hSl
 have on:bA eU 51 Y r Sx:=by
  rcases ho with h0 | ⟨j,-,h1,h2⟩
  ·exact .inl h0
  ·exact .inr ⟨j,Sx.map row,false,h1,h2,yO Sx⟩
 have lr:=nM hl.kI rfl on.ls
 simp only [KP,↓reduceIte,reduceLT,lr]
 refine kpick hSl on b0 b1 _ ?_ ?_ ?_ ?_ ?_ ?_ ?_ _ _ (fun F1 τ1 w p left q0 q7 q8 q9 ow c0 c1 bs=>?_)
 ·simp +decide only [GS]
 ·simp +decide only [GS]
 ·simp +decide only [GS]
 ·simp +decide only [GS]
 ·simp +decide only [GS]
 ·simp +decide only [GS]
 ·simp +decide only [GS]
 rcases bs with ⟨rfl,rfl,hno⟩ | ⟨j,x0,d,hj,hx0,hd,rfl,rfl,hmin⟩
 ·have hgt:decide ((0:Int) < -1) = false:=rfl
  obtain ⟨v',f1,iv⟩:=tG hl ow
  rw [Ln]
  subst hBB
  simp only [aA,Tryz.f34,KP,reduceNeg,cutAt]
  rw [aG]
  simp only [KP,Ax.loadAt,↓reduceIte,reduceEqDiff,reduceLT,Int.reduceLT,reduceNeg,h.mZ,q8,q9,c1,f1]
  exact ⟨D,Sx,[],dd,iv,hup,hmS,.inl ⟨rfl,fun x hx=>by
   obtain ⟨j,hj⟩:=cr.1 hx
   exact hno j x (AI.1 hj).1 hj⟩⟩
 ·rw [Ln]
  simp only [KP]
  refine kwalk dd hd ow c0 c1 F1 q0 q7 q8 q9 _ _ (fun F2 τ2 w' p p8 ow2 hpl hp0 wy=>?_)
  obtain ⟨v',f1,iv⟩:=tG hl ow2
  rw [Ln]
  simp only [KP,↓reduceIte,reduceLT,p8,f1]
  exact ⟨D,Sx,p,dd,iv,hup,hmS,.inr ⟨j,x0,d,hx0,hd,fun j' x e hj' he=>hmin j' x e (AI.1 hj').1 hj' he,hpl,hp0,wy⟩⟩
end
end
section
section
variable {E:Env} {Z:Sg} {K:V -> Sg -> Prop}
structure Way (rs:List aC) (p:List aI):Prop where
 ne:p ≠ []
 all:∀ x ∈ p,x ∈ gC rs
 nx:∀ (i:Nat) (y x:aI),p[i]? = some y -> p[i + 1]? = some x -> x ∈ iS rs y
theorem b_Is (h:bH E) (h':pV E) (hl:Lb.cQ E) (q:Dn E) (tr:CW E) {g:V} {rs:List aC} (hg:Ex E rs g) (hf:Fits rs) {a:V} {p:List aI} (ha:LS eU 51 Z a p) (hp:p.length <= 1000000):aB E 40 [g,a] Z fun v σ'=>σ' = Z /\ ∃ b:Bool,v = .bool b /\ (b = true ↔ Way rs p):=by
 obtain ⟨a',ea,ia⟩:=kV h ha
 have e1:=cN (Z:=Z) (ty:=E.ty) hg.bD (cA hg.bD)
 have d4:=tr.Zu
 simp only [aA,Tryz.f40,cutAt,Z9] at d4
 rw [aH tr.hs40 tr.sp40 tr.fn40 tr.md40 (args':=[g,a']) (by simp only [aW,e1,ea]),aX (by kernel_rfl)]
 have la:=iT h ia
 simp only [aA,Tryz.f40,KP,↓reduceIte,reduceEqDiff,reduceLT,reduceAdd,la]
 refine aV (fun i F Y=>F.get 0 = g /\ F.get 1 = a' /\ F.get 7 = a' /\ F.get 8 = .int .i64 (p.length:Int) /\ F.get 9 = .int .i64 (i:Int) /\ (∀ (j:Nat) (x:aI),j < i -> p[j]? = some x -> x ∈ gC rs) /\ ∀ (j:Nat) (y x:aI),j + 1 < i -> p[j]? = some y -> p[j + 1]? = some x -> x ∈ iS rs y) p.length ?_ ?_ p.length 0 _ _ (by omega) (iJ (by simp +decide only [GS,Z5]) ⟨fun j x hj=>by omega,fun j y x hj=>by omega⟩)
 ·rintro i F Y hi ⟨g0,g1,g7,g8,g9,hall,hnx⟩ next
  obtain ⟨x,hx⟩:∃ x,p[i]? = some x:=⟨_,AT hi⟩
  obtain ⟨gi,e1⟩:=wL h ia hx
  have hlt:=dZ hi
  have hadd:=bY i (by omega)
  have kk:=fun (Y:Sg)=>dK fun K=>KD (Z:=Y) (K:=K) h h' hl q hg hf x
  have hstep:x ∈ gC rs -> ∀ (j:Nat) (z:aI),j < i + 1 -> p[j]? = some z -> z ∈ gC rs:=fun hxa j z hj hz=>by
   rcases ZZ j i with g | g
   ·exact hall j z g hz
   ·obtain rfl:j = i:=by omega
    rw [hx] at hz; cases hz; exact hxa
  rw [aG]
  by_cases hxa:x ∈ gC rs
  ·have hkd:=Kb hxa
   generalize kindOf rs x = kd at kk hkd
   have hkd:decide (kd = 0) = false:=AS hkd
   by_cases hi0:i = 0
   ·have hgt:decide ((0:Int) < (i:Int)) = false:=AS (by omega)
    simp only [KP,Ax.loadAt,Ax.storeAt,↓reduceIte,reduceEqDiff,reduceLT,reduceAdd,reduceCtorEq,h.cP,g0,g7,g8,g9,hlt,e1,kk,hkd,hgt,hadd,aK,bV,aU d4,bM]
    exact next _ _ (iJ (by simp +decide only [GS,g0,g1,g7,g8,Z5]) ⟨hstep hxa,fun j y z hj=>by omega⟩)
   ·obtain ⟨y,hy⟩:∃ y,p[i - 1]? = some y:=⟨_,AT (by omega)⟩
    obtain ⟨gj,e2⟩:=wL h ia hy
    have hgt:decide ((0:Int) < (i:Int)) = true:=BY (by omega)
    have hw1:wr .i64 ((i:Int) - 1) = ((i - 1:Nat):Int):=by rw [FG _ (by omega) (by omega)]; omega
    simp only [KP,Ax.loadAt,Ax.storeAt,↓reduceIte,reduceEqDiff,reduceLT,reduceAdd,reduceCtorEq,h.cP,g0,g1,g7,g8,g9,hlt,e1,e2,kk,hkd,hgt,hw1,aK,bV,aU d4,bM]
    refine aP (HC h h' hl q hg hf y) ?_
    rintro v τ' ⟨e,hv⟩
    subst e
    have hvi:=hv.Pe.is
    have hdl:(iS rs y).length <= 2000:=cm (kN (B1 rs y).nodup fun x hx=>GA y x hx) (uE hf)
    have kc:=fun (Y:Sg)=>dK fun K=>RC (Z:=Y) (K:=K) (s:=x) h hl tr (hvi.ls Y 51) (by omega)
    by_cases hxn:x ∈ iS rs y
    ·rw [BY hxn] at kc
     simp only [KP,Ax.loadAt,↓reduceIte,reduceEqDiff,reduceLT,reduceAdd,h.cP,g9,kc,hadd,aK]
     refine next _ _ (iJ (by simp +decide only [GS,g0,g1,g7,g8,Z5]) ⟨hstep hxa,fun j y' z hj hy' hz=>?_⟩)
     rcases ZZ (j + 1) i with g | g
     ·exact hnx j y' z g hy' hz
     ·obtain rfl:i = j + 1:=by omega
      rw [Nat.add_sub_cancel,hy'] at hy
      cases hy
      rw [hx] at hz; cases hz; exact hxn
    ·rw [AS hxn] at kc
     simp only [KP,Ax.loadAt,↓reduceIte,reduceEqDiff,reduceLT,reduceAdd,h.cP,kc,aK,cK,aS]
     exact ⟨false,rfl,⟨fun e=>(by cases e),fun hw=>absurd (hw.nx (i - 1) y x hy (by rw [Nat.sub_add_cancel (by omega)]; exact hx)) hxn⟩⟩
  ·have hkd:=GP hxa
   rw [hkd] at kk
   simp only [KP,Ax.loadAt,Ax.storeAt,↓reduceIte,reduceEqDiff,reduceLT,reduceAdd,reduceCtorEq,h.cP,g0,g7,g8,g9,hlt,e1,kk,aK,bV,aU d4,bM]
   exact ⟨false,rfl,⟨fun e=>(by cases e),fun hw=>absurd (hw.all x (Z2 hx)) hxa⟩⟩
 ·rintro F Y ⟨g0,g1,g7,g8,g9,hall,hnx⟩
  have hlt:=d_ (ZT p.length)
  rw [aG]
  by_cases h0:p.length = 0
  ·have hgt:decide ((0:Int) < (p.length:Int)) = false:=AS (by omega)
   simp only [KP,↓reduceIte,reduceEqDiff,reduceLT,g1,g8,g9,hlt,la,hgt,cK,aS]
   exact ⟨false,rfl,⟨fun e=>(by cases e),fun hw=>absurd (fq.1 h0) hw.ne⟩⟩
  ·have hgt:decide ((0:Int) < (p.length:Int)) = true:=BY (by omega)
   simp only [KP,↓reduceIte,reduceEqDiff,reduceLT,g1,g8,g9,hlt,la,hgt,cK,aS]
   exact ⟨true,rfl,⟨fun _=>⟨fun e=>h0 (by rw [e]; rfl),fun x hx=>by
    obtain ⟨j,hj⟩:=cr.1 hx
    exact hall j x (AI.1 hj).1 hj,fun j y x hy hx=>hnx j y x (AI.1 hx).1 hy hx⟩,fun _=>rfl⟩⟩
end
end
section
section
variable {E:Env} {Z:Sg} {K:V -> Sg -> Prop}
def RO (rs:List aC):Nat -> aI -> aI -> Prop
 | 0,x,y=>x = y
 | n + 1,x,y=>∃ z,z ∈ iS rs x /\ RO rs n z y
theorem RO.snoc {rs:List aC}:∀ {n:Nat} {x y z:aI},RO rs n x y -> z ∈ iS rs y -> RO rs (n + 1) x z
 | 0,_,_,z,h,hz=>⟨z,by rw [show _ = _ from h]; exact hz,rfl⟩
 | n + 1,_,_,_,⟨u,hu,h⟩,hz=>⟨u,hu,RO.snoc h hz⟩
theorem rO {rs:List aC} {n:bC} {y:aI} (h:y ∈ iS rs (true,n)):∃ r ∈ rs,r.name = n /\ ∃ f ∈ r.ins,y = (false,f):=by
 obtain ⟨r,hr,⟨f,hf,e⟩ | ⟨f,hf,e⟩⟩:=DY.1 (qO.1 h)
 ·cases e; exact ⟨r,hr,rfl,f,hf,rfl⟩
 ·cases e
theorem xR {rs:List aC} {f:bC} {y:aI} (h:y ∈ iS rs (false,f)):∃ r ∈ rs,f ∈ r.outs /\ y = (true,r.name):=by
 obtain ⟨r,hr,⟨g,hg,e⟩ | ⟨g,hg,e⟩⟩:=DY.1 (qO.1 h)
 ·cases e
 ·cases e; exact ⟨r,hr,hg,rfl⟩
theorem KW {rs:List aC} (hf:Fits rs) {i:Nat} {p:aC} (hp:rs[i]? = some p) {y z:aI} (h1:y ∈ iS rs (true,p.name)) (h2:z ∈ iS rs y):∃ k r,rs[k]? = some r /\ z = (true,r.name) /\ iE rs false i k = true:=by
 obtain ⟨r0,hr0,hn0,f,hfi,rfl⟩:=rO h1
 obtain rfl:=K4 hf hr0 (Z2 hp) hn0
 obtain ⟨r1,hr1,hfo,rfl⟩:=xR h2
 obtain ⟨k,hk⟩:=nF (p:=fun r:aC=>decide (f ∈ r.outs)) hr1 (BY hfo)
 obtain ⟨r,hr,hro⟩:=gY hk
 have hro:=bf hro
 have hn:=(rY hf.ok.1).short.jA f r.name r1.name ⟨r,Z2 hr,hro,rfl⟩ ⟨r1,hr1,hfo,rfl⟩
 refine ⟨k,r,hr,by rw [hn],?_⟩
 unfold iE
 rw [hp]
 unfold uO
 rw [bz]
 exact .inl (bp.2 ⟨f,hfi,BY hk⟩)
theorem PU {rs:List aC} (hf:Fits rs) (n:Nat):∀ {i:Nat} {p:aC} {m:bC},rs[i]? = some p -> RO rs n (true,p.name) (true,m) -> n = 0 \/ ∃ k r,rs[k]? = some r /\ r.name = m /\ AxS.Way (iE rs false) i k:=by
 induction n using Nat.strongRecOn with
 | _ n ih=>
  intro i p m hp h
  match n,h with
  | 0,_=>exact .inl rfl
  | 1,⟨z,hz,hzm⟩=>
   obtain ⟨r,-,-,f,-,rfl⟩:=rO hz
   cases hzm
  | n + 2,⟨y,hy,z,hz,h⟩=>
   obtain ⟨k,r,hr,rfl,hn⟩:=KW hf hp hy hz
   rcases ih n (by omega) hr h with rfl | ⟨k',r',h1,h2,h3⟩
   ·cases h
    exact .inr ⟨k,r,hr,rfl,.one hn⟩
   ·exact .inr ⟨k',r',h1,h2,.cons hn h3⟩
theorem PZ {rs:List aC} (hf:Fits rs) {n:Nat} {x:aI} (h:RO rs (n + 1) x x):False:=by
 have hnd:(rs.map aC.name).Nodup:=tQ (rY hf.ok.1).short.nodup
 have key:∀ (n:Nat) (p:aC),p ∈ rs -> RO rs (n + 1) (true,p.name) (true,p.name) -> False:=fun n p hp h=>by
  obtain ⟨i,hi⟩:=cr.1 hp
  rcases PU hf (n + 1) hi h with h0 | ⟨k,r,hr,hrn,hw⟩
  ·omega
  ·have hik:i = k:=by
    have h1:(rs.map aC.name)[i]? = some p.name:=by rw [gp,hi]; rfl
    have h2:(rs.map aC.name)[k]? = some p.name:=by rw [gp,hr,<- hrn]; rfl
    obtain ⟨hil,e1⟩:=AI.1 h1
    obtain ⟨hkl,e2⟩:=AI.1 h2
    exact (List.getElem_inj hnd).1 (e1.trans e2.symm)
   subst hik
   exact hf.ok.2 ⟨i,(AI.1 hi).1,hw⟩
 obtain ⟨z,hz,hzx⟩:=h
 obtain ⟨b,s⟩:=x
 cases b with
 | true=>
  obtain ⟨r,hr,rfl,-⟩:=rO hz
  exact key n r hr ⟨z,hz,hzx⟩
 | false=>
  obtain ⟨r,hr,-,rfl⟩:=xR hz
  exact key n r hr (hzx.snoc hz)
theorem Way.pth {rs:List aC} {p:List aI} (h:Way rs p):∀ (n i:Nat) {y z:aI},p[i]? = some y -> p[i + n]? = some z -> RO rs n y z
 | 0,i,y,z,hy,hz=>by rw [jl,hy] at hz; cases hz; rfl
 | n + 1,i,y,z,hy,hz=>by
  obtain ⟨u,hu⟩:∃ u,p[i + 1]? = some u:=⟨_,AT (by have:=(AI.1 hz).1; omega)⟩
  exact ⟨u,h.nx i y u hy hu,h.pth n (i + 1) hu (by rw [show i + 1 + n = i + (n + 1) by omega]; exact hz)⟩
theorem Way.take {rs:List aC} {p:List aI} (h:Way rs p) (k:Nat):Way rs (p.take (k + 1)):=by
 refine ⟨fun e=>?_,fun x hx=>h.all x (ik hx),fun i y x hy hx=>?_⟩
 ·have:=ZL List.length e
  rw [ZW,ZN] at this
  have:=ff.2 h.ne
  omega
 ·have hl:=(AI.1 hx).1
  rw [ZW] at hl
  rw [br (by omega)] at hy hx
  exact h.nx i y x hy hx
theorem Way.drop {rs:List aC} {p:List aI} (h:Way rs p) {k:Nat} (hk:k < p.length):Way rs (p.drop k):=by
 refine ⟨fun e=>?_,fun x hx=>h.all x (List.mem_of_mem_drop hx),fun i y x hy hx=>?_⟩
 ·have:=ZL List.length e
  rw [dh,ZN] at this
  omega
 ·rw [ec] at hy hx
  exact h.nx (k + i) y x hy (by rw [show k + i + 1 = k + (i + 1) by omega]; exact hx)
theorem Way.Sv {rs:List aC} (hf:Fits rs) {p:List aI} (h:Way rs p) {k:Nat} (hk:k < p.length) (hk0:0 < k):¬ Way rs (p.drop k ++ p.take k):=fun hw=>by
 obtain ⟨z,hz⟩:∃ z,p[p.length - 1]? = some z:=⟨_,AT (by omega)⟩
 obtain ⟨a,ha⟩:∃ a,p[0]? = some a:=⟨_,AT (by omega)⟩
 have h1:(p.drop k ++ p.take k)[p.length - k - 1]? = some z:=by
  rw [Z8 (by rw [dh]; omega),ec,show k + (p.length - k - 1) = p.length - 1 by omega]
  exact hz
 have h2:(p.drop k ++ p.take k)[p.length - k - 1 + 1]? = some a:=by
  rw [ZR (by rw [dh]; omega),dh,show p.length - k - 1 + 1 - (p.length - k) = 0 by omega,br hk0]
  exact ha
 have h3:=h.pth (p.length - 1) 0 ha (by rw [an]; exact hz)
 exact PZ hf (h3.snoc (hw.nx _ z a h1 h2))
theorem Way.join {rs:List aC} {p r:List aI} {b:aI} (h:Way rs p) (h':Way rs r) (hp:p[p.length - 1]? = some b) (hr:r[0]? = some b):Way rs (p ++ r.drop 1):=by
 have hpl:=ff.2 h.ne
 refine ⟨fun e=>h.ne (List.append_eq_nil_iff.1 e).1,fun x hx=>?_,fun i y x hy hx=>?_⟩
 ·rcases aa.1 hx with hx | hx
  ·exact h.all x hx
  ·exact h'.all x (List.mem_of_mem_drop hx)
 ·rcases fm (i + 1) p.length with g | g | g
  ·rw [Z8 (by omega)] at hy hx
   exact h.nx i y x hy hx
  ·rw [Z8 (by omega),show i = p.length - 1 by omega,hp] at hy
   cases hy
   rw [ZR (by omega),ec,show 1 + (i + 1 - p.length) = 0 + 1 by omega] at hx
   exact h'.nx 0 b x hr hx
  ·rw [ZR (by omega),ec] at hy hx
   exact h'.nx (1 + (i - p.length)) y x hy (by rw [show 1 + (i - p.length) + 1 = 1 + (i + 1 - p.length) by omega]; exact hx)
theorem Way.bJ {rs:List aC} {p:List aI} (h:Way rs p) {c:aI} (hc:p[p.length - 1]? = some c):∀ (n i:Nat) {y:aI},i + n + 1 = p.length -> p[i]? = some y -> Rk (jI rs) (fun x=>x ∈ [c] /\ x ∈ gC rs) n y
 | 0,i,y,hl,hy=>by
  rw [show p.length - 1 = i by omega,hy] at hc
  cases hc
  exact ⟨ae.2 rfl,h.all _ (Z2 hy)⟩
 | n + 1,i,y,hl,hy=>by
  obtain ⟨u,hu⟩:∃ u,p[i + 1]? = some u:=⟨_,AT (by omega)⟩
  exact .inr ⟨u,h.bJ hc n (i + 1) (by omega) hu,(DR u y).1 (h.nx i y u hy hu)⟩
theorem Q5 {rs:List aC} {ls:List aI} {D:List (aI × Nat)} (dd:Ey rs ls D) {x:aI} {d:Nat} (hd:oF D x = some d):x ∈ gC rs:=
 Rk.sub (P:=fun x=>x ∈ gC rs) (fun _ hx=>hx.2) (fun y x hx=>FN y x hx) d ((dd.is x d).1 hd).1
structure Told (rs:List aC) (a b:aI) (p:List aI):Prop where
 way:p ≠ [] -> Way rs p /\ p[0]? = some a /\ p[p.length - 1]? = some b
 short:∀ w,Way rs w -> w[0]? = some a -> w[w.length - 1]? = some b -> p.length <= w.length
 some:∀ w,Way rs w -> w[0]? = some a -> w[w.length - 1]? = some b -> p ≠ []
theorem Ps {rs:List aC} {a b:aI} {D:List (aI × Nat)} {Sx p:List aI} (dd:Ey rs [b] D) (hS:∀ x,x ∈ Sx ↔ x ∈ [a]) (h:R_ rs D Sx p):Told rs a b p:=by
 have hnear:∀ w,Way rs w -> w[0]? = some a -> w[w.length - 1]? = some b -> ∃ d,d + 1 <= w.length /\ oF D a = some d:=fun w hw ha hb=>by
  have hl:=ff.2 hw.ne
  obtain ⟨d,hd,hi⟩:=FD.some (hw.bJ hb (w.length - 1) 0 (by omega) ha)
  exact ⟨d,by omega,(dd.is a d).2 hi⟩
 rcases h with ⟨rfl,hno⟩ | ⟨j,x0,d,hj,hx0,hmin,hpl,hp0,wy⟩
 ·refine ⟨fun e=>absurd rfl e,fun w hw ha hb=>dc _,fun w hw ha hb=>?_⟩
  obtain ⟨d,-,hd⟩:=hnear w hw ha hb
  rw [hno a ((hS a).2 (ae.2 rfl))] at hd
  cases hd
 ·have hxa:x0 = a:=ae.1 ((hS x0).1 (Z2 hj))
  subst hxa
  have hne:p ≠ []:=fun e=>by rw [e] at hpl; simp at hpl
  refine ⟨fun _=>⟨⟨hne,fun x hx=>?_,fun i y x hy hx=>?_⟩,hp0,?_⟩,fun w hw ha hb=>?_,fun _ _ _ _=>hne⟩
  ·obtain ⟨i,hi⟩:=cr.1 hx
   exact Q5 dd (wy.bJ i x hi).2
  ·obtain ⟨m,-,hm⟩:=wy.nx i y x hy hx
   exact Z2 hm
  ·obtain ⟨z,hz⟩:∃ z,p[p.length - 1]? = some z:=⟨_,AT (by omega)⟩
   have h0:=(wy.bJ _ z hz).2
   rw [show d - (p.length - 1) = 0 by omega] at h0
   have h1:z ∈ [b]:=((dd.is z 0).1 h0).1.1
   rw [hz,ae.1 h1]
  ·obtain ⟨e,he,hd⟩:=hnear w hw ha hb
   rw [hx0] at hd
   cases hd
   omega
end
end
section
structure UI (E:Env):Prop where
 hs10:E.hspec 10 = none
 MT:E.spec 10 = none
 fn10:E.fn 10 = some (aA Tryz.f10)
 md10:E.mode 10 = .eW
 UU:fA E (opsOf (cutAt [1,1,1,1,1,0] (aA Tryz.f10).code)) = .lit
 Wv:cC E .lit (opsOf (cutAt [1,1,1,1,1,0] (aA Tryz.f10).code)) = some []
 UT:fA E (opsOf (cutAt [1,1,1,1,1,1,0,1,0,1,0] (aA Tryz.f10).code)) = .no
 Wu:cC E .no (opsOf (cutAt [1,1,1,1,1,1,0,1,0,1,0] (aA Tryz.f10).code)) = some [⟨28,31,true,false⟩]
 Sk:fA E (opsOf (cutAt [1,1,1,1,1,1,1,1,0] (aA Tryz.f10).code)) = .lit
 Tp:cC E .lit (opsOf (cutAt [1,1,1,1,1,1,1,1,0] (aA Tryz.f10).code)) = some [⟨2,4,true,false⟩]
 beg:∀ {Z:Sg} {K:V -> Sg -> Prop},aB E 11 [] Z K = K (.bool true) Z
section
variable {E:Env} {Z:Sg} {K:V -> Sg -> Prop}
theorem Np {Y:Sg} (x:aI):LS eU 51 Y (.bS false [[.bool x.1,.str x.2]] true) [x]:=.inl (.inr ⟨false,[row x],true,rfl,.one rfl⟩)
theorem EH (h:bH E) (h':pV E) (hl:Lb.cQ E) (q:Dn E) (tr:CW E) {g:V} {rs:List aC} (hg:Ex E rs g) (hf:Fits rs) {a b:aI} (ha:a.2.length <= 9223372036854775806) (Z:Sg):∃ v p,C0 v p /\ Told rs a b p /\ p.length <= 2002 /\ ∃ n,∀ m,n <= m -> fW E (ev E m) 34 [g,.bS false [[.bool a.1,.str a.2]] true,.bS false [[.bool b.1,.str b.2]] true] Z = some (v,Z):=by
 obtain ⟨n,v,Y,⟨e,D,Sx,p,dd,hv,hup,hS,hR⟩,c⟩:=aB.up (Un h h' hl q tr hg hf (Z:=Z) (Np a) (Np b) (by simp) (by simp) (fun x hx=>by rw [ae.1 hx]; exact ha))
 rw [e] at c
 refine ⟨v,p,hv,Ps dd hS hR,?_,n,c⟩
 rcases hR with ⟨rfl,-⟩ | ⟨j,x0,d,-,hx0,-,hpl,-,-⟩
 ·simp
 ·have:=dd.le x0 d hx0
  omega
theorem Jo (h:bH E) (h':pV E) (hl:Lb.cQ E) (q:Dn E) (tr:CW E) {g:V} {rs:List aC} (hg:Ex E rs g) (hf:Fits rs) {a:V} {p:List aI} {Z:Sg} (ha:LS eU 51 Z a p) (hp:p.length <= 1000000):∃ b:Bool,(b = true ↔ Way rs p) /\ ∃ n,∀ m,n <= m -> fW E (ev E m) 40 [g,a] Z = some (.bool b,Z):=by
 obtain ⟨n,v,Y,⟨e,b,rfl,hb⟩,c⟩:=aB.up (b_Is h h' hl q tr hg hf ha hp)
 rw [e] at c
 exact ⟨b,hb,n,c⟩
theorem UY (h:bH E) (h':pV E) (hl:Lb.cQ E) (q:Dn E) (tr:CW E) (tc:UI E) {g:V} {rs:List aC} (hg:Ex E rs g) (hf:Fits rs) {Y:Sg} {a b c:aI} {na nb nc:Nat} (ha:Y[na]? = some (O.cells 51 [.bool a.1,.str a.2] true)) (hb:Y[nb]? = some (O.cells 51 [.bool b.1,.str b.2] true)) (hc:Y[nc]? = some (O.cells 51 [.bool c.1,.str c.2] true)) (la:a.2.length <= 9223372036854775806) (lb:b.2.length <= 9223372036854775806)
  (F:FT) (g6:F.get 6 = .ref na 0) (g7:F.get 7 = .ref nb 0) (g8:F.get 8 = .ref nc 0) (g12:F.get 12 = g) {st:List jG} {Q:Ax.X -> Fr -> Sg -> Prop}
  (hk:∀ F' v1 p1 v2 p2,(∀ k,k ∈ [0,4,6,7,8,12] -> F'.get k = F.get k) -> F'.get 13 = v1 -> F'.get 14 = v2 -> C0 v1 p1 -> C0 v2 p2 -> Told rs a b p1 -> Told rs b c p2 -> p1.length <= 2002 -> p2.length <= 2002 -> M E st .normal ⟨113,F'⟩ Y Q):Ax.R E (.region 6 (opsOf (cutAt [1,1,1,1,1,0] (aA Tryz.f10).code)) true) st ⟨113,F⟩ Y Q:=by
 obtain ⟨v1,p1,hv1,t1,l1,n1,c1⟩:=EH h h' hl q tr hg hf (a:=a) (b:=b) la Y
 obtain ⟨v2,p2,hv2,t2,l2,n2,c2⟩:=EH h h' hl q tr hg hf (a:=b) (b:=c) lb Y
 have c1:=c1 (n1 + n2) (by omega)
 have c2:=c2 (n1 + n2) (by omega)
 generalize n1 + n2 = n at c1 c2
 have tb:∀ x:Bool,cH false (V.bool x) = true:=fun _=>rfl
 have ts:∀ x:bC,cH false (V.str x) = true:=fun _=>rfl
 have key:∃ F',cE E (ev E n) (opsOf (cutAt [1,1,1,1,1,0] (aA Tryz.f10).code)) ⟨113,F⟩ Y = some (⟨113,F'⟩,Y) /\ (∀ k,k ∈ [0,4,6,7,8,12] -> F'.get k = F.get k) /\ F'.get 13 = v1 /\ F'.get 14 = v2:=by
  unfold cE
  rw [tc.UU,tc.Wv]
  simp only [aA,Tryz.f10,KP,Ax.loadAt,↓reduceIte,reduceEqDiff,reduceLT,reduceLeDiff,reduceAdd,reduceMul,h.kI,h.cP,opsOf,cutAt,Fz.lits,bF,b_,jW,Ax.comp,xX,fV,Ax.rows,g6,g7,g8,g12,ha,hb,hc,c1,c2,tb,ts,pE]
  refine ⟨_,rfl,?_,(by simp +decide only [GS,Z5])⟩
  intro k hk
  simp only [By,ZY,bt] at hk
  rcases hk with rfl | rfl | rfl | rfl | rfl | rfl <;> simp +decide only [GS]
 obtain ⟨F',hD,hF,h13,h14⟩:=key
 exact Eq.mpr (gP hD) (hk F' v1 p1 v2 p2 hF h13 h14 hv1 hv2 t1 t2 l1 l2)
theorem FL {v:V} {l:List aI} (hv:IS eU v l):sO 12 v v = true:=Ia 11 (fun r x hr c hc=>by
 rw [show r = row x from hr] at hc
 simp only [row,By,ZY,bt] at hc
 rcases hc with rfl | rfl
 ·cases x.1 <;> rfl
 ·exact wR 10 _) hv
theorem UX (h:bH E) (h':pV E) (hl:Lb.cQ E) (q:Dn E) (tr:CW E) (tc:UI E) {g:V} {rs:List aC} (hg:Ex E rs g) (hf:Fits rs) {Y:Sg} {v:V} {p:List aI} (hv:C0 v p) (hw:Way rs p) (hp:p.length <= 2002) {k:Nat} (hkp:k < p.length)
  (F:FT) (g12:F.get 12 = g) (g13:F.get 13 = v) (g15:F.get 15 = .int .i64 (k:Int)) {st:List jG} {Q:Ax.X -> Fr -> Sg -> Prop}
  (hk:∀ F' τ',(∀ k,k ∈ [0,6,7,8,12,13,14] -> F'.get k = F.get k) -> F'.get 81 = .bool false -> (∀ (c:Nat) (o:O),Y[c]? = some o -> τ'[c]? = some o) -> M E st .normal ⟨113,F'⟩ τ' Q):Ax.R E (.region 9 (opsOf (cutAt [1,1,1,1,1,1,0,1,0,1,0] (aA Tryz.f10).code)) true) st ⟨113,F⟩ Y Q:=by
 have iv:=hv.Pe.is
 have lv:=iT h iv
 have hadd:=bY k (by omega)
 obtain ⟨w1,s1,i1,-⟩:=oK (lo:=none) (hi:=some (.int .i64 ((k + 1:Nat):Int))) (a:=0) (b:=k + 1) hl.kI rfl hl.cP rfl iv (.inr rfl) (.inl ⟨rfl,rfl⟩) (dc _) hkp
 rw [cn] at i1
 obtain ⟨w2,s2,i2,-⟩:=oK (lo:=some (.int .i64 (k:Int))) (hi:=none) (a:=k) (b:=p.length) hl.kI rfl hl.cP rfl iv (.inl ⟨rfl,rfl⟩) (.inr rfl) (Nat.le_of_lt hkp) (Z1 _)
 rw [Z6 (Z1 _)] at i2
 obtain ⟨w3,s3,i3,-⟩:=oK (lo:=none) (hi:=some (.int .i64 (k:Int))) (a:=0) (b:=k) hl.kI rfl hl.cP rfl iv (.inr rfl) (.inl ⟨rfl,rfl⟩) (dc _) (Nat.le_of_lt hkp)
 rw [cn] at i3
 have hq3:=FL i3
 obtain ⟨b1,hb1,n1,c1⟩:=Jo h h' hl q tr hg hf (i1.ls Y 51) (by rw [ZW]; omega)
 obtain ⟨b2,hb2,n2,c2⟩:=Jo h h' hl q tr hg hf (i2.ls Y 51) (by rw [dh]; omega)
 obtain rfl:b1 = true:=hb1.2 (hw.take k)
 obtain rfl:b2 = true:=hb2.2 (hw.drop hkp)
 obtain ⟨rs2,e2,a2⟩:=kR i2 Y
 obtain ⟨y1,τ1,ap1,ow1,Pd,hle1,fr1⟩:=gT (w:=.aD) (l:=[]) (ats:=#[23,23]) hl.kI rfl hl.cP rfl (by decide) (oP hl) rfl (.inl ⟨rfl,rfl⟩:bA eU 51 Y .aD []) e2 a2 (dD (b:=1000000) (by decide) (by rw [dh,ZN]; omega))
 rw [af] at ow1
 obtain ⟨rs3,e3,a3⟩:=kR i3 τ1
 obtain ⟨y2,τ2,ap2,ow2,Mn,hle2,fr2⟩:=gT (ats:=#[23,23]) hl.kI rfl hl.cP rfl (by decide) (oP hl) rfl ow1 e3 a3 (dD (b:=1000000) (by decide) (by rw [dh,ZW]; omega))
 obtain ⟨b3,hb3,n3,c3⟩:=Jo h h' hl q tr hg hf ow2.ls (by rw [Z7,dh,ZW]; omega)
 have c1:=c1 (n1 + n2 + n3) (by omega)
 have c2:=c2 (n1 + n2 + n3) (by omega)
 have c3:=c3 (n1 + n2 + n3) (by omega)
 generalize n1 + n2 + n3 = n at c1 c2 c3
 have key:∃ F' τ',cE E (ev E n) (opsOf (cutAt [1,1,1,1,1,1,0,1,0,1,0] (aA Tryz.f10).code)) ⟨113,F⟩ Y = some (⟨113,F'⟩,τ') /\ (∀ k,k ∈ [0,6,7,8,12,13,14] -> F'.get k = F.get k) /\ F'.get 81 = .bool false /\ ∀ (c:Nat) (o:O),Y[c]? = some o -> τ'[c]? = some o:=by
  unfold cE
  rw [tc.UT,tc.Wu]
  by_cases hk0:k = 0
  ·have hgt:decide ((0:Int) < (k:Int)) = false:=AS (by omega)
   simp only [aA,Tryz.f10,KP,↓reduceIte,reduceEqDiff,reduceLT,reduceAdd,opsOf,cutAt,Fz.apps,gL,bF,b_,jW,Ax.comp,Ax.last,gH,Ax.again,g12,g13,g15,hadd,s1,s2,c1,c2,hgt]
   refine ⟨_,_,rfl,?_,(by simp +decide only [GS]),fun c o e=>e⟩
   intro k hk
   simp only [By,ZY,bt] at hk
   rcases hk with rfl | rfl | rfl | rfl | rfl | rfl | rfl <;> simp +decide only [GS]
  ·have hgt:decide ((0:Int) < (k:Int)) = true:=BY (by omega)
   have hgt2:decide ((1:Int) < (p.length:Int)) = true:=BY (by omega)
   obtain rfl:b3 = false:=by
    cases b3 with
    | false=>rfl
    | true=>exact absurd (hb3.1 rfl) (hw.Sv hf hkp (by omega))
   simp only [aA,Tryz.f10,KP,↓reduceIte,reduceEqDiff,reduceLT,reduceAdd,opsOf,cutAt,Fz.apps,gL,bF,b_,jW,Ax.comp,Ax.last,gH,Ax.again,aR,g12,g13,g15,hadd,s1,s2,s3,c1,c2,c3,ap1,ap2,hq3,hgt,hgt2,lv]
   refine ⟨_,_,rfl,?_,(by simp +decide only [GS]),fun c o e=>Mn c o (Pd c o e (by intro e2; cases e2)) fun e2=>?_⟩
   ·intro k hk
    simp only [By,ZY,bt] at hk
    rcases hk with rfl | rfl | rfl | rfl | rfl | rfl | rfl <;> simp +decide only [GS]
   ·rcases fr1 c e2 with e3 | e3
    ·cases e3
    ·have:=(AI.1 e).1
     omega
 obtain ⟨F',τ',hD,hF,h81,hkp⟩:=key
 exact Eq.mpr (gP hD) (hk F' τ' hF h81 hkp)
theorem Sz (h:bH E) (h':pV E) (hl:Lb.cQ E) (q:Dn E) (tr:CW E) (tc:UI E) {g:V} {rs:List aC} (hg:Ex E rs g) (hf:Fits rs) {Y:Sg} {a b c:aI} {na nc:Nat} (ha:Y[na]? = some (O.cells 51 [.bool a.1,.str a.2] true)) (hc:Y[nc]? = some (O.cells 51 [.bool c.1,.str c.2] true)) (la:a.2.length <= 9223372036854775806) {v1 v2:V} {p1 p2:List aI} (hv1:C0 v1 p1) (hv2:C0 v2 p2) (t1:Told rs a b p1) (t2:Told rs b c p2) (h1:p1 ≠ []) (h2:p2 ≠ []) (l1:p1.length <= 2002) (l2:p2.length <= 2002)
  (F:FT) (g6:F.get 6 = .ref na 0) (g8:F.get 8 = .ref nc 0) (g12:F.get 12 = g) (g13:F.get 13 = v1) (g14:F.get 14 = v2) {st:List jG} {Q:Ax.X -> Fr -> Sg -> Prop}
  (hk:∀ F' τ',F'.get 10 = .bool true -> M E st .normal ⟨113,F'⟩ τ' Q):Ax.R E (.region 13 (opsOf (cutAt [1,1,1,1,1,1,1,1,0] (aA Tryz.f10).code)) true) st ⟨113,F⟩ Y Q:=by
 have iv1:=hv1.Pe.is
 have iv2:=hv2.Pe.is
 have lv1:=iT h iv1
 have lv2:=iT h iv2
 have q1:=ff.2 h1
 have q2:=ff.2 h2
 obtain ⟨w2,s2,i2,-⟩:=oK (lo:=some (.int .i64 ((1:Nat):Int))) (hi:=none) (a:=1) (b:=p2.length) hl.kI rfl hl.cP rfl iv2 (.inl ⟨rfl,rfl⟩) (.inr rfl) q2 (Z1 _)
 rw [Z6 (Z1 _)] at i2
 have s2:∀ Z,Ax.slice E Z 23 v2 (some (.int .i64 1)) none none = some w2:=s2
 have hq2:=FL i2
 obtain ⟨rs1,e1,a1⟩:=kR iv1 Y
 obtain ⟨y1,τ1,ap1,ow1,Pd,hle1,fr1⟩:=gT (w:=.aD) (l:=[]) (ats:=#[23,23]) hl.kI rfl hl.cP rfl (by decide) (oP hl) rfl (.inl ⟨rfl,rfl⟩:bA eU 51 Y .aD []) e1 a1 (dD (b:=1000000) (by decide) (by rw [ZN]; omega))
 rw [af] at ow1
 obtain ⟨rs2,e2,a2⟩:=kR i2 τ1
 obtain ⟨y2,τ2,ap2,ow2,Mn,hle2,fr2⟩:=gT (ats:=#[23,23]) hl.kI rfl hl.cP rfl (by decide) (oP hl) rfl ow1 e2 a2 (dD (b:=1000000) (by decide) (by rw [dh]; omega))
 obtain ⟨b3,hb3,n3,c3⟩:=Jo h h' hl q tr hg hf ow2.ls (by rw [Z7,dh]; omega)
 obtain ⟨hw1,hp0,hpl⟩:=t1.way h1
 obtain ⟨hw2,hq0,hql⟩:=t2.way h2
 have hj:=hw1.join hw2 hpl hq0
 obtain rfl:b3 = true:=hb3.2 hj
 have ka:∀ (c:Nat) (o:O),Y[c]? = some o -> τ2[c]? = some o:=fun c o e=>Mn c o (Pd c o e (by intro e2; cases e2)) fun e2=>by
  rcases fr1 c e2 with e3 | e3
  ·cases e3
  ·have:=(AI.1 e).1
   omega
 have ha2:=ka _ _ ha
 have hc2:=ka _ _ hc
 obtain ⟨v3,p3,hv3,t3,l3,n4,c4⟩:=EH h h' hl q tr hg hf (a:=a) (b:=c) la τ2
 have lv3:=iT h hv3.Pe.is
 have hjl:(p1 ++ p2.drop 1).length = p1.length + p2.length - 1:=by rw [Z7,dh]; omega
 have hshort:p3.length <= p1.length + p2.length - 1:=by
  rw [<- hjl]
  refine t3.short _ hj ?_ ?_
  ·rw [Z8 q1]; exact hp0
  ·rw [hjl]
   by_cases h21:p2.length = 1
   ·rw [Z8 (by omega),show p1.length + p2.length - 1 - 1 = p1.length - 1 by omega,hpl]
    rw [h21] at hql
    rw [<- hq0,<- hql]
   ·rw [ZR (by omega),ec,show 1 + (p1.length + p2.length - 1 - 1 - p1.length) = p2.length - 1 by omega]
    exact hql
 have hw1':wr .i64 ((p1.length:Int) + (p2.length:Int)) = (p1.length:Int) + (p2.length:Int):=FG _ (by omega) (by omega)
 have hw2':wr .i64 ((p1.length:Int) + (p2.length:Int) - 1) = (p1.length:Int) + (p2.length:Int) - 1:=FG _ (by omega) (by omega)
 have hle:decide ((p3.length:Int) <= (p1.length:Int) + (p2.length:Int) - 1) = true:=BY (by omega)
 have c3:=c3 (n3 + n4) (by omega)
 have c4:=c4 (n3 + n4) (by omega)
 generalize n3 + n4 = n at c3 c4
 have tb:∀ x:Bool,cH false (V.bool x) = true:=fun _=>rfl
 have ts:∀ x:bC,cH false (V.str x) = true:=fun _=>rfl
 have key:∃ F' τ',cE E (ev E n) (opsOf (cutAt [1,1,1,1,1,1,1,1,0] (aA Tryz.f10).code)) ⟨113,F⟩ Y = some (⟨113,F'⟩,τ') /\ F'.get 10 = .bool true:=by
  unfold cE
  rw [tc.Sk,tc.Tp]
  simp only [aA,Tryz.f10,KP,Ax.loadAt,↓reduceIte,reduceEqDiff,reduceLT,reduceLeDiff,reduceAdd,reduceMul,h.kI,h.cP,opsOf,cutAt,Fz.lits,Fz.apps,gL,bF,b_,jW,Ax.comp,Ax.last,gH,Ax.again,aR,xX,Ax.rows,g6,g8,g12,g13,g14,ha2,hc2,s2,c3,c4,ap1,ap2,hq2,lv1,lv2,lv3,hw1',hw2',hle,tb,ts,pE]
  exact ⟨_,_,rfl,(by simp +decide only [GS])⟩
 obtain ⟨F',τ',hD,h10⟩:=key
 exact Eq.mpr (gP hD) (hk F' τ' h10)
end
end
structure RgE (E:Env):Prop where
 ty63:E.ty 63 = some { kd:=.jC [(0,22),(1,23),(2,61)],size:=3,bytes:=72,zero:=.agg [.aD,.aD,.aD] }
 ty29:E.ty 29 = some { kd:=.ptr 63,size:=1,bytes:=8,zero:=.fP }
 hs69:E.hspec 69 = none
 sp69:E.spec 69 = none
 fn69:E.fn 69 = some (aA Tryz.f69)
 md69:E.mode 69 = .eW
 d69_4:aL E (cutAt [1,1,0,1,0,0] (aA Tryz.f69).code) = true
 d69_6:aL E (cutAt [1,1,1,1,0] (aA Tryz.f69).code) = true
 hs14:E.hspec 14 = none
 PE:E.spec 14 = none
 fn14:E.fn 14 = some (aA Tryz.f14)
 md14:E.mode 14 = .eW
 z14_5:fA E (opsOf (cutAt [1,1,0,1,2,2,1,0,2,0] (aA Tryz.f14).code)) = .no
 p14_5:cC E .no (opsOf (cutAt [1,1,0,1,2,2,1,0,2,0] (aA Tryz.f14).code)) = some [⟨4,9,false,true⟩,  ⟨4,10,false,true⟩]
 d14_6:aL E (cutAt [1,1,0,1,2,2,1,0,2,1,0] (aA Tryz.f14).code) = true
 z14_7:fA E (opsOf (cutAt [1,1,0,1,2,2,1,0,2,1,1,0] (aA Tryz.f14).code)) = .no
 p14_7:cC E .no (opsOf (cutAt [1,1,0,1,2,2,1,0,2,1,1,0] (aA Tryz.f14).code)) = some [⟨5,10,true,false⟩]
 z14_15:fA E (opsOf (cutAt [1,1,1,0,1,2,2,1,0,2,0] (aA Tryz.f14).code)) = .no
 p14_15:cC E .no (opsOf (cutAt [1,1,1,0,1,2,2,1,0,2,0] (aA Tryz.f14).code)) = some [⟨4,10,false,true⟩,  ⟨4,11,false,true⟩]
 d14_19:aL E (cutAt [1,1,1,0,1,2,2,1,0,2,1,1,2,2,1,0,2] (aA Tryz.f14).code) = true
 hs18:E.hspec 18 = none
 PA:E.spec 18 = none
 fn18:E.fn 18 = some (aA Tryz.f18)
 md18:E.mode 18 = .eW
 d18_5:aL E (cutAt [1,1,0,1,2,2,1,0,2,0] (aA Tryz.f18).code) = true
 hs41:E.hspec 41 = none
 sp41:E.spec 41 = none
 fn41:E.fn 41 = some (aA Tryz.f41)
 md41:E.mode 41 = .eW
 d41_4:aL E (cutAt [1,0,1,2,2,1,0,2,0] (aA Tryz.f41).code) = true
 d41_5:aL E (cutAt [1,0,1,2,2,1,0,2,1,0] (aA Tryz.f41).code) = true
end Go.Proofs.YtmhchflckonklaaGreatDoor
end
section
namespace Go.Proofs.YtmhchflckonklaaGreatDoor.Lb
open Go Go.Ax Go.AxS
def pos:List aI -> aI -> Nat
 | [],_=>0
 | y :: r,x=>if lt y x = true then pos r x + 1 else 0
end Go.Proofs.YtmhchflckonklaaGreatDoor.Lb
end
section
namespace Go.Proofs.YtmhchflckonklaaGreatDoor
open Go Go.Ax Go.AxS
section
section
variable {E:Env} {Z:Sg} {K:V -> Sg -> Prop}
def RP (t:Nat) (Z:Sg) (w:V) (R:List (List V)):Prop:=(w = .aD /\ R = []) \/ ∃ b ex,w = .sl b 0 R.length none /\ Z[b]? = some (.cells t R.flatten ex)
theorem RP.keep {t:Nat} {Z σ':Sg} {w:V} {R:List (List V)} (h:RP t Z w R) (k:∀ c o,aQ w = some c -> Z[c]? = some o -> σ'[c]? = some o):RP t σ' w R:=by
 rcases h with h | ⟨b,ex,rfl,hb⟩
 ·exact .inl h
 ·exact .inr ⟨b,ex,rfl,k b _ rfl hb⟩
def UE (Y:Sg) (r:List V) (x:aC):Prop:=∃ a b c w,r = [.str x.name,a,b,c,w] /\ jT aO a x.ins /\ jT aO b x.outs /\ jT aO c x.after /\ bA fS 113 Y w x.steps
def RlO (Y:Sg) (w:V) (rs:List aC):Prop:=∃ R,RP 46 Y w R /\ eP (UE Y) R rs
theorem It {Y τ':Sg} {R:List (List V)} {rs:List aC} (h2:eP (UE Y) R rs) (k:∀ (c:Nat) (cs:List V) (ex:Bool),Y[c]? = some (.cells 113 cs ex) -> τ'[c]? = some (.cells 113 cs ex)):eP (UE τ') R rs:=by
 induction h2 with
 | nil=>exact .nil
 | cons p _ ih=>
  obtain ⟨a,b,c,u,e,i1,i2,i3,ow⟩:=p
  refine .cons ⟨a,b,c,u,e,i1,i2,i3,?_⟩ ih
  rcases ow with h0 | ⟨d,q,ex,rfl,hb,ha⟩
  ·exact .inl h0
  ·exact .inr ⟨d,q,ex,rfl,k _ _ _ hb,ha⟩
theorem RlO.keep {Y τ':Sg} {w:V} {rs:List aC} (h:RlO Y w rs) (k:∀ (c:Nat) (cs:List V) (ex:Bool) (t:Nat),t = 46 \/ t = 113 -> Y[c]? = some (.cells t cs ex) -> τ'[c]? = some (.cells t cs ex)):RlO τ' w rs:=by
 obtain ⟨R,h1,h2⟩:=h
 refine ⟨R,?_,?_⟩
 ·rcases h1 with h1 | ⟨b,ex,rfl,hb⟩
  ·exact .inl h1
  ·exact .inr ⟨b,ex,rfl,k _ _ _ _ (.inl rfl) hb⟩
 ·exact It h2 fun c cs ex e=>k c cs ex _ (.inr rfl) e
end
end
section
section
variable {E:Env} {Z:Sg} {K:V -> Sg -> Prop}
def nd (rs:List aC) (i k:Nat):Bool:=match (gC rs)[i]?,(gC rs)[k]? with
 | some x,some y=>decide (y ∈ iS rs x)
 | _,_=>false
end
end
section
section
variable {E:Env} {Z:Sg} {K:V -> Sg -> Prop}
def RgV (rs:List aC) (v:V):Prop:=∃ rv lv nv,v = .cW false [rv,lv,nv] /\ jT mK rv rs /\ C0 lv (gC rs) /\ jT tI nv (HV (gC rs).length (nd rs))
end
end
section
section
variable {E:Env} {Z:Sg} {K:V -> Sg -> Prop}
def Sb (rs:List aC) (v:List Bool) (P:aI -> Prop):Prop:=v.length = (gC rs).length /\ ∀ (k:Nat) (x:aI) (b:Bool),(gC rs)[k]? = some x -> v[k]? = some b -> (b = true ↔ P x)
theorem Sb.congr {rs:List aC} {v:List Bool} {P Q:aI -> Prop} (h:Sb rs v P) (e:∀ x,x ∈ gC rs -> (P x ↔ Q x)):Sb rs v Q:=⟨h.1,fun k x b hx hb=>(h.2 k x b hx hb).trans (e x (Z2 hx))⟩
theorem Sb.at {rs:List aC} {v:List Bool} {P:aI -> Prop} (h:Sb rs v P) {k:Nat} {x:aI} (hx:(gC rs)[k]? = some x):∃ b,v[k]? = some b /\ (b = true ↔ P x):=by
 have hk:=(AI.1 hx).1
 have hv:v[k]? = some (v[k]'(by rw [h.1]; exact hk)):=AT _
 exact ⟨_,hv,h.2 k x _ hx hv⟩
theorem Sb.set {rs:List aC} {v:List Bool} {P Q:aI -> Prop} (h:Sb rs v P) {k:Nat} {x:aI} {c:Bool} (hx:(gC rs)[k]? = some x) (hc:c = true ↔ Q x) (e:∀ y,y ∈ gC rs -> y ≠ x -> (P y ↔ Q y)):Sb rs (v.set k c) Q:=by
 refine ⟨by rw [bq]; exact h.1,fun j y b hy hb=>?_⟩
 have hk:=(AI.1 hx).1
 by_cases hjk:k = j
 ·subst hjk
  rw [ZV (by rw [h.1]; exact hk)] at hb
  cases hb
  rw [hx] at hy
  cases hy
  exact hc
 ·rw [No hjk] at hb
  refine (h.2 j y b hy hb).trans (e y (Z2 hy) fun e2=>hjk ?_)
  subst e2
  have hnd:=(KG rs).nodup
  obtain ⟨h1,e1⟩:=AI.1 hx
  obtain ⟨h2,e2⟩:=AI.1 hy
  exact (List.getElem_inj hnd).1 (e1.trans e2.symm)
end
end
section
section
variable {E:Env} {Z:Sg} {K:V -> Sg -> Prop}
theorem RgV.bD {rs:List aC} {v:V} (hg:RgV rs v):Ax.bD v = true:=by
 obtain ⟨rv,lv,nv,rfl,-⟩:=hg
 rfl
end
end
structure TtE (E:Env):Prop where
 hs7:E.hspec 7 = none
 sp7:E.spec 7 = none
 fn7:E.fn 7 = some (aA Tryz.f7)
 md7:E.mode 7 = .eW
 z7_7:fA E (opsOf (cutAt [1,1,1,1,1,1,0] (aA Tryz.f7).code)) = .no
 p7_7:cC E .no (opsOf (cutAt [1,1,1,1,1,1,0] (aA Tryz.f7).code)) = some [⟨2,4,true,false⟩]
 d7_10:aL E (cutAt [1,1,1,1,1,1,1,1,0,0] (aA Tryz.f7).code) = true
 z7_12:fA E (opsOf (cutAt [1,1,1,1,1,1,1,1,1,0] (aA Tryz.f7).code)) = .no
 p7_12:cC E .no (opsOf (cutAt [1,1,1,1,1,1,1,1,1,0] (aA Tryz.f7).code)) = some [⟨11,13,true,false⟩,  ⟨11,16,true,false⟩]
 beg:∀ {Z:Sg} {K:V -> Sg -> Prop},aB E 11 [] Z K = K (.bool true) Z
end Go.Proofs.YtmhchflckonklaaGreatDoor
end
section
namespace Go.Proofs.YtmhchflckonklaaGreatDoor
open Go Go.Ax
theorem begL {Z:Sg} {K:V -> Sg -> Prop}:aB LE 11 [] Z K = K (.bool true) Z:=sZ (s:=bI t11) (args':=[]) (v:=.bool true) (by kernel_rfl) (by kernel_rfl) rfl (by kernel_rfl) rfl
theorem TA:bH LE:=by constructor <;> kernel_rfl
theorem TB:pV LE:=by constructor <;> kernel_rfl
theorem Qe:Lb.cQ LE:=by constructor <;> kernel_rfl
theorem TC:Dn LE:=by constructor <;> kernel_rfl
theorem Tx:CW LE:=by constructor <;> kernel_rfl
theorem Tz:UI LE:=by constructor <;> first | kernel_rfl | exact begL
end Go.Proofs.YtmhchflckonklaaGreatDoor
end
section
namespace Go.Proofs.YtmhchflckonklaaGreatDoor
open Go Go.Ax Go.AxS
section
section
variable {E:Env} {Z:Sg} {K:V -> Sg -> Prop}
theorem Pt (h:bH E) (h':pV E) (hl:Lb.cQ E) (q:Dn E) (tr:CW E) (tc:UI E) {g:V} {rs:List aC} (hg:Ex E rs g) (hf:Fits rs) {Y:Sg} {x1 x3:Bool} {s1 s3:bC} {b:aI} {na nc:Nat} (ha:Y[na]? = some (O.cells 51 [.bool x1,.str s1] true)) (hc:Y[nc]? = some (O.cells 51 [.bool x3,.str s3] true)) (la:s1.length <= 9223372036854775806) {v1 v2:V} {p1 p2:List aI} (hv1:C0 v1 p1) (hv2:C0 v2 p2) (t1:Told rs (x1,s1) b p1) (t2:Told rs b (x3,s3) p2) (l1:p1.length <= 2002) (l2:p2.length <= 2002)
  (F:FT) (g6:F.get 6 = .ref na 0) (g8:F.get 8 = .ref nc 0) (g12:F.get 12 = g) (g13:F.get 13 = v1) (g14:F.get 14 = v2):Ax.R E (cutAt [1,1,1,1,1,1,1] (aA Tryz.f10).code) [] ⟨113,F⟩ Y (mE E (aA Tryz.f10).results (fun v σ1=>match cK σ1 E.ty false v with
   | some v=>v = .bool true
   | none=>False)):=by
 have r13:=fun h1 h2 F g6 g8 g12 g13 g14 st Q hk=>Sz (b:=b) (a:=(x1,s1)) (c:=(x3,s3)) (na:=na) (nc:=nc) (Y:=Y) (v1:=v1) (v2:=v2) (p1:=p1) (p2:=p2) h h' hl q tr tc hg hf ha hc la hv1 hv2 t1 t2 h1 h2 l1 l2 F g6 g8 g12 g13 g14 (st:=st) (Q:=Q) hk
 have lv1:=iT h hv1.Pe.is
 have lv2:=iT h hv2.Pe.is
 rw [show (cutAt [1,1,1,1,1,1,1] (aA Tryz.f10).code) = .seq (cutAt [1,1,1,1,1,1,1,0] (aA Tryz.f10).code) (.seq (cutAt [1,1,1,1,1,1,1,1,0] (aA Tryz.f10).code) (cutAt [1,1,1,1,1,1,1,1,1] (aA Tryz.f10).code)) from rfl]
 rw [show cutAt [1,1,1,1,1,1,1,1,0] (aA Tryz.f10).code = .region 13 (opsOf (cutAt [1,1,1,1,1,1,1,1,0] (aA Tryz.f10).code)) true from rfl]
 generalize opsOf (cutAt [1,1,1,1,1,1,1,1,0] (aA Tryz.f10).code) = O13 at r13 ⊢
 by_cases h1:p1.length = 0
 ·have z1:decide ((p1.length:Int) = 0) = true:=BY (by omega)
  simp only [aA,Tryz.f10,KP,↓reduceIte,reduceEqDiff,reduceLT,cutAt,g13,lv1,z1,cK,aS]
  exact rfl
 ·have z1:decide ((p1.length:Int) = 0) = false:=AS (by omega)
  by_cases h2:p2.length = 0
  ·have z2:decide ((p2.length:Int) = 0) = true:=BY (by omega)
   simp only [aA,Tryz.f10,KP,↓reduceIte,reduceEqDiff,reduceLT,cutAt,g13,g14,lv1,lv2,z1,z2,cK,aS]
   exact rfl
  ·have z2:decide ((p2.length:Int) = 0) = false:=AS (by omega)
   simp only [aA,Tryz.f10,KP,↓reduceIte,reduceEqDiff,reduceLT,cutAt,g13,g14,lv1,lv2,z1,z2]
   refine r13 (fun e=>h1 (by rw [e]; rfl)) (fun e=>h2 (by rw [e]; rfl)) _ ?_ ?_ ?_ ?_ ?_ _ _ (fun F' τ' h10=>?_)
   ·simp +decide only [GS,g6]
   ·simp +decide only [GS,g8]
   ·simp +decide only [GS,g12]
   ·simp +decide only [GS,g13]
   ·simp +decide only [GS,g14]
   rw [Ln]
   simp only [KP,↓reduceIte,reduceLT,h10,cK,aS]
   exact rfl
theorem Jc (h:bH E) (h':pV E) (hl:Lb.cQ E) (q:Dn E) (tr:CW E) (tc:UI E) {a:V} {rs:List aC} (ha:LS eC 46 Z a rs) (hraw:∀ x ∈ rs,Raw x) {x1:Bool} {s1:bC} (h1:s1.length <= 9223372036854775806) {x2:Bool} {s2:bC} (h2:s2.length <= 9223372036854775806) {x3:Bool} {s3:bC} (h3:s3.length <= 9223372036854775806) {x4:Int} (y4:IntKind.has .i64 x4):aB E 10 [a,.agg [.bool x1,.str s1],.agg [.bool x2,.str s2],.agg [.bool x3,.str s3],.int .i64 x4] Z K = K (.bool true) Z:=by
 refine aB.of ?_
 obtain ⟨a',ea,ia⟩:=eX h ha
 have e1:aS Z E.ty true (.agg [.bool x1,.str s1]) = some (.agg [.bool x1,.str s1]):=rfl
 have e2:aS Z E.ty true (.agg [.bool x2,.str s2]) = some (.agg [.bool x2,.str s2]):=rfl
 have e3:aS Z E.ty true (.agg [.bool x3,.str s3]) = some (.agg [.bool x3,.str s3]):=rfl
 have e4:aS Z E.ty true (.int .i64 x4) = some (.int .i64 x4):=rfl
 rw [aH tc.hs10 tc.MT tc.fn10 tc.md10 (args':=[a',.agg [.bool x1,.str s1],.agg [.bool x2,.str s2],.agg [.bool x3,.str s3],.int .i64 x4]) (by simp only [aW,ea,e1,e2,e3,e4]),aX (by kernel_rfl)]
 have kb:=fun (Y:Sg)=>dK fun K=>tc.beg (Z:=Y) (K:=K)
 have r6:=fun {g} {l} hg hf {Y} ha hb hc F g6 g7 g8 g12 st Q hk=>UY (g:=g) (rs:=l) (Y:=Y) (a:=(x1,s1)) (b:=(x2,s2)) (c:=(x3,s3)) (na:=0) (nb:=1) (nc:=2) h h' hl q tr tc hg hf ha hb hc h1 h2 F g6 g7 g8 g12 (st:=st) (Q:=Q) hk
 have r9:=fun {g} {l} hg hf {Y} {v p} hv hw hp {k} hkp F g12 g13 g15 st Q hk=>UX (g:=g) (rs:=l) (Y:=Y) (v:=v) (p:=p) (k:=k) h h' hl q tr tc hg hf hv hw hp hkp F g12 g13 g15 (st:=st) (Q:=Q) hk
 have tail:=fun {g} {l} hg hf {Y v1 v2 p1 p2} ha hc hv1 hv2 t1 t2 l1 l2 F g6 g8 g12 g13 g14=>Pt (g:=g) (rs:=l) (Y:=Y) (b:=(x2,s2)) (x1:=x1) (s1:=s1) (x3:=x3) (s3:=s3) (na:=0) (nc:=2) (v1:=v1) (v2:=v2) (p1:=p1) (p2:=p2) h h' hl q tr tc hg hf ha hc h1 hv1 hv2 t1 t2 l1 l2 F g6 g8 g12 g13 g14
 rw [show (aA Tryz.f10).code = .seq (cutAt [0] (aA Tryz.f10).code) (.seq (cutAt [1,0] (aA Tryz.f10).code) (.seq (cutAt [1,1,0] (aA Tryz.f10).code) (.seq (cutAt [1,1,1,0] (aA Tryz.f10).code) (.seq (cutAt [1,1,1,1,0] (aA Tryz.f10).code) (.seq (cutAt [1,1,1,1,1,0] (aA Tryz.f10).code) (.seq (.seq (cutAt [1,1,1,1,1,1,0,0] (aA Tryz.f10).code) (.cond (.tmp 41) (.seq (cutAt [1,1,1,1,1,1,0,1,0,0] (aA Tryz.f10).code) (.seq (cutAt [1,1,1,1,1,1,0,1,0,1,0] (aA Tryz.f10).code) (cutAt [1,1,1,1,1,1,0,1,0,1,1] (aA Tryz.f10).code))) .skip)) (cutAt [1,1,1,1,1,1,1] (aA Tryz.f10).code))))))) from rfl]
 rw [show cutAt [1,1,1,1,1,0] (aA Tryz.f10).code = .region 6 (opsOf (cutAt [1,1,1,1,1,0] (aA Tryz.f10).code)) true from rfl,show cutAt [1,1,1,1,1,1,0,1,0,1,0] (aA Tryz.f10).code = .region 9 (opsOf (cutAt [1,1,1,1,1,1,0,1,0,1,0] (aA Tryz.f10).code)) true from rfl]
 generalize opsOf (cutAt [1,1,1,1,1,0] (aA Tryz.f10).code) = O6 at r6 ⊢
 generalize opsOf (cutAt [1,1,1,1,1,1,0,1,0,1,0] (aA Tryz.f10).code) = O9 at r9 ⊢
 generalize cutAt [1,1,1,1,1,1,1] (aA Tryz.f10).code = TT at tail ⊢
 simp only [aA,Tryz.f10,KP,↓reduceIte,reduceEqDiff,reduceLT,reduceAdd,reduceCtorEq,h.cP,cutAt,kb]
 refine aP (Uv h (ia.ls _ 46) hraw) ?_
 rintro v σ' ⟨rfl,l,iv,hok,hl14,hsm⟩
 have iv':IS eC v l:=rT iv.is vU
 have hf:Fits l:=⟨hok,hsm⟩
 simp only [KP,↓reduceIte,reduceLT]
 refine aP (Jb h h' hl (iv'.ls _ 46) hsm (by omega)) ?_
 rintro g σ' ⟨rfl,⟨hno,-⟩ | ⟨-,hg⟩⟩
 ·exact absurd hok hno
 simp only [KP,↓reduceIte,reduceLT]
 refine r6 hg hf rfl rfl rfl _ ?_ ?_ ?_ ?_ _ _ (fun F1 v1 p1 v2 p2 hF k13 k14 hv1 hv2 t1 t2 l1 l2=>?_)
 ·simp +decide only [GS]
 ·simp +decide only [GS]
 ·simp +decide only [GS]
 ·simp +decide only [GS]
 have q4:F1.get 4 = .int .i64 x4:=(hF 4 (by simp)).trans (by simp +decide only [GS])
 have q6:F1.get 6 = .ref 0 0:=(hF 6 (by simp)).trans (by simp +decide only [GS])
 have q8:F1.get 8 = .ref 2 0:=(hF 8 (by simp)).trans (by simp +decide only [GS])
 have Gn:F1.get 12 = g:=(hF 12 (by simp)).trans (by simp +decide only [GS])
 have lv1:=iT h hv1.Pe.is
 rw [Ln]
 by_cases hl0:p1.length = 0
 ·have z1:decide ((0:Int) < (p1.length:Int)) = false:=AS (by omega)
  simp only [KP,↓reduceIte,reduceEqDiff,reduceLT,k13,lv1,z1]
  exact tail hg hf rfl rfl hv1 hv2 t1 t2 l1 l2 _ (by simp +decide only [GS,q6]) (by simp +decide only [GS,q8]) (by simp +decide only [GS,Gn]) (by simp +decide only [GS,k13]) (by simp +decide only [GS,k14])
 ·have z1:decide ((0:Int) < (p1.length:Int)) = true:=BY (by omega)
  by_cases hx:0 <= x4
  ·have z2:decide (0 <= x4) = true:=BY hx
   have z3:decide ((p1.length:Int) = 0) = false:=AS (by omega)
   obtain ⟨k,hk,hkp⟩:∃ k:Nat,x4.tmod (p1.length:Int) = (k:Int) /\ k < p1.length:=by
    have m1:=Int.tmod_lt_of_pos x4 (b:=(p1.length:Int)) (by omega)
    have m2:=Int.tmod_nonneg (p1.length:Int) hx
    exact ⟨(x4.tmod (p1.length:Int)).toNat,by omega,by omega⟩
   simp only [KP,↓reduceIte,reduceEqDiff,reduceLT,q4,k13,lv1,z1,z2,z3,hk]
   refine r9 hg hf hv1 (t1.way (fun e=>hl0 (by rw [e]; rfl))).1 l1 hkp _ ?_ ?_ ?_ _ _ (fun F2 τ2 hF2 h81 hka=>?_)
   ·simp +decide only [GS,Gn]
   ·simp +decide only [GS,k13]
   ·simp +decide only [GS]
   have p6:F2.get 6 = .ref 0 0:=(hF2 6 (by simp)).trans (by simp +decide only [GS,q6])
   have p8:F2.get 8 = .ref 2 0:=(hF2 8 (by simp)).trans (by simp +decide only [GS,q8])
   have p12:F2.get 12 = g:=(hF2 12 (by simp)).trans (by simp +decide only [GS,Gn])
   have p13:F2.get 13 = v1:=(hF2 13 (by simp)).trans (by simp +decide only [GS,k13])
   have p14:F2.get 14 = v2:=(hF2 14 (by simp)).trans (by simp +decide only [GS,k14])
   rw [Ln]
   simp only [KP,↓reduceIte,reduceLT,h81]
   exact tail hg hf (hka _ _ rfl) (hka _ _ rfl) hv1 hv2 t1 t2 l1 l2 _ (by simp +decide only [p6]) (by simp +decide only [p8]) (by simp +decide only [p12]) (by simp +decide only [p13]) (by simp +decide only [p14])
  ·have z2:decide (0 <= x4) = false:=AS hx
   simp only [KP,↓reduceIte,reduceEqDiff,reduceLT,q4,k13,lv1,z1,z2]
   exact tail hg hf rfl rfl hv1 hv2 t1 t2 l1 l2 _ (by simp +decide only [GS,q6]) (by simp +decide only [GS,q8]) (by simp +decide only [GS,Gn]) (by simp +decide only [GS,k13]) (by simp +decide only [GS,k14])
end
end
theorem EU (a0:V) (l0:List aC) (i0:IS eC a0 l0) (r0:∀ x ∈ l0,Raw x) (x1:Bool) (s1:bC) (h1:s1.length <= 9223372036854775806) (x2:Bool) (s2:bC) (h2:s2.length <= 9223372036854775806) (x3:Bool) (s3:bC) (h3:s3.length <= 9223372036854775806) (x4:Int) (y4:IntKind.has .i64 x4):∃ k,Ax.call LE k 10 [a0,.agg [.bool x1,.str s1],.agg [.bool x2,.str s2],.agg [.bool x3,.str s3],.int .i64 x4] = some (.bool true):=by
 have h:aB LE 10 [a0,.agg [.bool x1,.str s1],.agg [.bool x2,.str s2],.agg [.bool x3,.str s3],.int .i64 x4] [] (fun v _=>v = .bool true):=by
  rw [Jc TA TB Qe TC Tx Tz (i0.ls [] 46) r0 (x1:=x1) (s1:=s1) h1 (x2:=x2) (s2:=s2) h2 (x3:=x3) (s3:=s3) h3 (x4:=x4) y4]
 obtain ⟨n,v,σ',hc,rfl⟩:=h
 refine ⟨n,?_⟩
 have hm:aW (aS [] LE.ty true) [a0,.agg [.bool x1,.str s1],.agg [.bool x2,.str s2],.agg [.bool x3,.str s3],.int .i64 x4] = some [a0,.agg [.bool x1,.str s1],.agg [.bool x2,.str s2],.agg [.bool x3,.str s3],.int .i64 x4]:=by
  simp only [aW,oJ i0 [],(show aS [] LE.ty true (.agg [.bool x1,.str s1]) = some (.agg [.bool x1,.str s1]) from rfl),(show aS [] LE.ty true (.agg [.bool x2,.str s2]) = some (.agg [.bool x2,.str s2]) from rfl),(show aS [] LE.ty true (.agg [.bool x3,.str s3]) = some (.agg [.bool x3,.str s3]) from rfl),(show aS [] LE.ty true (.int .i64 x4) = some (.int .i64 x4) from rfl)]
 unfold fW at hc
 rw [show LE.hspec 10 = none by kernel_rfl,show LE.spec 10 = none by kernel_rfl,show LE.fn 10 = some (aA Tryz.f10) by kernel_rfl,show LE.mode 10 = .eW by kernel_rfl] at hc
 simp only [hm] at hc
 unfold Ax.call
 rw [show LE.fn 10 = some (aA Tryz.f10) by kernel_rfl]
 dsimp only
 cases he:enter LE (ev LE n) (aA Tryz.f10) [a0,.agg [.bool x1,.str s1],.agg [.bool x2,.str s2],.agg [.bool x3,.str s3],.int .i64 x4] [] with
 | none=>rw [he] at hc; cases hc
 | some y=>
  rw [he] at hc
  dsimp only at hc ⊢
  cases hs:cK y.2 LE.ty false y.1 with
  | none=>rw [hs] at hc; cases hc
  | some z=>rw [hs] at hc; cases hc; rfl
end Go.Proofs.YtmhchflckonklaaGreatDoor
end
