/- Part 19 of the proof. -/
import Derived.Test.YtlbbdpkjeeiahaaGreatDoorZ18
import Derived.Test.YtlbbdpkjeeiahaaGreatDoorZ16
import Derived.Test.YtlbbdpkjeeiahaaGreatDoorZ15
import Derived.Test.YtlbbdpkjeeiahaaGreatDoorZ17
set_option maxHeartbeats 8000000
set_option linter.unusedVariables false
set_option maxRecDepth 100000
open Nat (reduceEqDiff reduceLT reduceAdd reduceLeDiff reduceMul)
open List (length_cons length_nil length_append mem_singleton mem_append mem_cons take_of_length_le)
open Int (reduceNeg)
section
namespace Go.Proofs.YtlbbdpkjeeiahaaGreatDoor
open Go Go.Ax Go.AxS
section
structure O_ (E:Env):Prop where
 hs75:E.hspec 75 = none
 sp75:E.spec 75 = none
 fn75:E.fn 75 = some (aA Tryz.f75)
 md75:E.mode 75 = .eU
 hs21:E.hspec 21 = none
 MD:E.spec 21 = none
 fn21:E.fn 21 = some (aA Tryz.f21)
 md21:E.mode 21 = .eU
 hs29:E.hspec 29 = none
 My:E.spec 29 = none
 fn29:E.fn 29 = some (aA Tryz.f29)
 md29:E.mode 29 = .eU
section
variable {E:Env} {Z:Sg} {K:V -> Sg -> Prop}
theorem PX {c:Code} {s:List kA} {w:Nat} {Q:Ax.X -> Fr -> Sg -> Prop} (I:Nat -> FT -> Sg -> Prop)
  (step:∀ n F Y,I n F Y -> (∀ n' F' τ',n' < n -> I n' F' τ' -> Ax.R E (.loop c) s ⟨w,F'⟩ τ' Q) -> Ax.R E (.loop c) s ⟨w,F⟩ Y Q):∀ (n:Nat) (F:FT) (Y:Sg),I n F Y -> Ax.R E (.loop c) s ⟨w,F⟩ Y Q:=by
 intro n
 induction n using Nat.strongRecOn with
 | _ n ih=>exact fun F Y h=>step n F Y h fun n' F' τ' hn h'=>ih n' hn F' τ' h'
theorem Lp {Y:Sg} {x:aL} {ex:Bool}:elems (Y ++ [.cells 46 [.bool x.1,.str x.2] ex]) 2 (.sl Y.length 0 1 none) = some ([row x].flatten,[x].length):=by
 simp only [elems,aP]
 rfl
theorem HZ (hl:Lb.dP E):iL E #[40,40] = true:=by
 unfold iL
 simp only [hl.oW,List.getElem?_toArray,List.getElem?_cons_succ,List.getElem?_cons_zero]
 rfl
theorem Kj (hl:Lb.dP E) {Y:Sg} {w:V} {l:List aL} {x:aL} {ex:Bool} (ow:bF iE 46 Y w l) (hb:l.length <= 1000000):∃ w' τ',Ax.append E (Y ++ [.cells 46 [.bool x.1,.str x.2] ex]) #[40,40] w (.sl Y.length 0 1 none) = some (w',τ') /\ bF iE 46 τ' w' (l ++ [x]) /\ Sp (Y ++ [.cells 46 [.bool x.1,.str x.2] ex]) τ' w /\ ∀ c,aQ w' = some c -> aQ w = some c \/ Y.length <= c:=by
 obtain ⟨w',τ',h1,h2,h3,-,h5⟩:=jQ (m:=[x]) (new:=[row x]) hl.oW rfl hl.eM rfl (by decide) (HZ hl) rfl (ow.app [.cells 46 [.bool x.1,.str x.2] ex]) Lp (.one rfl) (eT (b:=1000001) (by decide) (by simp only [length_cons,length_nil]; omega))
 exact ⟨w',τ',h1,h2,h3,fun c hc=>(h5 c hc).imp id fun h=>by rw [length_append] at h; omega⟩
def Rk (nx:aL -> List aL) (s0:aL -> Prop):Nat -> aL -> Prop
 | 0,x=>s0 x
 | k + 1,x=>Rk nx s0 k x \/ ∃ y,Rk nx s0 k y /\ x ∈ nx y
def C9 (nx:aL -> List aL) (s0:aL -> Prop) (bC:Int) (x:aL):Prop:=(bC < 0 /\ ∃ n,Rk nx s0 n x) \/ (0 <= bC /\ Rk nx s0 bC.toNat x)
section
variable {nx:aL -> List aL} {s0:aL -> Prop}
theorem Rk.mono {x : aL} : ∀ {k n : Nat}, k <= n -> Rk nx s0 k x -> Rk nx s0 n x
  | k, 0, h, hx => by obtain rfl : k = 0 := by omega
                      exact hx
  | k, n + 1, h, hx => by
    rcases Nat.lt_or_ge n k with h1 | h1
    · obtain rfl : k = n + 1 := by omega
      exact hx
    · exact .inl (Rk.mono h1 hx)
theorem Rk.closed {k:Nat} (hc:∀ y x,Rk nx s0 k y -> x ∈ nx y -> Rk nx s0 k x):∀ (n:Nat) {x:aL},Rk nx s0 n x -> Rk nx s0 k x
 | 0,_,hx=>Rk.mono (Nat.zero_le k) hx
 | n + 1,_,.inl hx=>Rk.closed hc n hx
 | n + 1,_,.inr ⟨y,hy,hx⟩=>hc y _ (Rk.closed hc n hy) hx
structure Rd (nx:aL -> List aL) (s0:aL -> Prop) (k:Nat) (A now:List aL):Prop where
 all:∀ x,x ∈ A ↔ Rk nx s0 k x
 sub:∀ x,x ∈ now -> x ∈ A
 rest:∀ y,y ∈ A -> y ∉ now -> ∀ x,x ∈ nx y -> x ∈ A
theorem Rd.start {A now:List aL} (h1:∀ x,x ∈ A ↔ s0 x) (h2:∀ x,x ∈ now ↔ x ∈ A):Rd nx s0 0 A now:=⟨h1,fun x h=>(h2 x).1 h,fun y h h'=>absurd ((h2 y).2 h) h'⟩
theorem Rd.next {k:Nat} {A now A' more:List aL} (h:Rd nx s0 k A now) (h1:∀ x,x ∈ A' ↔ x ∈ A \/ ∃ y ∈ now,x ∈ nx y) (h2:∀ x,x ∈ more ↔ x ∈ A' /\ x ∉ A):Rd nx s0 (k + 1) A' more:=by
 have key:∀ y x,y ∈ A -> x ∈ nx y -> x ∈ A':=fun y x hy hx=>by
  by_cases hn:y ∈ now
  ·exact (h1 x).2 (.inr ⟨y,hn,hx⟩)
  ·exact (h1 x).2 (.inl (h.rest y hy hn x hx))
 refine ⟨fun x=>?_,fun x hx=>((h2 x).1 hx).1,fun y hy hn x hx=>?_⟩
 ·constructor
  ·intro hx
   rcases (h1 x).1 hx with hx | ⟨y,hy,hx⟩
   ·exact .inl ((h.all x).1 hx)
   ·exact .inr ⟨y,(h.all y).1 (h.sub y hy),hx⟩
  ·rintro (hx | ⟨y,hy,hx⟩)
   ·exact (h1 x).2 (.inl ((h.all x).2 hx))
   ·exact key y x ((h.all y).2 hy) hx
 ·by_cases hA:y ∈ A
  ·exact key y x hA hx
  ·exact absurd ((h2 y).2 ⟨hy,hA⟩) hn
theorem Rd.bC {k:Nat} {A now:List aL} (h:Rd nx s0 k A now) (x:aL):x ∈ A ↔ C9 nx s0 (k:Int) x:=by
 rw [h.all]
 unfold C9
 constructor
 ·exact fun hx=>.inr ⟨by omega,by rw [Int.toNat_natCast]; exact hx⟩
 ·rintro (⟨h1,-⟩ | ⟨-,hx⟩)
  ·omega
  ·rw [Int.toNat_natCast] at hx; exact hx
theorem Rd.still {k:Nat} {A:List aL} {bC:Int} (h:Rd nx s0 k A []) (hk:0 <= bC -> (k:Int) <= bC) (x:aL):x ∈ A ↔ C9 nx s0 bC x:=by
 have hc:∀ y x,Rk nx s0 k y -> x ∈ nx y -> Rk nx s0 k x:=fun y x hy hx=>(h.all x).1 (h.rest y ((h.all y).2 hy) (by simp) x hx)
 rw [h.all]
 unfold C9
 constructor
 ·intro hx
  by_cases hf:bC < 0
  ·exact .inl ⟨hf,k,hx⟩
  ·exact .inr ⟨by omega,Rk.mono (by have:=hk (by omega); omega) hx⟩
 ·rintro (⟨-,n,hx⟩ | ⟨-,hx⟩)
  ·exact Rk.closed hc n hx
  ·exact Rk.closed hc _ hx
theorem Rk.sub {P:aL -> Prop} (h0:∀ x,s0 x -> P x) (hn:∀ y x,x ∈ nx y -> P x):∀ (n:Nat) {x:aL},Rk nx s0 n x -> P x
 | 0,_,hx=>h0 _ hx
 | n + 1,_,.inl hx=>Rk.sub h0 hn n hx
 | n + 1,_,.inr ⟨y,_,hx⟩=>hn y _ hx
end
theorem keys_in {A:List aL} {x:aL} (hx:x ∈ A):keys A [x] = A:=if_pos hx
theorem Gq {A:List aL} {x:aL} (hx:x ∉ A):keys A [x] = A ++ [x]:=if_neg hx
theorem VC {Y:Sg} {w:V} {l:List aL} {c:Nat} (ow:bF iE 46 Y w l) (h:aQ w = some c):c < Y.length:=by
 rcases ow with ⟨rfl,-⟩ | ⟨b,rs,ex,rfl,hb,-⟩
 ·cases h
 ·cases h; exact (List.getElem?_eq_some_iff.1 hb).1
theorem Ng {Y:Sg} {w:V} {l:List aL} {c:Nat} (ow:bF iE 46 Y w l) (h:∀ u ex,Y[c]? ≠ some (.cells 46 u ex)):aQ w ≠ some c:=by
 rcases ow with ⟨rfl,-⟩ | ⟨b,rs,ex,rfl,hb,-⟩
 ·intro e; cases e
 ·intro e; cases e; exact h _ _ hb
theorem Nh {Y τ':Sg} {w:V} {l:List aL} {b m:Nat} {A:List aL} (ow:bF iE 46 Y w l) (hs:Lb.bY Y b m A) (hk:Lb.Kp Y τ' m):bF iE 46 τ' w l:=ow.keep fun c o hc ho=>hk c o (fun e=>by
 subst e
 exact Ng ow (fun u ex e=>by rw [hs.map] at e; cases e) hc) ho
theorem VB {Y τ':Sg} {w v:V} {l:List aL} (ow:bF iE 46 Y w l) (hne:∀ c,aQ v = some c -> aQ w ≠ some c) (hk:Sp Y τ' v):bF iE 46 τ' w l:=ow.keep fun c o hc ho=>hk c o ho fun e=>hne c e hc
theorem MU {Y τ':Sg} {w:V} {l:List aL} {b m:Nat} {A:List aL} (hs:Lb.bY Y b m A) (ow:bF iE 46 Y w l) (hk:Sp Y τ' w):Lb.bY τ' b m A:=by
 refine ⟨hk _ _ hs.obj (Ng ow fun u ex e=>?_),hk _ _ hs.map (Ng ow fun u ex e=>?_),hs.nodup⟩
 ·rw [hs.obj] at e; cases e
 ·rw [hs.map] at e; cases e
theorem NP {Y:Sg} {x:aL}:Lb.SV (Y ++ [.cells 46 [.bool x.1,.str x.2] true]) (.sl Y.length 0 1 none) [x]:=.inr (.inr ⟨Y.length,_,true,rfl,aP,rfl⟩)
end
end
section
section
variable {E:Env} {Z:Sg} {K:V -> Sg -> Prop}
def NxL (E:Env) (k:Nat) (g:V) (nx:aL -> List aL):Prop:=∀ (Z:Sg) (x:aL),aB E k [g,.agg [.bool x.1,.str x.2]] Z fun v σ'=>σ' = Z /\ Hv v (nx x)
structure Ri (nx:aL -> List aL) (all A0:List aL) (P:aL -> Prop) (A more:List aL):Prop where
 mem:∀ x,x ∈ A ↔ x ∈ A0 \/ P x
 new:∀ x,x ∈ more ↔ x ∈ A /\ x ∉ A0
 sub:∀ x,x ∈ A -> x ∈ all
 len:more.length <= A.length
 nd:A.Nodup
 up:A0.length <= A.length /\ (more ≠ [] -> A0.length < A.length)
theorem Ri.le {nx:aL -> List aL} {all A0 A more:List aL} {P:aL -> Prop} (h:Ri nx all A0 P A more) (hal:all.length <= 2000):A.length <= 2000:=Nat.le_trans (kG h.nd h.sub) hal
theorem Ri.old {nx:aL -> List aL} {all A0 A more:List aL} {P P':aL -> Prop} (h:Ri nx all A0 P A more) {x:aL} (hx:x ∈ A) (hP:∀ y,P' y ↔ P y \/ y = x):Ri nx all A0 P' A more:=⟨fun y=>by
 rw [hP,<- or_assoc,<- h.mem]
 exact ⟨.inl,fun h=>h.elim id fun e=>by rw [e]; exact hx⟩,h.new,h.sub,h.len,h.nd,h.up⟩
theorem Ri.fresh {nx:aL -> List aL} {all A0 A more:List aL} {P P':aL -> Prop} (h:Ri nx all A0 P A more) {x:aL} (hx:x ∉ A) (ha:x ∈ all) (hP:∀ y,P' y ↔ P y \/ y = x):Ri nx all A0 P' (A ++ [x]) (more ++ [x]):=by
 have hx0:x ∉ A0:=fun e=>hx ((h.mem x).2 (.inl e))
 refine ⟨fun y=>?_,fun y=>?_,fun y hy=>?_,by simp only [length_append,length_cons,length_nil]; have:=h.len; omega,List.nodup_append.2 ⟨h.nd,List.pairwise_singleton ..,fun a ha b hb e=>hx (by rw [mem_singleton] at hb; rw [<- hb,<- e]; exact ha)⟩,?_⟩
 ·rw [hP,<- or_assoc,<- h.mem,mem_append,mem_singleton]
 ·rw [mem_append,mem_append,mem_singleton,h.new]
  constructor
  ·rintro (⟨h1,h2⟩ | rfl)
   ·exact ⟨.inl h1,h2⟩
   ·exact ⟨.inr rfl,hx0⟩
  ·rintro ⟨h1 | h1,h2⟩
   ·exact .inl ⟨h1,h2⟩
   ·exact .inr h1
 ·rcases mem_append.1 hy with h1 | h1
  ·exact h.sub y h1
  ·rw [mem_singleton.1 h1]; exact ha
 ·have:=h.up.1
  simp only [length_append,length_cons,length_nil]
  exact ⟨by omega,fun _=>by omega⟩
theorem Ri.congr {nx:aL -> List aL} {all A0 A more:List aL} {P P':aL -> Prop} (h:Ri nx all A0 P A more) (hP:∀ y,P' y ↔ P y):Ri nx all A0 P' A more:=⟨fun y=>by rw [hP]; exact h.mem y,h.new,h.sub,h.len,h.nd,h.up⟩
theorem mC {l:List aL} {j:Nat} {x:aL} (hj:l[j]? = some x) (y:aL):y ∈ l.take (j + 1) ↔ y ∈ l.take j \/ y = x:=by
 rw [List.take_add_one,hj]
 simp
theorem oO (a:Bool) (s:aU):Ax.fill (fun j=>some (j * 2,2)) (gU 1 [V.bool false,V.str []]) [(0,V.agg [V.bool a,V.str s])] = some [.bool a,.str s]:=rfl
theorem SE (hl:Lb.dP E) {Y:Sg} {w:V} {l:List aL} (on:bF iE 46 Y w l) {i:Nat} {y:aL} (hy:l[i]? = some y):∃ b o u cs ex,indexAddr E 40 w (.int .i64 (i:Int)) = some (.ref b o) /\ Y[b]? = some (.cells u cs ex) /\ o + 2 <= cs.length /\ (cs.drop o).take 2 = row y:=by
 obtain ⟨p,r0,e1,hr0,-,-,hp⟩:=G8 hl.oW rfl hl.eM rfl on.ls hy
 obtain rfl:r0 = row y:=hr0
 rcases hp with ⟨g,rfl⟩ | ⟨b,o,rfl,u,cs,ex,hb,hle,hrow⟩
 ·exfalso
  rcases on with ⟨rfl,rfl⟩ | ⟨b,rs,ex,rfl,hb,-⟩
  ·cases hy
  ·unfold indexAddr at e1
   simp only [hl.oW,hl.eM] at e1
   repeat' split at e1
   all_goals cases e1
 ·exact ⟨b,o,u,cs,ex,e1,hb,hle,hrow⟩
theorem Su (h:bM E) (h':sD E) (hl:Lb.dP E) (q:Hw E) (rc:O_ E) {k b m:Nat} {g:V} {nx:aL -> List aL} (hnx:NxL E k g nx) {all:List aL} (hall:∀ x y,y ∈ nx x -> y ∈ all) (hlen:all.length <= 2000) (hnl:∀ x,(nx x).length <= 2000) {A0 A more now:List aL} {P P':aL -> Prop} {wn wm:V} {i:Nat} {y:aL}
  {Y:Sg} (hs:Lb.bY Y b m A) (on:bF iE 46 Y wn now) (om:bF iE 46 Y wm more) (hne:∀ c,aQ wm = some c -> aQ wn ≠ some c) (hy:now[i]? = some y) (ri:Ri nx all A0 P A more) (hP:∀ x,P' x ↔ P x \/ x ∈ nx y)
  (F:FT) (g2:F.get 2 = .fn k [g] []) (g9:F.get 9 = .ref b 0) (g13:F.get 13 = wm) (g50:F.get 50 = wn) (g52:F.get 52 = .int .i64 (i:Int)) {st:List kA} {Q:Ax.X -> Fr -> Sg -> Prop}
  (hk:∀ F' τ' wm' A' more',(∀ k,k ∈ [1,2,9,50,51,52] -> F'.get k = F.get k) -> F'.get 13 = wm' -> Lb.bY τ' b m A' -> bF iE 46 τ' wn now -> bF iE 46 τ' wm' more' -> (∀ c,aQ wm' = some c -> aQ wn ≠ some c) -> Ri nx all A0 P' A' more' -> M E st .normal ⟨80,F'⟩ τ' Q):Ax.R E (cutAt [1,1,1,1,0,2,2,1,0,2,1,0,1,2,2,1,1,0,2] (aA Tryz.f75).code) st ⟨80,F⟩ Y Q:=by
 obtain ⟨c,o,u,cs,ex,e1,hc,hle,hrow⟩:=SE hl on hy
 simp only [aA,Tryz.f75,KP,Ax.loadAt,Ax.storeAt,↓reduceIte,reduceEqDiff,reduceLT,reduceAdd,h.eM,cutAt,g2,g50,g52,e1,hc,hle,hrow,row,aP,cL]
 refine aN (hnx _ y) ?_
 rintro v σ' ⟨rfl,hv⟩
 have hvi:=hv.isf.is
 have la:=xM h hvi
 have hnl:=hnl y
 have hs1:=hs.jZ (Lb.lA.app Y [O.cells 46 [.bool y.1,.str y.2] true])
 have on1:=on.app [O.cells 46 [.bool y.1,.str y.2] true]
 have om1:=om.app [O.cells 46 [.bool y.1,.str y.2] true]
 generalize Y ++ [O.cells 46 [.bool y.1,.str y.2] true] = τ1 at hs1 on1 om1 ⊢
 simp only [KP,↓reduceIte,reduceLT,la]
 have hadl:nx y ⊆ all:=fun x hx=>hall y x hx
 generalize nx y = L at hvi hv la hnl hP hadl
 refine aV (fun j F2 τ2=>(∀ k,k ∈ [1,2,9,50,51,52] -> F2.get k = F.get k) /\ F2.get 58 = v /\ F2.get 59 = .int .i64 (L.length:Int) /\ F2.get 60 = .int .i64 (j:Int) /\ ∃ A more wm,F2.get 13 = wm /\ Lb.bY τ2 b m A /\ bF iE 46 τ2 wn now /\ bF iE 46 τ2 wm more /\ (∀ c,aQ wm = some c -> aQ wn ≠ some c) /\ Ri nx all A0 (fun x=>P x \/ x ∈ L.take j) A more) L.length ?_ ?_ L.length 0 _ _ (by omega) ⟨?_,(fL (by simp +decide only [GS,and_self]) ⟨A,more,wm,(by simp +decide only [GS,g13]),hs1,on1,om1,hne,ri.congr fun x=>by simp⟩)⟩
 ·rintro j F2 τ2 hj ⟨hF,g58,g59,g60,A,more,wm,g13,hs,on,om,hne,ri⟩ next
  obtain ⟨x,hx⟩:∃ x,L[j]? = some x:=⟨_,List.getElem?_eq_getElem hj⟩
  obtain ⟨gi,e1⟩:=IJ h hvi hx
  have hlt:=eD hj
  have hadd:=bZ j (by omega)
  have f9:F2.get 9 = .ref b 0:=(hF 9 (by simp)).trans g9
  have hAl:=ri.le hlen
  have hml:=ri.len
  rw [aF]
  simp only [KP,Ax.loadAt,Ax.storeAt,↓reduceIte,reduceEqDiff,reduceLT,reduceLeDiff,reduceAdd,reduceMul,h.oW,h.eM,f9,g58,g59,g60,hlt,e1,aP,cL,oO]
  have hs2:=hs.jZ (Lb.lA.app τ2 [O.cells 46 [.bool x.1,.str x.2] true])
  have on2:=on.app [O.cells 46 [.bool x.1,.str x.2] true]
  have om2:=om.app [O.cells 46 [.bool x.1,.str x.2] true]
  have hz2:(τ2 ++ [O.cells 46 [.bool x.1,.str x.2] true])[τ2.length]? = some (O.cells 46 [.bool x.1,.str x.2] true):=aP
  generalize τ2 ++ [O.cells 46 [.bool x.1,.str x.2] true] = τ3 at hs2 on2 om2 hz2 ⊢
  generalize τ2.length = z at hz2 ⊢
  refine aN (Lb.G7 hl (hs2.jZ (Lb.lA.app τ3 [O.cells 46 [.bool x.1,.str x.2] true])) NP (show 1 <= 10000000000 by omega) (by omega)) ?_
  rintro v4 τ4 ⟨rfl,Pb,hk4⟩
  have Qo:=hs2.jZ (Lb.lA.app τ3 [O.cells 46 [.bool x.1,.str x.2] true])
  have on4:=Nh (on2.app _) Qo hk4
  have om4:=Nh (om2.app _) Qo hk4
  have hz4:=hk4 _ _ (fun e=>by
   have:=hs2.map
   rw [<- e,hz2] at this
   cases this) (aM (x:=O.cells 46 [.bool x.1,.str x.2] true) hz2)
  by_cases hxA:x ∈ A
  ·rw [keys_in hxA] at Pb ⊢
   have hd:((A.length:Int) - (A.length:Int)) = 0:=by omega
   rw [hd]
   simp only [KP,↓reduceIte,reduceEqDiff,reduceLT,Int.reduceLT,g60,hadd]
   refine next _ _ ⟨?_,(fL (by simp +decide only [GS,g58,g59,and_self]) ⟨A,more,wm,(by simp +decide only [GS,g13]),Pb,on4.keep fun c o _ hc=>hc,om4,hne,ri.old hxA fun y=>?_⟩)⟩
   ·intro k hk
    rw [<- hF k hk]
    simp only [mem_cons,List.not_mem_nil,or_false] at hk
    rcases hk with rfl | rfl | rfl | rfl | rfl | rfl <;> simp +decide only [GS]
   ·rw [or_assoc,mC hx]
  ·rw [Gq hxA] at Pb ⊢
   have hd:(((A ++ [x]).length:Int) - (A.length:Int)) = 1:=by rw [length_append,length_cons,length_nil]; omega
   rw [hd]
   obtain ⟨w',τ5,ha5,ow5,Pa,fr5⟩:=Kj (x:=x) (ex:=true) hl om4 (by omega)
   simp only [KP,Ax.loadAt,↓reduceIte,reduceEqDiff,reduceLT,reduceLeDiff,reduceAdd,reduceMul,Int.reduceLT,h.oW,h.eM,hz4,g13,oO,ha5,g60,hadd]
   refine next _ _ ⟨?_,(fL (by simp +decide only [GS,g58,g59,and_self]) ⟨A ++ [x],more ++ [x],w',(by simp +decide only [GS]),MU (Pb.jZ (Lb.lA.app τ4 _)) (om4.app _) Pa,VB (on4.app _) (fun c hc=>hne c hc) Pa,ow5,fun c hc=>?_,ri.fresh hxA (hadl (List.mem_of_getElem? hx)) fun y=>?_⟩)⟩
   ·intro k hk
    rw [<- hF k hk]
    simp only [mem_cons,List.not_mem_nil,or_false] at hk
    rcases hk with rfl | rfl | rfl | rfl | rfl | rfl <;> simp +decide only [GS]
   ·rcases fr5 c hc with hc | hc
    ·exact hne c hc
    ·exact fun e=>by have:=VC on4 e; omega
   ·rw [or_assoc,mC hx]
 ·rintro F2 τ2 ⟨hF,g58,g59,g60,A,more,wm,g13,hs,on,om,hne,ri⟩
  have hlt:=eE (Nat.lt_irrefl L.length)
  rw [take_of_length_le (Nat.le_refl _)] at ri
  rw [aF]
  simp only [KP,↓reduceIte,reduceLT,g59,g60,hlt]
  refine hk _ _ wm A more ?_ (by simp +decide only [GS,g13]) hs on om hne (ri.congr hP)
  intro k hk
  rw [<- hF k hk]
  simp only [mem_cons,List.not_mem_nil,or_false] at hk
  rcases hk with rfl | rfl | rfl | rfl | rfl | rfl <;> simp +decide only [GS]
 ·intro k hk
  simp only [mem_cons,List.not_mem_nil,or_false] at hk
  rcases hk with rfl | rfl | rfl | rfl | rfl | rfl <;> simp +decide only [GS]
end
end
section
section
variable {E:Env} {Z:Sg} {K:V -> Sg -> Prop}
structure Sd (rs:List aG) (l A now:List aL):Prop where
 mem:∀ x,x ∈ A ↔ x ∈ l /\ x ∈ jR rs
 nw:∀ x,x ∈ now ↔ x ∈ A
 len:now.length <= A.length
theorem Sd.old {rs:List aG} {ls A now:List aL} {j:Nat} {x:aL} (h:Sd rs (ls.take j) A now) (hx:ls[j]? = some x) (hA:x ∈ jR rs -> x ∈ A):Sd rs (ls.take (j + 1)) A now:=⟨fun y=>by
 rw [h.mem,mC hx]
 constructor
 ·exact fun e=>⟨.inl e.1,e.2⟩
 ·rintro ⟨e | rfl,e2⟩
  ·exact ⟨e,e2⟩
  ·exact (h.mem _).1 (hA e2),h.nw,h.len⟩
theorem Sd.fresh {rs:List aG} {ls A now:List aL} {j:Nat} {x:aL} (h:Sd rs (ls.take j) A now) (hx:ls[j]? = some x) (ha:x ∈ jR rs):Sd rs (ls.take (j + 1)) (A ++ [x]) (now ++ [x]):=⟨fun y=>by
 rw [mem_append,h.mem,mC hx,mem_singleton]
 constructor
 ·rintro (e | rfl)
  ·exact ⟨.inl e.1,e.2⟩
  ·exact ⟨.inr rfl,ha⟩
 ·rintro ⟨e | rfl,e2⟩
  ·exact .inl ⟨e,e2⟩
  ·exact .inr rfl,fun y=>by rw [mem_append,mem_append,h.nw],by have:=h.len; rw [length_append,length_append]; omega⟩
theorem JO {rs:List aG} {x:aL} (hx:x ∈ jR rs):kindOf rs x ≠ 0:=by
 unfold kindOf
 rw [if_pos hx]
 split
 ·decide
 ·split <;> decide
theorem Gp {rs:List aG} {x:aL} (hx:x ∉ jR rs):kindOf rs x = 0:=if_neg hx
theorem PG (h:bM E) (h':sD E) (hl:Lb.dP E) (q:Hw E) (rc:O_ E) {g:V} {rs:List aG} (hg:IX E rs g) (hf:Fits rs) {b m:Nat} {lv bC nf:V} {ls:List aL} (iv:IS iE lv ls) (hls:ls.length <= 1000000) {Y:Sg} (hs:Lb.bY Y b m [])
  (F:FT) (g0:F.get 0 = g) (g3:F.get 3 = lv) (g9:F.get 9 = .ref b 0) (g10:F.get 10 = .aD) {st:List kA} {Q:Ax.X -> Fr -> Sg -> Prop}
  (hk:∀ F' τ' wn A now,(∀ k,k ∈ [0,1,2,9] -> F'.get k = F.get k) -> F'.get 10 = wn -> Lb.bY τ' b m A -> bF iE 46 τ' wn now -> Sd rs ls A now -> M E st .normal ⟨80,F'⟩ τ' Q):Ax.R E (cutAt [1,1,1,0] (aA Tryz.f75).code) st ⟨80,F⟩ Y Q:=by
 have la:=xM h iv
 simp only [aA,Tryz.f75,KP,↓reduceIte,reduceLT,cutAt,g3,la]
 refine aV (fun i F2 τ2=>(∀ k,k ∈ [0,1,2,9] -> F2.get k = F.get k) /\ F2.get 19 = lv /\ F2.get 20 = .int .i64 (ls.length:Int) /\ F2.get 21 = .int .i64 (i:Int) /\ ∃ A now wn,F2.get 10 = wn /\ Lb.bY τ2 b m A /\ bF iE 46 τ2 wn now /\ Sd rs (ls.take i) A now) ls.length ?_ ?_ ls.length 0 _ _ (by omega) ⟨?_,(fL (by simp +decide only [GS,and_self]) ⟨[],[],.aD,(by simp +decide only [GS,g10]),hs,.inl ⟨rfl,rfl⟩,(fun x=>by simp),(fun x=>by simp),Nat.le_refl _⟩)⟩
 ·rintro j F2 τ2 hj ⟨hF,g19,g20,g21,A,now,wn,g10,hs,on,sd⟩ next
  obtain ⟨x,hx⟩:∃ x,ls[j]? = some x:=⟨_,List.getElem?_eq_getElem hj⟩
  obtain ⟨gi,e1⟩:=IJ h iv hx
  have hlt:=eD hj
  have hadd:=bZ j (by omega)
  have f0:F2.get 0 = g:=(hF 0 (by simp)).trans g0
  have f9:F2.get 9 = .ref b 0:=(hF 9 (by simp)).trans g9
  have hAl:A.length <= 2000:=Nat.le_trans (kG hs.nodup fun y hy=>((sd.mem y).1 hy).2) (yC hf)
  have hnl:=sd.len
  have kk:=fun (Y:Sg)=>dM fun K=>Bc (Z:=Y) (K:=K) h h' hl q hg hf x
  rw [aF]
  by_cases hxa:x ∈ jR rs
  ·have hkd:=JO hxa
   generalize kindOf rs x = kd at kk hkd
   have hkd:decide (kd = 0) = false:=decide_eq_false hkd
   simp only [KP,Ax.loadAt,Ax.storeAt,↓reduceIte,reduceEqDiff,reduceLT,reduceLeDiff,reduceAdd,reduceMul,reduceCtorEq,h.oW,h.eM,f0,f9,g19,g20,g21,hlt,e1,kk,hkd,aP,cL,oO]
   have hs2:=hs.jZ (Lb.lA.app τ2 [O.cells 46 [.bool x.1,.str x.2] true])
   have on2:=on.app [O.cells 46 [.bool x.1,.str x.2] true]
   have hz2:(τ2 ++ [O.cells 46 [.bool x.1,.str x.2] true])[τ2.length]? = some (O.cells 46 [.bool x.1,.str x.2] true):=aP
   generalize τ2 ++ [O.cells 46 [.bool x.1,.str x.2] true] = τ3 at hs2 on2 hz2 ⊢
   generalize τ2.length = z at hz2 ⊢
   have Qo:=hs2.jZ (Lb.lA.app τ3 [O.cells 46 [.bool x.1,.str x.2] true])
   refine aN (Lb.G7 hl Qo NP (show 1 <= 10000000000 by omega) (by omega)) ?_
   rintro v4 τ4 ⟨rfl,Pb,hk4⟩
   have on4:=Nh (on2.app _) Qo hk4
   have hz4:=hk4 _ _ (fun e=>by
    have:=hs2.map
    rw [<- e,hz2] at this
    cases this) (aM (x:=O.cells 46 [.bool x.1,.str x.2] true) hz2)
   by_cases hxA:x ∈ A
   ·rw [keys_in hxA] at Pb ⊢
    have hd:((A.length:Int) - (A.length:Int)) = 0:=by omega
    rw [hd]
    simp only [KP,↓reduceIte,reduceEqDiff,reduceLT,Int.reduceLT,g21,hadd]
    refine next _ _ ⟨?_,(fL (by simp +decide only [GS,g19,g20,and_self]) ⟨A,now,wn,(by simp +decide only [GS,g10]),Pb,on4,sd.old hx fun _=>hxA⟩)⟩
    intro k hk
    rw [<- hF k hk]
    simp only [mem_cons,List.not_mem_nil,or_false] at hk
    rcases hk with rfl | rfl | rfl | rfl <;> simp +decide only [GS]
   ·rw [Gq hxA] at Pb ⊢
    have hd:(((A ++ [x]).length:Int) - (A.length:Int)) = 1:=by rw [length_append,length_cons,length_nil]; omega
    rw [hd]
    obtain ⟨w',τ5,ha5,ow5,Pa,-⟩:=Kj (x:=x) (ex:=true) hl on4 (by omega)
    simp only [KP,Ax.loadAt,↓reduceIte,reduceEqDiff,reduceLT,reduceLeDiff,reduceAdd,reduceMul,Int.reduceLT,h.oW,h.eM,hz4,g10,oO,ha5,g21,hadd]
    refine next _ _ ⟨?_,(fL (by simp +decide only [GS,g19,g20,and_self]) ⟨A ++ [x],now ++ [x],w',(by simp +decide only [GS]),MU (Pb.jZ (Lb.lA.app τ4 _)) (on4.app _) Pa,ow5,sd.fresh hx hxa⟩)⟩
    intro k hk
    rw [<- hF k hk]
    simp only [mem_cons,List.not_mem_nil,or_false] at hk
    rcases hk with rfl | rfl | rfl | rfl <;> simp +decide only [GS]
  ·have hkd:=Gp hxa
   rw [hkd] at kk
   simp only [KP,Ax.loadAt,Ax.storeAt,↓reduceIte,reduceEqDiff,reduceLT,reduceAdd,reduceCtorEq,h.eM,f0,g19,g20,g21,hlt,e1,kk,hadd,aP,cL]
   refine next _ _ ⟨?_,(fL (by simp +decide only [GS,g19,g20,and_self]) ⟨A,now,wn,(by simp +decide only [GS,g10]),hs.jZ (Lb.lA.app τ2 _),on.app _,sd.old hx fun e=>absurd e hxa⟩)⟩
   intro k hk
   rw [<- hF k hk]
   simp only [mem_cons,List.not_mem_nil,or_false] at hk
   rcases hk with rfl | rfl | rfl | rfl <;> simp +decide only [GS]
 ·rintro F2 τ2 ⟨hF,g19,g20,g21,A,now,wn,g10,hs,on,sd⟩
  have hlt:=eE (Nat.lt_irrefl ls.length)
  rw [take_of_length_le (Nat.le_refl _)] at sd
  rw [aF]
  simp only [KP,↓reduceIte,reduceLT,g20,g21,hlt]
  refine hk _ _ wn A now ?_ (by simp +decide only [GS,g10]) hs on sd
  intro k hk
  rw [<- hF k hk]
  simp only [mem_cons,List.not_mem_nil,or_false] at hk
  rcases hk with rfl | rfl | rfl | rfl <;> simp +decide only [GS]
 ·intro k hk
  simp only [mem_cons,List.not_mem_nil,or_false] at hk
  rcases hk with rfl | rfl | rfl | rfl <;> simp +decide only [GS]
end
end
section
section
variable {E:Env} {Z:Sg} {K:V -> Sg -> Prop}
theorem KM (h:bM E) (h':sD E) (hl:Lb.dP E) (q:Hw E) (rc:O_ E) {k0 b m:Nat} {g:V} {nx:aL -> List aL} (hnx:NxL E k0 g nx) {all:List aL} (hall:∀ x y,y ∈ nx x -> y ∈ all) (hlen:all.length <= 2000) (hnl:∀ x,(nx x).length <= 2000) {s0:aL -> Prop} {bC:Int} (hf1:-1 <= bC) (hf2:bC <= 9223372036854775807)
  {A now:List aL} {wn:V} {Y:Sg} (hs:Lb.bY Y b m A) (on:bF iE 46 Y wn now) (hA:∀ x,x ∈ A ↔ s0 x) (hn:∀ x,x ∈ now ↔ x ∈ A) (hsub:∀ x,x ∈ A -> x ∈ all) (hnlen:now.length <= A.length)
  (F:FT) (g1:F.get 1 = .int .i64 bC) (g2:F.get 2 = .fn k0 [g] []) (g9:F.get 9 = .ref b 0) (g10:F.get 10 = wn) {st:List kA} {Q:Ax.X -> Fr -> Sg -> Prop}
  (hk:∀ F' τ' A',F'.get 9 = .ref b 0 -> Lb.bY τ' b m A' -> (∀ x,x ∈ A' -> x ∈ all) -> (∀ x,x ∈ A' ↔ C9 nx s0 bC x) -> M E st .normal ⟨80,F'⟩ τ' Q):Ax.R E (cutAt [1,1,1,1,0] (aA Tryz.f75).code) st ⟨80,F⟩ Y Q:=by
 have one:=fun {A0 A more now P P' wn wm i y Y} hs on om hne hy ri hP F g2 g9 g13 g50 g52 st Q hk=>Su (k:=k0) (b:=b) (m:=m) (A0:=A0) (A:=A) (more:=more) (now:=now) (P:=P) (P':=P') (wn:=wn) (wm:=wm) (i:=i) (y:=y) (Y:=Y) h h' hl q rc hnx hall hlen hnl hs on om hne hy ri hP F g2 g9 g13 g50 g52 (st:=st) (Q:=Q) hk
 rw [show (cutAt [1,1,1,1,0] (aA Tryz.f75).code) = .block 2 (.loop (.seq (cutAt [1,1,1,1,0,2,2,0] (aA Tryz.f75).code) (.seq (.block 3 (.seq (cutAt [1,1,1,1,0,2,2,1,0,2,0] (aA Tryz.f75).code) (.seq (.seq (cutAt [1,1,1,1,0,2,2,1,0,2,1,0,0] (aA Tryz.f75).code) (.block 4 (.loop (.seq (cutAt [1,1,1,1,0,2,2,1,0,2,1,0,1,2,2,0] (aA Tryz.f75).code) (.seq (cutAt [1,1,1,1,0,2,2,1,0,2,1,0,1,2,2,1,0] (aA Tryz.f75).code) (.seq (.block 5 (cutAt [1,1,1,1,0,2,2,1,0,2,1,0,1,2,2,1,1,0,2] (aA Tryz.f75).code)) (cutAt [1,1,1,1,0,2,2,1,0,2,1,0,1,2,2,1,1,1] (aA Tryz.f75).code))))))) (cutAt [1,1,1,1,0,2,2,1,0,2,1,1] (aA Tryz.f75).code)))) (cutAt [1,1,1,1,0,2,2,1,1] (aA Tryz.f75).code)))) from rfl]
 generalize cutAt [1,1,1,1,0,2,2,1,0,2,1,0,1,2,2,1,1,0,2] (aA Tryz.f75).code = B at one ⊢
 simp only [aA,Tryz.f75,KP,cutAt]
 refine PX (fun n F Y=>∃ (k:Nat) (A now:List aL) (wn:V),F.get 1 = .int .i64 (bC - (k:Int)) /\ F.get 2 = .fn k0 [g] [] /\ F.get 9 = .ref b 0 /\ F.get 10 = wn /\ Lb.bY Y b m A /\ bF iE 46 Y wn now /\ Rd nx s0 k A now /\ (∀ x,x ∈ A -> x ∈ all) /\ now.length <= A.length /\ (k <= A.length + 1 /\ (now ≠ [] -> k <= A.length)) /\ (0 <= bC -> (k:Int) <= bC) /\ ((now = [] /\ n = 2 * (2001 - A.length)) \/ (now ≠ [] /\ n = 2 * (2001 - A.length) + 1))) ?_ (2 * (2001 - A.length) + (if now = [] then 0 else 1)) _ _ ⟨0,A,now,wn,?_,(by simp +decide only [g2]),(by simp +decide only [g9]),(by simp +decide only [g10]),hs,on,Rd.start hA hn,hsub,hnlen,⟨by omega,fun _=>by omega⟩,fun _=>by omega,?_⟩
 ·clear hs on hA hn hsub hnlen g1 g2 g9 g10
  rintro n F Y ⟨k,A,now,wn,g1,g2,g9,g10,hs,on,rd,hsub,hnlen,hkl,hkf,hn⟩ next
  have hAl:A.length <= 2000:=Nat.le_trans (kG hs.nodup hsub) hlen
  have la:=fun (Z:Sg) (o:bF iE 46 Z wn now)=>pS hl.oW rfl o.ls
  have ln:=la _ on
  rw [aF]
  by_cases h0:now = []
  ·subst h0
   rw [length_nil] at ln
   simp only [KP,↓reduceIte,reduceEqDiff,reduceLT,Int.reduceLT,g10,ln]
   exact hk _ _ A (by simp +decide only [GS,g9]) hs hsub (rd.still hkf)
  by_cases hz:bC - (k:Int) = 0
  ·have hgt:decide ((0:Int) < (now.length:Int)) = true:=decide_eq_true (by have:=List.length_pos_iff.2 h0; omega)
   rw [hz] at g1
   simp only [KP,↓reduceIte,reduceEqDiff,reduceLT,g1,g10,ln,hgt]
   refine hk _ _ A (by simp +decide only [GS,g9]) hs hsub fun x=>?_
   rw [rd.bC,show (k:Int) = bC by omega]
  have hgt:decide ((0:Int) < (now.length:Int)) = true:=decide_eq_true (by have:=List.length_pos_iff.2 h0; omega)
  have hzd:decide (bC - (k:Int) = 0) = false:=decide_eq_false hz
  simp only [KP,↓reduceIte,reduceEqDiff,reduceLT,g1,g10,ln,hgt,hzd]
  have hnl2:now.length <= 2000:=by omega
  refine aV (fun i F2 τ2=>F2.get 1 = .int .i64 (bC - (k:Int)) /\ F2.get 2 = .fn k0 [g] [] /\ F2.get 9 = .ref b 0 /\ F2.get 50 = wn /\ F2.get 51 = .int .i64 (now.length:Int) /\ F2.get 52 = .int .i64 (i:Int) /\ ∃ A' more wm,F2.get 13 = wm /\ Lb.bY τ2 b m A' /\ bF iE 46 τ2 wn now /\ bF iE 46 τ2 wm more /\ (∀ c,aQ wm = some c -> aQ wn ≠ some c) /\ Ri nx all A (fun x=>∃ y ∈ now.take i,x ∈ nx y) A' more) now.length ?_ ?_ now.length 0 _ _ (by omega) (CE (by simp +decide only [GS,g1,g2,g9,and_self]) ⟨A,[],.aD,(by simp +decide only [GS]),hs,on,.inl ⟨rfl,rfl⟩,(fun c hc=>by cases hc),⟨fun x=>by simp,(fun x=>by simp),hsub,Nat.zero_le _,hs.nodup,Nat.le_refl _,fun e=>absurd rfl e⟩⟩)
  ·clear hs on g1 g2 g9
   rintro i F2 τ2 hi ⟨g1,g2,g9,g50,g51,g52,A',more,wm,g13,hs,on,om,hne,ri⟩ next2
   obtain ⟨y,hy⟩:∃ y,now[i]? = some y:=⟨_,List.getElem?_eq_getElem hi⟩
   have hlt:=eD hi
   have hadd:=bZ i (by omega)
   rw [aF]
   simp only [KP,↓reduceIte,reduceLT,g51,g52,hlt]
   refine one hs on om hne hy ri (P':=fun x=>∃ y ∈ now.take (i + 1),x ∈ nx y) (fun x=>?_) _ ?_ ?_ ?_ ?_ ?_ _ _ (fun F3 τ3 wm' A3 more' hF g13' hs' on' om' hne' ri'=>?_)
   ·constructor
    ·rintro ⟨z,hz,hx⟩
     rcases (mC hy z).1 hz with h1 | rfl
     ·exact .inl ⟨z,h1,hx⟩
     ·exact .inr hx
    ·rintro (⟨z,hz,hx⟩ | hx)
     ·exact ⟨z,(mC hy z).2 (.inl hz),hx⟩
     ·exact ⟨y,(mC hy y).2 (.inr rfl),hx⟩
   ·simp +decide only [GS,g2]
   ·simp +decide only [GS,g9]
   ·simp +decide only [GS,g13]
   ·simp +decide only [GS,g50]
   ·simp +decide only [GS,g52]
   have q1:F3.get 1 = .int .i64 (bC - (k:Int)):=(hF 1 (by simp)).trans (by simp +decide only [GS,g1])
   have q2:F3.get 2 = .fn k0 [g] []:=(hF 2 (by simp)).trans (by simp +decide only [GS,g2])
   have q9:F3.get 9 = .ref b 0:=(hF 9 (by simp)).trans (by simp +decide only [GS,g9])
   have q50:F3.get 50 = wn:=(hF 50 (by simp)).trans (by simp +decide only [GS,g50])
   have q51:F3.get 51 = .int .i64 (now.length:Int):=(hF 51 (by simp)).trans (by simp +decide only [GS,g51])
   have q52:F3.get 52 = .int .i64 (i:Int):=(hF 52 (by simp)).trans (by simp +decide only [GS,g52])
   simp only [KP,↓reduceIte,reduceLT,q52,hadd]
   exact next2 _ _ (CE (by simp +decide only [GS,q1,q2,q9,q50,q51,and_self]) ⟨A3,more',wm',(by simp +decide only [GS,g13']),hs',on',om',hne',ri'⟩)
  ·clear hs on g1 g2 g9
   rintro F2 τ2 ⟨g1,g2,g9,g50,g51,g52,A',more,wm,g13,hs,on,om,hne,ri⟩
   have hlt:=eE (Nat.lt_irrefl now.length)
   rw [take_of_length_le (Nat.le_refl _)] at ri
   have hA'l:=ri.le hlen
   have hw:wr .i64 (bC - (k:Int) - 1) = bC - ((k + 1:Nat):Int):=by
    rw [T8 _ (by omega) (by omega)]
    omega
   rw [aF]
   simp only [KP,↓reduceIte,reduceEqDiff,reduceLT,g1,g13,g51,g52,hlt,hw]
   have hup:=ri.up
   refine next (2 * (2001 - A'.length) + (if more = [] then 0 else 1)) _ _ ?_ ⟨k + 1,A',more,wm,(gR (by simp +decide only [GS,g2,g9,and_self]) ⟨hs,om,rd.next ri.mem ri.new,ri.sub,ri.len,?_,?_,?_⟩)⟩
   ·rcases hn with ⟨h1,-⟩ | ⟨-,rfl⟩
    ·exact absurd h1 h0
    ·by_cases hm:more = []
     ·rw [if_pos hm]; omega
     ·rw [if_neg hm]; have:=hup.2 hm; omega
   ·have:=hkl.2 h0
    exact ⟨by omega,fun hm=>by have:=hup.2 hm; omega⟩
   ·intro hf; have:=hkf hf; omega
   ·by_cases hm:more = []
    ·exact .inl ⟨hm,by rw [if_pos hm]; rfl⟩
    ·exact .inr ⟨hm,by rw [if_neg hm]⟩
 ·rw [show bC - ((0:Nat):Int) = bC from by omega]
  simp +decide only [g1]
 ·by_cases h0:now = []
  ·exact .inl ⟨h0,by rw [if_pos h0]; rfl⟩
  ·exact .inr ⟨h0,by rw [if_neg h0]⟩
end
end
section
section
variable {E:Env} {Z:Sg} {K:V -> Sg -> Prop}
theorem IX.bD {g:V} {rs:List aG} (hg:IX E rs g):Ax.bD g = true:=by
 obtain ⟨es0,es1,get,A,L3,L4,rfl,-⟩:=hg
 rfl
theorem Sm {g:V} {rs:List aG} (hg:IX E rs g) (k:Nat) (Z:Sg):aT Z E.ty true (.fn k [g] []) = some (.fn k [g] []):=by
 have e:=cO (Z:=Z) (ty:=E.ty) hg.bD (b_ hg.bD)
 obtain ⟨es0,es1,get,A,L3,L4,rfl,-⟩:=hg
 have e':aT.one Z E.ty true (gV es0 es1 A L3 L4) = some (gV es0 es1 A L3 L4):=e
 show (match aX (aT.one Z E.ty true) [gV es0 es1 A L3 L4],aX (aT.one Z E.ty true) [] with
  | some a,some b=>some (V.fn k a b)
  | _,_=>none) = _
 simp only [aX,e']
theorem Hv.cP {v:V} {l:List aL} (hv:Hv v l) (Y:Sg):cP Y E.ty false v = some v:=by
 rcases hv with ⟨rfl,-⟩ | ⟨full,rfl⟩ <;> rfl
theorem Nl {rs:List aG} (x y:aL) (hy:y ∈ uY rs x):y ∈ jR rs:=(Jy (zB.1 hy)).2
theorem L9 {rs:List aG} (x y:aL) (hy:y ∈ uS rs x):y ∈ jR rs:=(Jy (zA.1 hy)).1
theorem Ke (h:bM E) (h':sD E) (hl:Lb.dP E) (q:Hw E) (rc:O_ E) {k0:Nat} {g:V} {rs:List aG} (hg:IX E rs g) (hf:Fits rs) {nx:aL -> List aL} (hnx:NxL E k0 g nx) (hall:∀ x y,y ∈ nx x -> y ∈ jR rs) (hup:∀ x,Up (nx x)) {bC:Int} (hf1:-1 <= bC) (hf2:bC <= 9223372036854775807) {a:V} {ls:List aL} (ha:LS iE 46 Z a ls) (hls:ls.length <= 1000000) :
  aB E 75 [g,.int .i64 bC,.fn k0 [g] [],a] Z fun v σ'=>σ' = Z /\ ∃ l,Hv v l /\ Up l /\ (∀ x,x ∈ l -> x ∈ jR rs) /\ ∀ x,x ∈ l ↔ C9 nx (fun x=>x ∈ ls /\ x ∈ jR rs) bC x:=by
 obtain ⟨a',ea,ia⟩:=qZ h ha
 have e1:=cO (Z:=Z) (ty:=E.ty) hg.bD (b_ hg.bD)
 have e2:=Sm hg k0 Z
 have e3:aT Z E.ty true (.int .i64 bC) = some (.int .i64 bC):=rfl
 have hlen:=yC hf
 have hnl:∀ x,(nx x).length <= 2000:=fun x=>Nat.le_trans (kG (hup x).nodup (hall x)) hlen
 rw [aH rc.hs75 rc.sp75 rc.fn75 rc.md75 (args':=[g,.int .i64 bC,.fn k0 [g] [],a']) (by simp only [aX,e1,e2,e3,ea]),aZ (by kernel_rfl)]
 have seed:=fun {b m Y} hs F g0 g3 g9 g10 st Q hk=>PG (b:=b) (m:=m) (Y:=Y) h h' hl q rc hg hf (bC:=.int .i64 bC) (nf:=.fn k0 [g] []) ia hls hs F g0 g3 g9 g10 (st:=st) (Q:=Q) hk
 have rounds:=fun {b m A now wn Y} hs on hA hn hsub hnlen F g1 g2 g9 g10 st Q hk=>KM (b:=b) (m:=m) (A:=A) (now:=now) (wn:=wn) (Y:=Y) h h' hl q rc hnx hall hlen hnl (s0:=fun x=>x ∈ ls /\ x ∈ jR rs) hf1 hf2 hs on hA hn hsub hnlen F g1 g2 g9 g10 (st:=st) (Q:=Q) hk
 rw [show (aA Tryz.f75).code = .seq (cutAt [0] (aA Tryz.f75).code) (.seq (cutAt [1,0] (aA Tryz.f75).code) (.seq (cutAt [1,1,0] (aA Tryz.f75).code) (.seq (cutAt [1,1,1,0] (aA Tryz.f75).code) (.seq (cutAt [1,1,1,1,0] (aA Tryz.f75).code) (cutAt [1,1,1,1,1] (aA Tryz.f75).code))))) from rfl]
 generalize cutAt [1,1,1,0] (aA Tryz.f75).code = S at seed ⊢
 generalize cutAt [1,1,1,1,0] (aA Tryz.f75).code = T at rounds ⊢
 simp only [aA,Tryz.f75,KP,↓reduceIte,reduceLT,reduceAdd,cutAt]
 refine aN (Lb.OH hl (l:=[]) (.inl ⟨rfl,rfl⟩) (Nat.zero_le _)) ?_
 rintro v Y ⟨m,rfl,hs,-,-⟩
 rw [show ([]:Sg).length = 0 from rfl] at hs ⊢
 simp only [KP,↓reduceIte,reduceLT]
 refine seed hs _ ?_ ?_ ?_ ?_ _ _ (fun F2 τ2 wn A now hF g10 hs2 on2 sd=>?_)
 ·simp +decide only [GS]
 ·simp +decide only [GS]
 ·simp +decide only [GS]
 ·simp +decide only [GS]
 simp only [KP]
 have q1:F2.get 1 = .int .i64 bC:=(hF 1 (by simp)).trans (by simp +decide only [GS])
 have q2:F2.get 2 = .fn k0 [g] []:=(hF 2 (by simp)).trans (by simp +decide only [GS])
 have q9:F2.get 9 = .ref 0 0:=(hF 9 (by simp)).trans (by simp +decide only [GS])
 refine rounds hs2 on2 sd.mem sd.nw (fun x hx=>((sd.mem x).1 hx).2) sd.len _ ?_ ?_ ?_ ?_ _ _ (fun F3 τ3 A3 g9 Qo hsub hA3=>?_)
 ·simp +decide only [q1]
 ·simp +decide only [q2]
 ·simp +decide only [q9]
 ·simp +decide only [g10]
 have l3:=Nat.le_trans (kG Qo.nodup hsub) hlen
 simp only [KP,↓reduceIte,reduceLT,reduceCtorEq,hl.uM,hl.AG,g9]
 refine aN (Lb.YI hl Qo (by omega) (fun x hx=>by have:=tE (hf.lab (hsub x hx)); omega)) ?_
 rintro r τ4 ⟨ho,-⟩
 obtain ⟨v',hv,hlv⟩:=uU hl ho
 simp only [KP,↓reduceIte,reduceLT,hv]
 exact ⟨_,hlv,mQ _,fun x hx=>hsub x (iA.1 hx),fun x=>by rw [iA]; exact hA3 x⟩
theorem OJ (h:bM E) (h':sD E) (hl:Lb.dP E) (q:Hw E) (rc:O_ E) {g:V} {rs:List aG} (hg:IX E rs g) (hf:Fits rs) {bC:Int} (hf1:-9223372036854775808 <= bC) (hf2:bC <= 9223372036854775807) {a:V} {ls:List aL} (ha:LS iE 46 Z a ls) (hls:ls.length <= 1000000) :
  aB E 21 [g,.int .i64 bC,a] Z fun v σ'=>σ' = Z /\ ∃ l,Hv v l /\ Up l /\ (∀ x,x ∈ l -> x ∈ jR rs) /\ ∀ x,x ∈ l ↔ C9 (uY rs) (fun x=>x ∈ ls /\ x ∈ jR rs) (if bC < -1 then -1 else bC) x:=by
 obtain ⟨a',ea,ia⟩:=qZ h ha
 have e1:=cO (Z:=Z) (ty:=E.ty) hg.bD (b_ hg.bD)
 have e3:aT Z E.ty true (.int .i64 bC) = some (.int .i64 bC):=rfl
 rw [aH rc.hs21 rc.MD rc.fn21 rc.md21 (args':=[g,.int .i64 bC,a']) (by simp only [aX,e1,e3,ea]),aZ (by kernel_rfl)]
 have hm:iU true .i64 bC [.int .i64 (-1)] = some (if bC < -1 then -1 else bC):=rfl
 have hb:-1 <= (if bC < -1 then -1 else bC) /\ (if bC < -1 then -1 else bC) <= 9223372036854775807:=by split <;> omega
 generalize (if bC < -1 then -1 else bC) = far2 at hm hb ⊢
 simp only [aA,Tryz.f21,KP,↓reduceIte,reduceEqDiff,reduceLT,reduceAdd,reduceCtorEq,reduceNeg,hm]
 refine aN (Ke h h' hl q rc hg hf (nx:=uY rs) (fun Y x=>OC h h' hl q hg hf x) Nl (Gb rs) hb.1 hb.2 (ia.ls [] 46) hls) ?_
 rintro v σ' ⟨rfl,l,hv,hr⟩
 have es:=hv.cP (E:=E) []
 simp only [KP,↓reduceIte,reduceLT,reduceNeg,es]
 exact ⟨l,hv,hr⟩
theorem Rf (h:bM E) (h':sD E) (hl:Lb.dP E) (q:Hw E) (rc:O_ E) {g:V} {rs:List aG} (hg:IX E rs g) (hf:Fits rs) {a:V} {ls:List aL} (ha:LS iE 46 Z a ls) (hls:ls.length <= 1000000) :
  aB E 29 [g,a] Z fun v σ'=>σ' = Z /\ ∃ l,Hv v l /\ Up l /\ (∀ x,x ∈ l -> x ∈ jR rs) /\ ∀ x,x ∈ l ↔ C9 (uS rs) (fun x=>x ∈ ls /\ x ∈ jR rs) (-1) x:=by
 obtain ⟨a',ea,ia⟩:=qZ h ha
 have e1:=cO (Z:=Z) (ty:=E.ty) hg.bD (b_ hg.bD)
 rw [aH rc.hs29 rc.My rc.fn29 rc.md29 (args':=[g,a']) (by simp only [aX,e1,ea]),aZ (by kernel_rfl)]
 simp only [aA,Tryz.f29,KP,↓reduceIte,reduceEqDiff,reduceLT,reduceAdd,reduceCtorEq,reduceNeg]
 refine aN (Ke h h' hl q rc hg hf (nx:=uS rs) (fun Y x=>OB h h' hl q hg hf x) L9 (Ft rs) (by decide) (by decide) (ia.ls [] 46) hls) ?_
 rintro v σ' ⟨rfl,l,hv,hr⟩
 have es:=hv.cP (E:=E) []
 simp only [KP,↓reduceIte,reduceLT,reduceNeg,es]
 exact ⟨l,hv,hr⟩
end
end
structure CnE (E:Env):Prop where
 hs30:E.hspec 30 = none
 Pt:E.spec 30 = none
 fn30:E.fn 30 = some (aA Tryz.f30)
 md30:E.mode 30 = .eU
 hs6:E.hspec 6 = none
 sp6:E.spec 6 = none
 fn6:E.fn 6 = some (aA Tryz.f6)
 md6:E.mode 6 = .eU
 TV:∀ {Z:Sg} {K:V -> Sg -> Prop},aB E 11 [] Z K = K (.bool true) Z
section
section
variable {E:Env} {Z:Sg} {K:V -> Sg -> Prop}
section
variable {nx:aL -> List aL} {s0:aL -> Prop}
theorem ED {x:aL}:C9 nx s0 (-1) x ↔ ∃ n,Rk nx s0 n x:=by
 unfold C9
 constructor
 ·rintro (⟨-,h⟩ | ⟨h,-⟩)
  ·exact h
  ·omega
 ·exact fun h=>.inl ⟨by omega,h⟩
end
end
end
end Go.Proofs.YtlbbdpkjeeiahaaGreatDoor
end
section
namespace Go.Proofs.YtlbbdpkjeeiahaaGreatDoor.Lb
open Go Go.Ax Go.AxS
def pos:List aL -> aL -> Nat
 | [],_=>0
 | y :: r,x=>if lt y x = true then pos r x + 1 else 0
end Go.Proofs.YtlbbdpkjeeiahaaGreatDoor.Lb
end
section
namespace Go.Proofs.YtlbbdpkjeeiahaaGreatDoor
open Go Go.Ax Go.AxS
structure FaE (E:Env):Prop where
 Pb:E.hspec 4 = none
 sp4:E.spec 4 = none
 fn4:E.fn 4 = some (aA Tryz.f4)
 md4:E.mode 4 = .eU
 TV:∀ {Z:Sg} {K:V -> Sg -> Prop},aB E 11 [] Z K = K (.bool true) Z
section
section
variable {E:Env} {Z:Sg} {K:V -> Sg -> Prop}
theorem A4 {nx nx':aL -> List aL} (hr:∀ x y,x ∈ nx y -> y ∈ nx' x) {a c:aL}:∀ (n:Nat) {m:Nat} {b:aL},Rk nx (fun x=>x = a) n b -> Rk nx' (fun x=>x = c) m b -> ∃ k,Rk nx' (fun x=>x = c) k a
 | 0,m,b,h,h'=>⟨m,by rw [<- show b = a from h]; exact h'⟩
 | n + 1,m,b,.inl h,h'=>A4 hr n h h'
 | n + 1,m,b,.inr ⟨y,hy,hb⟩,h'=>A4 hr n (m:=m + 1) hy (.inr ⟨b,h',hr b y hb⟩)
theorem DF {rs:List aG} (x y:aL):x ∈ uY rs y ↔ y ∈ uS rs x:=by rw [zB,zA]
theorem KN {rs:List aG} (a b:aL):(∃ n,Rk (uY rs) (fun x=>x = a) n b) ↔ ∃ n,Rk (uS rs) (fun x=>x = b) n a:=
 ⟨fun ⟨n,h⟩=>A4 (fun x y=>(DF x y).1) n h (m:=0) rfl,fun ⟨n,h⟩=>A4 (fun x y=>(DF y x).2) n h (m:=0) rfl⟩
end
end
section
structure TR (E:Env):Prop where
 hs5:E.hspec 5 = none
 Pa:E.spec 5 = none
 fn5:E.fn 5 = some (aA Tryz.f5)
 md5:E.mode 5 = .eU
 hs27:E.hspec 27 = none
 MA:E.spec 27 = none
 fn27:E.fn 27 = some (aA Tryz.f27)
 md27:E.mode 27 = .eU
 z5_7:gJ E (opsOf (cutAt [1,1,1,1,1,0,1,0,0] (aA Tryz.f5).code)) = .no
 p5_7:cM E .no (opsOf (cutAt [1,1,1,1,1,0,1,0,0] (aA Tryz.f5).code)) = some [⟨2,6,true,false⟩]
 z5_8:gJ E (opsOf (cutAt [1,1,1,1,1,1,0] (aA Tryz.f5).code)) = .lit
 p5_8:cM E .lit (opsOf (cutAt [1,1,1,1,1,1,0] (aA Tryz.f5).code)) = some []
 TV:∀ {Z:Sg} {K:V -> Sg -> Prop},aB E 11 [] Z K = K (.bool true) Z
section
variable {E:Env} {Z:Sg} {K:V -> Sg -> Prop}
theorem YF (h:bM E) (bk:TR E) (b:Bool):aB E 27 [.bool b] Z K = K (.int .i64 (if b = true then 1 else 0)) Z:=by
 refine aB.of ?_
 have e1:aT Z E.ty true (.bool b) = some (.bool b):=rfl
 rw [aH bk.hs27 bk.MA bk.fn27 bk.md27 (args':=[.bool b]) (by simp only [aX,e1]),aZ (by kernel_rfl)]
 cases b
 ·simp only [aA,Tryz.f27,KP,↓reduceIte,reduceLT,reduceCtorEq]
  exact rfl
 ·simp only [aA,Tryz.f27,KP,↓reduceIte,reduceLT,reduceCtorEq]
  exact rfl
end
end
section
section
variable {E:Env} {Z:Sg} {K:V -> Sg -> Prop}
def J3 (es:List (V × V)) (D ns:List aU):List aU:=ns.filter fun x=>!decide (x ∈ D) && (bO es x).all fun y=>decide (y ∈ D)
structure IW (es:List (V × V)) (ns:List aU) (o:List (List aU)):Prop where
 fr:∀ (d:Nat) (l:List aU),o[d]? = some l -> l.Perm (J3 es (o.take d).flatten ns)
 ne:∀ l ∈ o,l ≠ []
theorem Nt {es:List (V × V)} {D ns:List aU} {x:aU}:x ∈ J3 es D ns ↔ x ∈ ns /\ x ∉ D /\ ∀ y ∈ bO es x,y ∈ D:=by
 unfold J3
 rw [List.mem_filter,Bool.and_eq_true,Bool.not_eq_true',decide_eq_false_iff_not,List.all_eq_true]
 simp only [decide_eq_true_eq]
theorem IW.nil {es:List (V × V)} {ns:List aU}:IW es ns []:=⟨fun d l h=>by simp at h,fun l h=>by cases h⟩
theorem IW.snoc {es:List (V × V)} {ns:List aU} {o:List (List aU)} (h:IW es ns o) {l:List aU} (hp:l.Perm (J3 es o.flatten ns)) (hl:l ≠ []):IW es ns (o ++ [l]):=by
 refine ⟨fun d m hm=>?_,fun m hm=>?_⟩
 ·by_cases hd:d < o.length
  ·rw [List.getElem?_append_left hd] at hm
   rw [List.take_append_of_le_length (by omega)]
   exact h.fr d m hm
  ·have hde:d = o.length:=by
    have:=(List.getElem?_eq_some_iff.1 hm).1
    rw [length_append,List.length_singleton] at this
    omega
   subst hde
   rw [List.getElem?_append_right (Nat.le_refl _),Nat.sub_self] at hm
   cases hm
   rw [List.take_append_of_le_length (Nat.le_refl _),take_of_length_le (Nat.le_refl _)]
   exact hp
 ·rcases mem_append.1 hm with hm | hm
  ·exact h.ne m hm
  ·rw [mem_singleton.1 hm]; exact hl
theorem Kx {o:List (List aU)} {d:Nat} {l:List aU} (h:o[d]? = some l):(o.take (d + 1)).flatten = (o.take d).flatten ++ l:=by
 rw [List.take_add_one,h,List.flatten_append]
 simp
theorem JU {o:List (List aU)} {d:Nat} {x:aU} (h:x ∈ (o.take d).flatten):∃ e l,e < d /\ o[e]? = some l /\ x ∈ l:=by
 obtain ⟨l,hl,hx⟩:=List.mem_flatten.1 h
 obtain ⟨e,he⟩:=List.mem_iff_getElem?.1 hl
 have hed:e < d:=by have:=(List.getElem?_eq_some_iff.1 he).1; rw [List.length_take] at this; omega
 rw [List.getElem?_take_of_lt hed] at he
 exact ⟨e,l,hed,he,hx⟩
theorem I5 {o:List (List aU)} {d e:Nat} {l:List aU} {x:aU} (hed:e < d) (he:o[e]? = some l) (hx:x ∈ l):x ∈ (o.take d).flatten:=
 List.mem_flatten.2 ⟨l,List.mem_of_getElem? (i:=e) (by rw [List.getElem?_take_of_lt hed]; exact he),hx⟩
theorem IW.sub {es:List (V × V)} {ns:List aU} {o:List (List aU)} (h:IW es ns o) {d:Nat} {l:List aU} (hl:o[d]? = some l):∀ x ∈ l,x ∈ ns /\ x ∉ (o.take d).flatten /\ ∀ y ∈ bO es x,y ∈ (o.take d).flatten:=fun x hx=>
 Nt.1 ((h.fr d l hl).mem_iff.1 hx)
theorem IW.nodup {es:List (V × V)} {ns:List aU} {o:List (List aU)} (h:IW es ns o) (hn:ns.Nodup):∀ d,d <= o.length -> (o.take d).flatten.Nodup
 | 0,_=>List.nodup_nil
 | d + 1,hd=>by
  obtain ⟨l,hl⟩:∃ l,o[d]? = some l:=⟨_,List.getElem?_eq_getElem (show d < o.length by omega)⟩
  rw [Kx hl,List.nodup_append]
  refine ⟨h.nodup hn d (by omega),(h.fr d l hl).nodup_iff.2 (hn.sublist (List.filter_sublist ..)),fun x hx y hy e=>(h.sub hl y hy).2.1 ?_⟩
  rw [<- e]; exact hx
theorem IW.all {es:List (V × V)} {ns:List aU} {o:List (List aU)} (h:IW es ns o) (hn:ns.Nodup):o.flatten.Nodup /\ ∀ x ∈ o.flatten,x ∈ ns:=by
 refine ⟨?_,fun x hx=>?_⟩
 ·have:=h.nodup hn o.length (Nat.le_refl _)
  rwa [take_of_length_le (Nat.le_refl _)] at this
 ·rw [<- take_of_length_le (l:=o) (Nat.le_refl o.length)] at hx
  obtain ⟨e,l,-,he,hxl⟩:=JU hx
  exact (h.sub he x hxl).1
theorem IW.one {es:List (V × V)} {ns:List aU} {o:List (List aU)} (h:IW es ns o) {d e:Nat} {l m:List aU} {x:aU} (hl:o[d]? = some l) (hm:o[e]? = some m) (hx:x ∈ l) (hy:x ∈ m):d = e:=by
 rcases Nat.lt_trichotomy d e with hd | hd | hd
 ·exact absurd (I5 hd hl hx) (h.sub hm x hy).2.1
 ·exact hd
 ·exact absurd (I5 hd hm hy) (h.sub hl x hx).2.1
theorem IW.ahead {es:List (V × V)} {ns:List aU} {o:List (List aU)} (h:IW es ns o) {d e:Nat} {l m:List aU} {x y:aU} (hl:o[d]? = some l) (hx:x ∈ l) (hy:y ∈ bO es x) (hm:o[e]? = some m) (hym:y ∈ m):e < d:=by
 obtain ⟨e',m',hlt,he',hy'⟩:=JU ((h.sub hl x hx).2.2 y hy)
 rw [h.one hm he' hym hy']
 exact hlt
def SN (E:Env) (es:List (V × V)) (D:List aU):Prop:=SB E es (fun x=>decide (x ∈ D)) /\ es.length = D.length
end
end
section
section
variable {E:Env} {Z:Sg} {K:V -> Sg -> Prop}
def Rw (t:Nat) (Z:Sg) (w:V) (vs:List V):Prop:=(w = .aD /\ vs = []) \/ ∃ b ex,w = .sl b 0 vs.length none /\ Z[b]? = some (.cells t vs ex)
theorem Rw.keep {t:Nat} {Z σ':Sg} {w:V} {vs:List V} (h:Rw t Z w vs) (k:∀ c o,aQ w = some c -> Z[c]? = some o -> σ'[c]? = some o):Rw t σ' w vs:=by
 rcases h with h | ⟨b,ex,rfl,hb⟩
 ·exact .inl h
 ·exact .inr ⟨b,ex,rfl,k b _ rfl hb⟩
def LsO (Y:Sg) (w:V) (o:List (List aU)):Prop:=∃ us,Rw 28 Y w us /\ eR (fun u l=>bF aK 9 Y u l) us o
def tU (N:Nat) (Y τ':Sg):Prop:=∀ (c:Nat) (o:O),c < N -> c ≠ 0 -> Y[c]? = some o -> τ'[c]? = some o
theorem tU.refl (N:Nat) (Y:Sg):tU N Y Y:=fun _ _ _ _ h=>h
theorem tU.trans {N:Nat} {Y τ' τ'':Sg} (h:tU N Y τ') (h2:tU N τ' τ''):tU N Y τ'':=fun c o hc h0 e=>h2 c o hc h0 (h c o hc h0 e)
theorem tU.app (N:Nat) (Y:Sg) (y:O):tU N Y (Y ++ [y]):=fun c o _ _ e=>aM e
theorem tU.sp {N:Nat} {Y τ':Sg} {w:V} (h:Sp Y τ' w) (hw:∀ b,aQ w = some b -> N <= b):tU N Y τ':=fun c o hc _ e=>h c o e fun e2=>by have:=hw c e2; omega
theorem LsO.keep {Y τ':Sg} {w:V} {o:List (List aU)} {m:List (V × V)} (h:LsO Y w o) (h0:Y[0]? = some (.map m)) (k:tU Y.length Y τ'):LsO τ' w o:=by
 obtain ⟨us,h1,h2⟩:=h
 refine ⟨us,h1.keep fun c y hc e=>k c y (List.getElem?_eq_some_iff.1 e).1 (fun e0=>?_) e,?_⟩
 ·subst e0
  rcases h1 with ⟨rfl,-⟩ | ⟨b,ex,rfl,hb⟩
  ·cases hc
  ·cases hc
   rw [h0] at hb
   cases hb
 ·clear h1
  induction h2 with
  | nil=>exact .nil
  | cons p _ ih=>
   refine .cons (p.keep fun c y hc e=>k c y (List.getElem?_eq_some_iff.1 e).1 (fun e0=>?_) e) ih
   subst e0
   exact H8 h0 p hc
structure LX (E:Env) (Y:Sg) (D:List aU):Prop where
 b1:Y[1]? = some (.cells 98 [.mp 0] true)
 b0:∃ e1,Y[0]? = some (.map e1) /\ SN E e1 D
theorem LX.app {Y:Sg} {D:List aU} (h:LX E Y D) (y:O):LX E (Y ++ [y]) D:=by
 obtain ⟨e1,h1,h2⟩:=h.b0
 exact ⟨aM h.b1,e1,aM h1,h2⟩
theorem LX.sp {Y τ':Sg} {D:List aU} {w:V} {l:List aU} (h:LX E Y D) (ow:bF aK 9 Y w l) (sp:Sp Y τ' w):LX E τ' D:=by
 obtain ⟨e1,h1,h2⟩:=h.b0
 exact ⟨sp _ _ h.b1 (jY h.b1 (by decide) ow),e1,sp _ _ h1 (H8 h1 ow),h2⟩
end
end
section
section
variable {E:Env} {Z:Sg} {K:V -> Sg -> Prop}
theorem SN.perm {es:List (V × V)} {D D':List aU} (h:SN E es D) (hp:D'.Perm D):SN E es D':=
 ⟨h.1.congr fun x=>decide_eq_decide.2 hp.mem_iff.symm,h.2.trans hp.length_eq.symm⟩
end
end
structure LvE (E:Env):Prop where
 hs7:E.hspec 7 = none
 sp7:E.spec 7 = none
 fn7:E.fn 7 = some (aA Tryz.f7)
 md7:E.mode 7 = .eU
 d7_28:aO E (cutAt [1,1,1,1,1,1,1,0,1,2,2,1,1,0,2,1,1,1,1,2,2,1,1,0,2,1,1,1,1,0,1,2,2,1,1,0,2,1,1,1,2,2,1,1,0,2,1,0] (aA Tryz.f7).code) = true
 TV:∀ {Z:Sg} {K:V -> Sg -> Prop},aB E 11 [] Z K = K (.bool true) Z
end Go.Proofs.YtlbbdpkjeeiahaaGreatDoor
end
section
namespace Go.Proofs.YtlbbdpkjeeiahaaGreatDoor
open Go Go.Ax
theorem begL {Z:Sg} {K:V -> Sg -> Prop}:aB LE 11 [] Z K = K (.bool true) Z:=sN (s:=bI t11) (args':=[]) (v:=.bool true) (by kernel_rfl) (by kernel_rfl) rfl (by kernel_rfl) rfl
theorem SJ:bM LE:=by constructor <;> kernel_rfl
theorem SL:sD LE:=by constructor <;> kernel_rfl
theorem P5:Lb.dP LE:=by constructor <;> kernel_rfl
theorem SO:Hw LE:=by constructor <;> kernel_rfl
theorem SK:O_ LE:=by constructor <;> kernel_rfl
theorem SP:TR LE:=by constructor <;> first | kernel_rfl | exact begL
end Go.Proofs.YtlbbdpkjeeiahaaGreatDoor
end
section
namespace Go.Proofs.YtlbbdpkjeeiahaaGreatDoor
open Go Go.Ax Go.AxS
section
section
variable {E:Env} {Z:Sg} {K:V -> Sg -> Prop}
theorem I1 (h:bM E) (h':sD E) (hl:Lb.dP E) (q:Hw E) (rc:O_ E) (bk:TR E) {g:V} {rs:List aG} (hg:IX E rs g) (hf:Fits rs) (x:aL) (Z:Sg):∃ n,∀ m,n <= m -> fR E (ev E m) 26 [g,.agg [.bool x.1,.str x.2]] Z = some (.int .i64 (kindOf rs x),Z):=by
 obtain ⟨n,v,Y,⟨e1,e2⟩,c⟩:=aB.up (show aB E 26 [g,.agg [.bool x.1,.str x.2]] Z fun v σ'=>v = .int .i64 (kindOf rs x) /\ σ' = Z by rw [Bc h h' hl q hg hf]; exact ⟨rfl,rfl⟩)
 rw [e1,e2] at c
 exact ⟨n,c⟩
theorem Mb (h:bM E) (bk:TR E) (b:Bool) (Z:Sg):∃ n,∀ m,n <= m -> fR E (ev E m) 27 [.bool b] Z = some (.int .i64 (if b = true then 1 else 0),Z):=by
 obtain ⟨n,v,Y,⟨e1,e2⟩,c⟩:=aB.up (show aB E 27 [.bool b] Z fun v σ'=>v = .int .i64 (if b = true then 1 else 0) /\ σ' = Z by rw [YF h bk]; exact ⟨rfl,rfl⟩)
 rw [e1,e2] at c
 exact ⟨n,c⟩
theorem EJ {nx:aL -> List aL} {s0:aL -> Prop} (h0:∀ x,¬ s0 x):∀ (n:Nat) {x:aL},¬ Rk nx s0 n x
 | 0,_,h=>h0 _ h
 | n + 1,_,.inl h=>EJ h0 n h
 | n + 1,_,.inr ⟨y,hy,_⟩=>EJ h0 n hy
theorem Pf (a:aL):qV 12 (.agg [.bool a.1,.str a.2]) (.agg [.bool a.1,.str a.2]) = true:=by
 show o_ (qV 11) [.bool a.1,.str a.2] [.bool a.1,.str a.2] = true
 simp only [o_,wG,Bool.and_true]
 cases a.1 <;> rfl
theorem YC (h:bM E) (h':sD E) (hl:Lb.dP E) (q:Hw E) (rc:O_ E) (bk:TR E) {g:V} {rs:List aG} (hg:IX E rs g) (hf:Fits rs) {Y:Sg} {a:aL} {n0:Nat} (ha:Y[n0]? = some (O.cells 46 [.bool a.1,.str a.2] true)) (F:FT) (g4:F.get 4 = .ref n0 0) (g8:F.get 8 = g) {st:List kA} {Q:Ax.X -> Fr -> Sg -> Prop}
  (hk:∀ F' τ',F'.get 6 = .bool true -> M E st .normal ⟨53,F'⟩ τ' Q):Ax.R E (.region 7 (opsOf (cutAt [1,1,1,1,1,0,1,0,0] (aA Tryz.f5).code)) true) st ⟨53,F⟩ Y Q:=by
 have hsv:LS iE 46 (Y ++ [O.cells 46 [.bool a.1,.str a.2] true]) (.sl Y.length 0 1 none) [a]:=.inr ⟨Y.length,_,_,[row a],rfl,aP,.one rfl,rfl⟩
 obtain ⟨n1,v1,τ1,⟨e1,l,hv,hup,hsub,hr⟩,c1⟩:=aB.up (OJ h h' hl q rc hg hf (bC:=-1) (by decide) (by decide) hsv (by simp))
 rw [e1] at c1
 obtain ⟨n2,c2⟩:=I1 h h' hl q rc bk hg hf a Y
 obtain ⟨n3,c3⟩:=I1 h h' hl q rc bk hg hf a (Y ++ [O.cells 46 [.bool a.1,.str a.2] true])
 obtain ⟨n4,c4⟩:=Mb h bk (decide (kindOf rs a = 0)) Y
 obtain ⟨n5,c5⟩:=Mb h bk (decide (kindOf rs a = 0)) (Y ++ [O.cells 46 [.bool a.1,.str a.2] true])
 have c1:=c1 (n1 + n2 + n3 + n4 + n5) (by omega)
 have c2:=c2 (n1 + n2 + n3 + n4 + n5) (by omega)
 have c3:=c3 (n1 + n2 + n3 + n4 + n5) (by omega)
 have c4:=c4 (n1 + n2 + n3 + n4 + n5) (by omega)
 have c5:=c5 (n1 + n2 + n3 + n4 + n5) (by omega)
 generalize n1 + n2 + n3 + n4 + n5 = n at c1 c2 c3 c4 c5
 have ha1:=aM (x:=O.cells 46 [.bool a.1,.str a.2] true) ha
 have hvi:=hv.isf.is
 have len:=xM h hvi
 have vl:qV 12 (.agg [.bool a.1,.str a.2]) (.agg [.bool a.1,.str a.2]) = true:=Pf a
 have hz:decide (wr .i64 ((l.length:Int) * (if decide (kindOf rs a = 0) = true then 1 else 0)) = 0) = true:=by
  refine decide_eq_true ?_
  by_cases hx:a ∈ jR rs
  ·rw [decide_eq_false (JO hx),if_neg (by decide),Int.mul_zero]; rfl
  ·have h0:l = []:=List.eq_nil_iff_forall_not_mem.2 fun x hx2=>by
    obtain ⟨k,hk⟩:=ED.1 ((hr x).1 hx2)
    exact EJ (fun y (hy:y ∈ [a] /\ y ∈ jR rs)=>hx (by rw [<- mem_singleton.1 hy.1]; exact hy.2)) k hk
   rw [h0,length_nil]
   show wr .i64 (0 * _) = 0
   rw [Int.zero_mul]; rfl
 have key:∃ F' τ',cE E (ev E n) (opsOf (cutAt [1,1,1,1,1,0,1,0,0] (aA Tryz.f5).code)) ⟨53,F⟩ Y = some (⟨53,F'⟩,τ') /\ F'.get 6 = .bool true:=by
  unfold cE
  rw [bk.z5_7,bk.p5_7]
  simp only [aA,Tryz.f5,KP,Ax.loadAt,↓reduceIte,reduceEqDiff,reduceLT,reduceLeDiff,reduceAdd,reduceMul,reduceNeg,h.oW,h.eM,opsOf,cutAt,Fz.lits,gZ,bJ,bX,jV,Ax.comp,Ax.last,hU,Ax.again,aR,g4,g8,ha,ha1,c1,c3,c5,oO,len,vl,hz]
  exact ⟨_,_,rfl,(by simp +decide only [GS])⟩
 obtain ⟨F',τ',hD,hF⟩:=key
 exact Eq.mpr (gY hD) (hk F' τ' hF)
theorem JW {l:List aL} {s:aL}:decide (0 <= idx (bE (fun x=>decide (x = s)) l)) = decide (s ∈ l) /\ decide (idx (bE (fun x=>decide (x = s)) l) < 0) = !decide (s ∈ l):=by
 by_cases hs:s ∈ l
 ·have h1:=Qn hs
  rw [decide_eq_true hs,h1]
  exact ⟨decide_eq_true (by have:=of_decide_eq_false h1; omega),rfl⟩
 ·have h1:=NW hs
  rw [decide_eq_false hs,h1]
  exact ⟨decide_eq_false (by have:=of_decide_eq_true h1; omega),rfl⟩
theorem Jz {rs:List aG} {a:aL} (hax:a ∈ jR rs):(fun x=>x ∈ [a] /\ x ∈ jR rs) = fun x=>x = a:=funext fun x=>propext ⟨fun h=>mem_singleton.1 h.1,fun h=>by subst h; exact ⟨mem_singleton.2 rfl,hax⟩⟩
theorem YB (h:bM E) (h':sD E) (hl:Lb.dP E) (q:Hw E) (rc:O_ E) (bk:TR E) {g:V} {rs:List aG} (hg:IX E rs g) (hf:Fits rs) {Y:Sg} {a b:aL} {n0 m0:Nat} (ha:Y[n0]? = some (O.cells 46 [.bool a.1,.str a.2] true)) (hb:Y[m0]? = some (O.cells 46 [.bool b.1,.str b.2] true)) (hax:a ∈ jR rs) (hbx:b ∈ jR rs) (F:FT) (g4:F.get 4 = .ref n0 0) (g5:F.get 5 = .ref m0 0) (g8:F.get 8 = g) {st:List kA} {Q:Ax.X -> Fr -> Sg -> Prop}
  (hk:∀ F' τ',F'.get 6 = .bool true -> M E st .normal ⟨53,F'⟩ τ' Q):Ax.R E (.region 8 (opsOf (cutAt [1,1,1,1,1,1,0] (aA Tryz.f5).code)) true) st ⟨53,F⟩ Y Q:=by
 have sa:LS iE 46 Y (.bR false [[.bool a.1,.str a.2]] true) [a]:=.inl (.inr ⟨false,[row a],true,rfl,.one rfl⟩)
 have sb:LS iE 46 Y (.bR false [[.bool b.1,.str b.2]] true) [b]:=.inl (.inr ⟨false,[row b],true,rfl,.one rfl⟩)
 obtain ⟨n1,v1,τ1,⟨e1,l1,hv1,hu1,hs1,hr1⟩,c1⟩:=aB.up (OJ h h' hl q rc hg hf (bC:=-1) (by decide) (by decide) sa (by simp))
 obtain ⟨n2,v2,τ2,⟨e2,l2,hv2,hu2,hs2,hr2⟩,c2⟩:=aB.up (Rf h h' hl q rc hg hf sb (by simp))
 rw [e1] at c1
 rw [e2] at c2
 have hl1:=Nat.le_trans (kG hu1.nodup hs1) (yC hf)
 have hl2:=Nat.le_trans (kG hu2.nodup hs2) (yC hf)
 rw [Jz hax] at hr1
 rw [Jz hbx] at hr2
 have hiff:b ∈ l1 ↔ a ∈ l2:=by
  rw [hr1,hr2]
  exact ED.trans ((KN a b).trans ED.symm)
 obtain ⟨n3,v3,τ3,⟨e3,e3'⟩,c3⟩:=aB.up (show aB E 28 [v1,.agg [.bool b.1,.str b.2]] Y fun v σ'=>v = .int .i64 (idx (bE (fun x=>decide (x = b)) l1)) /\ σ' = Y by rw [Kg h hl (hv1.isf.is.ls Y 46) (by omega)]; exact ⟨rfl,rfl⟩)
 obtain ⟨n4,v4,τ4,⟨e4,e4'⟩,c4⟩:=aB.up (show aB E 28 [v2,.agg [.bool a.1,.str a.2]] Y fun v σ'=>v = .int .i64 (idx (bE (fun x=>decide (x = a)) l2)) /\ σ' = Y by rw [Kg h hl (hv2.isf.is.ls Y 46) (by omega)]; exact ⟨rfl,rfl⟩)
 rw [e3,e3'] at c3
 rw [e4,e4'] at c4
 have c1:=c1 (n1 + n2 + n3 + n4) (by omega)
 have c2:=c2 (n1 + n2 + n3 + n4) (by omega)
 have c3:=c3 (n1 + n2 + n3 + n4) (by omega)
 have c4:=c4 (n1 + n2 + n3 + n4) (by omega)
 generalize n1 + n2 + n3 + n4 = n at c1 c2 c3 c4
 have i1:=(JW (l:=l1) (s:=b))
 have i2:=(JW (l:=l2) (s:=a))
 rw [show decide (a ∈ l2) = decide (b ∈ l1) from decide_eq_decide.2 hiff.symm] at i2
 generalize idx (bE (fun x=>decide (x = b)) l1) = k1 at c3 i1
 generalize idx (bE (fun x=>decide (x = a)) l2) = k2 at c4 i2
 generalize decide (b ∈ l1) = p at i1 i2
 obtain ⟨i1,i1'⟩:=i1
 obtain ⟨i2,i2'⟩:=i2
 have e4:∀ x:Bool,nC E 4 false (.bool x) (.bool x) = some true:=fun x=>by unfold nC; simp only [h.Df,beq_self_eq_true]
 have tb:∀ x:Bool,cK false (V.bool x) = true:=fun _=>rfl
 have ts:∀ x:aU,cK false (V.str x) = true:=fun _=>rfl
 have key:∃ F' τ',cE E (ev E n) (opsOf (cutAt [1,1,1,1,1,1,0] (aA Tryz.f5).code)) ⟨53,F⟩ Y = some (⟨53,F'⟩,τ') /\ F'.get 6 = .bool true:=by
  unfold cE
  rw [bk.z5_8,bk.p5_8]
  cases p
  ·simp only [aA,Tryz.f5,KP,Ax.loadAt,↓reduceIte,reduceEqDiff,reduceLT,reduceLeDiff,reduceAdd,reduceMul,reduceNeg,h.oW,h.eM,opsOf,cutAt,Fz.lits,bJ,bX,jV,Ax.comp,xL,fK,Ax.rows,g4,g5,g8,ha,hb,c1,c2,c3,c4,i1,i2,e4,tb,ts,oO]
   exact ⟨_,_,rfl,(by simp +decide only [GS])⟩
  ·simp only [aA,Tryz.f5,KP,Ax.loadAt,↓reduceIte,reduceEqDiff,reduceLT,reduceLeDiff,reduceAdd,reduceMul,reduceNeg,h.oW,h.eM,opsOf,cutAt,Fz.lits,bJ,bX,jV,Ax.comp,xL,fK,Ax.rows,g4,g5,g8,ha,hb,c1,c2,c3,c4,i1,i2,e4,tb,ts,oO]
   exact ⟨_,_,rfl,(by simp +decide only [GS])⟩
 obtain ⟨F',τ',hD,hF⟩:=key
 exact Eq.mpr (gY hD) (hk F' τ' hF)
end
end
section
section
variable {E:Env} {Z:Sg} {K:V -> Sg -> Prop}
theorem G6 (h:bM E) (h':sD E) (hl:Lb.dP E) (q:Hw E) (rc:O_ E) (bk:TR E) {a:V} {rs:List aG} (ha:LS dW 37 Z a rs) (hraw:∀ x ∈ rs,Raw x) {x1:Bool} {s1:aU} (h1:s1.length <= 9223372036854775806) {x2:Bool} {s2:aU} (h2:s2.length <= 9223372036854775806):aB E 5 [a,.agg [.bool x1,.str s1],.agg [.bool x2,.str s2]] Z K = K (.bool true) Z:=by
 refine aB.of ?_
 obtain ⟨a',ea,ia⟩:=eS h ha
 have e1:aT Z E.ty true (.agg [.bool x1,.str s1]) = some (.agg [.bool x1,.str s1]):=rfl
 have e2:aT Z E.ty true (.agg [.bool x2,.str s2]) = some (.agg [.bool x2,.str s2]):=rfl
 rw [aH bk.hs5 bk.Pa bk.fn5 bk.md5 (args':=[a',.agg [.bool x1,.str s1],.agg [.bool x2,.str s2]]) (by simp only [aX,ea,e1,e2]),aZ (by kernel_rfl)]
 have kb:=fun (Y:Sg)=>dM fun K=>bk.TV (Z:=Y) (K:=K)
 have r7:=fun {g} {l} hg hf {Y} ha F g4 g8 st Q hk=>YC (g:=g) (rs:=l) (Y:=Y) (a:=(x1,s1)) (n0:=0) h h' hl q rc bk hg hf ha F g4 g8 (st:=st) (Q:=Q) hk
 have r8:=fun {g} {l} hg hf {Y} ha hb hax hbx F g4 g5 g8 st Q hk=>YB (g:=g) (rs:=l) (Y:=Y) (a:=(x1,s1)) (b:=(x2,s2)) (n0:=0) (m0:=1) h h' hl q rc bk hg hf ha hb hax hbx F g4 g5 g8 (st:=st) (Q:=Q) hk
 rw [show (aA Tryz.f5).code = .seq (cutAt [0] (aA Tryz.f5).code) (.seq (cutAt [1,0] (aA Tryz.f5).code) (.seq (cutAt [1,1,0] (aA Tryz.f5).code) (.seq (cutAt [1,1,1,0] (aA Tryz.f5).code) (.seq (cutAt [1,1,1,1,0] (aA Tryz.f5).code) (.seq (.seq (cutAt [1,1,1,1,1,0,0] (aA Tryz.f5).code) (.cond (.tmp 25) (.seq (cutAt [1,1,1,1,1,0,1,0,0] (aA Tryz.f5).code) .ret) .skip)) (.seq (cutAt [1,1,1,1,1,1,0] (aA Tryz.f5).code) .ret)))))) from rfl]
 rw [show cutAt [1,1,1,1,1,0,1,0,0] (aA Tryz.f5).code = .region 7 (opsOf (cutAt [1,1,1,1,1,0,1,0,0] (aA Tryz.f5).code)) true from rfl,show cutAt [1,1,1,1,1,1,0] (aA Tryz.f5).code = .region 8 (opsOf (cutAt [1,1,1,1,1,1,0] (aA Tryz.f5).code)) true from rfl]
 generalize opsOf (cutAt [1,1,1,1,1,0,1,0,0] (aA Tryz.f5).code) = O7 at r7 ⊢
 generalize opsOf (cutAt [1,1,1,1,1,1,0] (aA Tryz.f5).code) = O8 at r8 ⊢
 simp only [aA,Tryz.f5,KP,↓reduceIte,reduceEqDiff,reduceLT,reduceAdd,reduceCtorEq,reduceNeg,h.eM,cutAt,kb]
 refine aN (TH h (ia.ls _ 37) hraw) ?_
 rintro v σ' ⟨rfl,l,iv,hok,hl14,hsm⟩
 have iv':IS dW v l:=rK iv.is vK
 have hf:Fits l:=⟨hok,hsm⟩
 simp only [KP,↓reduceIte,reduceLT]
 refine aN (IG h h' hl (iv'.ls _ 37) hsm (by omega)) ?_
 rintro g σ' ⟨rfl,⟨hno,-⟩ | ⟨-,hg⟩⟩
 ·exact absurd hok hno
 have k1:=fun (Y:Sg)=>dM fun K=>Bc (Z:=Y) (K:=K) h h' hl q hg hf (x1,s1)
 have k2:=fun (Y:Sg)=>dM fun K=>Bc (Z:=Y) (K:=K) h h' hl q hg hf (x2,s2)
 dsimp only at k1 k2
 have i0:([O.cells 46 [.bool x1,.str s1] true,O.cells 46 [.bool x2,.str s2] true]:Sg)[0]? = some (O.cells 46 [.bool x1,.str s1] true):=rfl
 have i1:([O.cells 46 [.bool x1,.str s1] true,O.cells 46 [.bool x2,.str s2] true]:Sg)[1]? = some (O.cells 46 [.bool x2,.str s2] true):=rfl
 by_cases hz:kindOf l (x1,s1) = 0 \/ kindOf l (x2,s2) = 0
 ·have hd:(decide (kindOf l (x1,s1) = 0) = true /\ True) \/ (decide (kindOf l (x1,s1) = 0) = false /\ decide (kindOf l (x2,s2) = 0) = true):=by
   by_cases h0:kindOf l (x1,s1) = 0
   ·exact .inl ⟨decide_eq_true h0,trivial⟩
   ·exact .inr ⟨decide_eq_false h0,decide_eq_true (hz.resolve_left h0)⟩
  rcases hd with ⟨hd,-⟩ | ⟨hd,hd2⟩
  ·simp only [KP,Ax.loadAt,↓reduceIte,reduceEqDiff,reduceLT,reduceAdd,reduceCtorEq,h.eM,k1,hd,i0]
   refine r7 hg hf i0 _ ?_ ?_ _ _ (fun F' τ' h6=>?_)
   ·simp +decide only [GS]
   ·simp +decide only [GS]
   simp only [KP,↓reduceIte,reduceLT,h6,cP,aT]
   exact rfl
  ·simp only [KP,Ax.loadAt,↓reduceIte,reduceEqDiff,reduceLT,reduceAdd,reduceCtorEq,h.eM,k1,k2,hd,hd2,i0,i1]
   refine r7 hg hf i0 _ ?_ ?_ _ _ (fun F' τ' h6=>?_)
   ·simp +decide only [GS]
   ·simp +decide only [GS]
   simp only [KP,↓reduceIte,reduceLT,h6,cP,aT]
   exact rfl
 ·have hd:=decide_eq_false (fun e=>hz (.inl e))
  have hd2:=decide_eq_false (fun e=>hz (.inr e))
  have hin:∀ x,kindOf l x ≠ 0 -> x ∈ jR l:=fun x hx=>Classical.byContradiction fun hn=>hx (Gp hn)
  simp only [KP,Ax.loadAt,↓reduceIte,reduceEqDiff,reduceLT,reduceAdd,reduceCtorEq,h.eM,k1,k2,hd,hd2,i0,i1]
  refine r8 hg hf i0 i1 (hin _ fun e=>hz (.inl e)) (hin _ fun e=>hz (.inr e)) _ ?_ ?_ ?_ _ _ (fun F' τ' h6=>?_)
  ·simp +decide only [GS]
  ·simp +decide only [GS]
  ·simp +decide only [GS]
  simp only [KP,↓reduceIte,reduceLT,h6,cP,aT]
  exact rfl
end
end
theorem CV (a0:V) (l0:List aG) (i0:IS dW a0 l0) (r0:∀ x ∈ l0,Raw x) (x1:Bool) (s1:aU) (h1:s1.length <= 9223372036854775806) (x2:Bool) (s2:aU) (h2:s2.length <= 9223372036854775806):∃ k,Ax.call LE k 5 [a0,.agg [.bool x1,.str s1],.agg [.bool x2,.str s2]] = some (.bool true):=by
 have h:aB LE 5 [a0,.agg [.bool x1,.str s1],.agg [.bool x2,.str s2]] [] (fun v _=>v = .bool true):=by
  rw [G6 SJ SL P5 SO SK SP (i0.ls [] 37) r0 (x1:=x1) (s1:=s1) h1 (x2:=x2) (s2:=s2) h2]
 obtain ⟨n,v,σ',hc,rfl⟩:=h
 refine ⟨n,?_⟩
 have hm:aX (aT [] LE.ty true) [a0,.agg [.bool x1,.str s1],.agg [.bool x2,.str s2]] = some [a0,.agg [.bool x1,.str s1],.agg [.bool x2,.str s2]]:=by
  simp only [aX,nY i0 [],(show aT [] LE.ty true (.agg [.bool x1,.str s1]) = some (.agg [.bool x1,.str s1]) from rfl),(show aT [] LE.ty true (.agg [.bool x2,.str s2]) = some (.agg [.bool x2,.str s2]) from rfl)]
 unfold fR at hc
 rw [show LE.hspec 5 = none by kernel_rfl,show LE.spec 5 = none by kernel_rfl,show LE.fn 5 = some (aA Tryz.f5) by kernel_rfl,show LE.mode 5 = .eU by kernel_rfl] at hc
 simp only [hm] at hc
 unfold Ax.call
 rw [show LE.fn 5 = some (aA Tryz.f5) by kernel_rfl]
 dsimp only
 cases he:enter LE (ev LE n) (aA Tryz.f5) [a0,.agg [.bool x1,.str s1],.agg [.bool x2,.str s2]] [] with
 | none=>rw [he] at hc; cases hc
 | some y=>
  rw [he] at hc
  dsimp only at hc ⊢
  cases hs:cP y.2 LE.ty false y.1 with
  | none=>rw [hs] at hc; cases hc
  | some z=>rw [hs] at hc; cases hc; rfl
end Go.Proofs.YtlbbdpkjeeiahaaGreatDoor
end
