/- Part 19 of the proof. -/
import Derived.Test.YtlbbdpkjeeiahaaGreatDoorZ18
import Derived.Test.YtlbbdpkjeeiahaaGreatDoorZ16
import Derived.Test.YtlbbdpkjeeiahaaGreatDoorZ15
import Derived.Test.YtlbbdpkjeeiahaaGreatDoorZ17
set_option maxHeartbeats 8000000
set_option linter.unusedVariables false
set_option maxRecDepth 100000
open Nat (reduceEqDiff reduceLT reduceAdd reduceLeDiff reduceMul)
open List (length_cons length_nil length_append mem_singleton mem_append take_add_one mem_cons take_of_length_le length_map mem_cons_self mem_map length_take)
open Int (reduceNeg reduceLE)
section
namespace Go.Proofs.YtlbbdpkjeeiahaaGreatDoor
open Go Go.Ax Go.AxS
section
structure Uo (E:Env):Prop where
 hs75:E.hspec 75 = none
 sp75:E.spec 75 = none
 fn75:E.fn 75 = some (aA Tryz.f75)
 md75:E.mode 75 = .eV
 hs21:E.hspec 21 = none
 M9:E.spec 21 = none
 fn21:E.fn 21 = some (aA Tryz.f21)
 md21:E.mode 21 = .eV
 hs29:E.hspec 29 = none
 P6:E.spec 29 = none
 fn29:E.fn 29 = some (aA Tryz.f29)
 md29:E.mode 29 = .eV
section
variable {E:Env} {Z:Sg} {K:V -> Sg -> Prop}
theorem Qv {c:Code} {s:List jO} {w:Nat} {Q:Ax.X -> Fr -> Sg -> Prop} (I:Nat -> FT -> Sg -> Prop)
  (step:∀ n F Y,I n F Y -> (∀ n' F' τ',n' < n -> I n' F' τ' -> Ax.R E (.loop c) s ⟨w,F'⟩ τ' Q) -> Ax.R E (.loop c) s ⟨w,F⟩ Y Q):∀ (n:Nat) (F:FT) (Y:Sg),I n F Y -> Ax.R E (.loop c) s ⟨w,F⟩ Y Q:=by
 intro n
 induction n using Nat.strongRecOn with
 | _ n ih=>exact fun F Y h=>step n F Y h fun n' F' τ' hn h'=>ih n' hn F' τ' h'
theorem LW {Y:Sg} {x:aK} {ex:Bool}:elems (Y ++ [.cells 46 [.bool x.1,.str x.2] ex]) 2 (.sl Y.length 0 1 none) = some ([row x].flatten,[x].length):=by
 simp only [elems,aO]
 rfl
theorem Ir (hl:Lb.cU E):d_ E #[40,40] = true:=by
 unfold d_
 simp only [hl.mK,List.getElem?_toArray,List.getElem?_cons_succ,List.getElem?_cons_zero]
 rfl
theorem KG (hl:Lb.cU E) {Y:Sg} {w:V} {l:List aK} {x:aK} {ex:Bool} (ow:bD jK 46 Y w l) (hb:l.length <= 1000000):∃ w' τ',Ax.append E (Y ++ [.cells 46 [.bool x.1,.str x.2] ex]) #[40,40] w (.sl Y.length 0 1 none) = some (w',τ') /\ bD jK 46 τ' w' (l ++ [x]) /\ Sp (Y ++ [.cells 46 [.bool x.1,.str x.2] ex]) τ' w /\ ∀ c,aQ w' = some c -> aQ w = some c \/ Y.length <= c:=by
 obtain ⟨w',τ',h1,h2,h3,-,h5⟩:=jX (m:=[x]) (new:=[row x]) hl.mK rfl hl.eI rfl (by decide) (Ir hl) rfl (ow.app [.cells 46 [.bool x.1,.str x.2] ex]) LW (.one rfl) (eU (b:=1000001) (by decide) (by simp only [length_cons,length_nil]; omega))
 exact ⟨w',τ',h1,h2,h3,fun c hc=>(h5 c hc).imp id fun h=>by rw [length_append] at h; omega⟩
def Rk (nx:aK -> List aK) (s0:aK -> Prop):Nat -> aK -> Prop
 | 0,x=>s0 x
 | k + 1,x=>Rk nx s0 k x \/ ∃ y,Rk nx s0 k y /\ x ∈ nx y
def uC (nx:aK -> List aK) (s0:aK -> Prop) (bC:Int) (x:aK):Prop:=(bC < 0 /\ ∃ n,Rk nx s0 n x) \/ (0 <= bC /\ Rk nx s0 bC.toNat x)
section
variable {nx:aK -> List aK} {s0:aK -> Prop}
theorem Rk.mono {x : aK} : ∀ {k n : Nat}, k <= n -> Rk nx s0 k x -> Rk nx s0 n x
  | k, 0, h, hx => by obtain rfl : k = 0 := by omega
                      exact hx
  | k, n + 1, h, hx => by
    rcases Nat.lt_or_ge n k with h1 | h1
    · obtain rfl : k = n + 1 := by omega
      exact hx
    · exact .inl (Rk.mono h1 hx)
theorem Rk.closed {k:Nat} (hc:∀ y x,Rk nx s0 k y -> x ∈ nx y -> Rk nx s0 k x):∀ (n:Nat) {x:aK},Rk nx s0 n x -> Rk nx s0 k x
 | 0,_,hx=>Rk.mono (Nat.zero_le k) hx
 | n + 1,_,.inl hx=>Rk.closed hc n hx
 | n + 1,_,.inr ⟨y,hy,hx⟩=>hc y _ (Rk.closed hc n hy) hx
structure Rd (nx:aK -> List aK) (s0:aK -> Prop) (k:Nat) (A now:List aK):Prop where
 all:∀ x,x ∈ A ↔ Rk nx s0 k x
 sub:∀ x,x ∈ now -> x ∈ A
 rest:∀ y,y ∈ A -> y ∉ now -> ∀ x,x ∈ nx y -> x ∈ A
theorem Rd.start {A now:List aK} (h1:∀ x,x ∈ A ↔ s0 x) (h2:∀ x,x ∈ now ↔ x ∈ A):Rd nx s0 0 A now:=⟨h1,fun x h=>(h2 x).1 h,fun y h h'=>absurd ((h2 y).2 h) h'⟩
theorem Rd.next {k:Nat} {A now A' more:List aK} (h:Rd nx s0 k A now) (h1:∀ x,x ∈ A' ↔ x ∈ A \/ ∃ y ∈ now,x ∈ nx y) (h2:∀ x,x ∈ more ↔ x ∈ A' /\ x ∉ A):Rd nx s0 (k + 1) A' more:=by
 have key:∀ y x,y ∈ A -> x ∈ nx y -> x ∈ A':=fun y x hy hx=>by
  by_cases hn:y ∈ now
  ·exact (h1 x).2 (.inr ⟨y,hn,hx⟩)
  ·exact (h1 x).2 (.inl (h.rest y hy hn x hx))
 refine ⟨fun x=>?_,fun x hx=>((h2 x).1 hx).1,fun y hy hn x hx=>?_⟩
 ·constructor
  ·intro hx
   rcases (h1 x).1 hx with hx | ⟨y,hy,hx⟩
   ·exact .inl ((h.all x).1 hx)
   ·exact .inr ⟨y,(h.all y).1 (h.sub y hy),hx⟩
  ·rintro (hx | ⟨y,hy,hx⟩)
   ·exact (h1 x).2 (.inl ((h.all x).2 hx))
   ·exact key y x ((h.all y).2 hy) hx
 ·by_cases hA:y ∈ A
  ·exact key y x hA hx
  ·exact absurd ((h2 y).2 ⟨hy,hA⟩) hn
theorem Rd.bC {k:Nat} {A now:List aK} (h:Rd nx s0 k A now) (x:aK):x ∈ A ↔ uC nx s0 (k:Int) x:=by
 rw [h.all]
 unfold uC
 constructor
 ·exact fun hx=>.inr ⟨by omega,by rw [Int.toNat_natCast]; exact hx⟩
 ·rintro (⟨h1,-⟩ | ⟨-,hx⟩)
  ·omega
  ·rw [Int.toNat_natCast] at hx; exact hx
theorem Rd.still {k:Nat} {A:List aK} {bC:Int} (h:Rd nx s0 k A []) (hk:0 <= bC -> (k:Int) <= bC) (x:aK):x ∈ A ↔ uC nx s0 bC x:=by
 have hc:∀ y x,Rk nx s0 k y -> x ∈ nx y -> Rk nx s0 k x:=fun y x hy hx=>(h.all x).1 (h.rest y ((h.all y).2 hy) (by simp) x hx)
 rw [h.all]
 unfold uC
 constructor
 ·intro hx
  by_cases hf:bC < 0
  ·exact .inl ⟨hf,k,hx⟩
  ·exact .inr ⟨by omega,Rk.mono (by have:=hk (by omega); omega) hx⟩
 ·rintro (⟨-,n,hx⟩ | ⟨-,hx⟩)
  ·exact Rk.closed hc n hx
  ·exact Rk.closed hc _ hx
theorem Rk.sub {P:aK -> Prop} (h0:∀ x,s0 x -> P x) (hn:∀ y x,x ∈ nx y -> P x):∀ (n:Nat) {x:aK},Rk nx s0 n x -> P x
 | 0,_,hx=>h0 _ hx
 | n + 1,_,.inl hx=>Rk.sub h0 hn n hx
 | n + 1,_,.inr ⟨y,_,hx⟩=>hn y _ hx
end
theorem keys_in {A:List aK} {x:aK} (hx:x ∈ A):keys A [x] = A:=if_pos hx
theorem GO {A:List aK} {x:aK} (hx:x ∉ A):keys A [x] = A ++ [x]:=if_neg hx
theorem Wg {Y:Sg} {w:V} {l:List aK} {c:Nat} (ow:bD jK 46 Y w l) (h:aQ w = some c):c < Y.length:=by
 rcases ow with ⟨rfl,-⟩ | ⟨b,rs,ex,rfl,hb,-⟩
 ·cases h
 ·cases h; exact (List.getElem?_eq_some_iff.1 hb).1
theorem NU {Y:Sg} {w:V} {l:List aK} {c:Nat} (ow:bD jK 46 Y w l) (h:∀ u ex,Y[c]? ≠ some (.cells 46 u ex)):aQ w ≠ some c:=by
 rcases ow with ⟨rfl,-⟩ | ⟨b,rs,ex,rfl,hb,-⟩
 ·intro e; cases e
 ·intro e; cases e; exact h _ _ hb
theorem NV {Y τ':Sg} {w:V} {l:List aK} {b m:Nat} {A:List aK} (ow:bD jK 46 Y w l) (hs:Lb.bZ Y b m A) (hk:Lb.Kp Y τ' m):bD jK 46 τ' w l:=ow.keep fun c o hc ho=>hk c o (fun e=>by
 subst e
 exact NU ow (fun u ex e=>by rw [hs.map] at e; cases e) hc) ho
theorem Wf {Y τ':Sg} {w v:V} {l:List aK} (ow:bD jK 46 Y w l) (hne:∀ c,aQ v = some c -> aQ w ≠ some c) (hk:Sp Y τ' v):bD jK 46 τ' w l:=ow.keep fun c o hc ho=>hk c o ho fun e=>hne c e hc
theorem Nr {Y τ':Sg} {w:V} {l:List aK} {b m:Nat} {A:List aK} (hs:Lb.bZ Y b m A) (ow:bD jK 46 Y w l) (hk:Sp Y τ' w):Lb.bZ τ' b m A:=by
 refine ⟨hk _ _ hs.obj (NU ow fun u ex e=>?_),hk _ _ hs.map (NU ow fun u ex e=>?_),hs.nodup⟩
 ·rw [hs.obj] at e; cases e
 ·rw [hs.map] at e; cases e
theorem Ot {Y:Sg} {x:aK}:Lb.SV (Y ++ [.cells 46 [.bool x.1,.str x.2] true]) (.sl Y.length 0 1 none) [x]:=.inr (.inr ⟨Y.length,_,true,rfl,aO,rfl⟩)
end
end
section
section
variable {E:Env} {Z:Sg} {K:V -> Sg -> Prop}
def NxL (E:Env) (k:Nat) (g:V) (nx:aK -> List aK):Prop:=∀ (Z:Sg) (x:aK),aB E k [g,.agg [.bool x.1,.str x.2]] Z fun v σ'=>σ' = Z /\ Jj v (nx x)
structure Ri (nx:aK -> List aK) (all A0:List aK) (P:aK -> Prop) (A more:List aK):Prop where
 mem:∀ x,x ∈ A ↔ x ∈ A0 \/ P x
 new:∀ x,x ∈ more ↔ x ∈ A /\ x ∉ A0
 sub:∀ x,x ∈ A -> x ∈ all
 len:more.length <= A.length
 nd:A.Nodup
 up:A0.length <= A.length /\ (more ≠ [] -> A0.length < A.length)
theorem Ri.le {nx:aK -> List aK} {all A0 A more:List aK} {P:aK -> Prop} (h:Ri nx all A0 P A more) (hal:all.length <= 2000):A.length <= 2000:=Nat.le_trans (fR h.nd h.sub) hal
theorem Ri.old {nx:aK -> List aK} {all A0 A more:List aK} {P P':aK -> Prop} (h:Ri nx all A0 P A more) {x:aK} (hx:x ∈ A) (hP:∀ y,P' y ↔ P y \/ y = x):Ri nx all A0 P' A more:=⟨fun y=>by
 rw [hP,<- or_assoc,<- h.mem]
 exact ⟨.inl,fun h=>h.elim id fun e=>by rw [e]; exact hx⟩,h.new,h.sub,h.len,h.nd,h.up⟩
theorem Ri.fresh {nx:aK -> List aK} {all A0 A more:List aK} {P P':aK -> Prop} (h:Ri nx all A0 P A more) {x:aK} (hx:x ∉ A) (ha:x ∈ all) (hP:∀ y,P' y ↔ P y \/ y = x):Ri nx all A0 P' (A ++ [x]) (more ++ [x]):=by
 have hx0:x ∉ A0:=fun e=>hx ((h.mem x).2 (.inl e))
 refine ⟨fun y=>?_,fun y=>?_,fun y hy=>?_,by simp only [length_append,length_cons,length_nil]; have:=h.len; omega,List.nodup_append.2 ⟨h.nd,List.pairwise_singleton ..,fun a ha b hb e=>hx (by rw [mem_singleton] at hb; rw [<- hb,<- e]; exact ha)⟩,?_⟩
 ·rw [hP,<- or_assoc,<- h.mem,mem_append,mem_singleton]
 ·rw [mem_append,mem_append,mem_singleton,h.new]
  constructor
  ·rintro (⟨h1,h2⟩ | rfl)
   ·exact ⟨.inl h1,h2⟩
   ·exact ⟨.inr rfl,hx0⟩
  ·rintro ⟨h1 | h1,h2⟩
   ·exact .inl ⟨h1,h2⟩
   ·exact .inr h1
 ·rcases mem_append.1 hy with h1 | h1
  ·exact h.sub y h1
  ·rw [mem_singleton.1 h1]; exact ha
 ·have:=h.up.1
  simp only [length_append,length_cons,length_nil]
  exact ⟨by omega,fun _=>by omega⟩
theorem Ri.congr {nx:aK -> List aK} {all A0 A more:List aK} {P P':aK -> Prop} (h:Ri nx all A0 P A more) (hP:∀ y,P' y ↔ P y):Ri nx all A0 P' A more:=⟨fun y=>by rw [hP]; exact h.mem y,h.new,h.sub,h.len,h.nd,h.up⟩
theorem iC {l:List aK} {j:Nat} {x:aK} (hj:l[j]? = some x) (y:aK):y ∈ l.take (j + 1) ↔ y ∈ l.take j \/ y = x:=by
 rw [take_add_one,hj]
 simp
theorem yD (a:Bool) (s:aX):Ax.fill (fun j=>some (j * 2,2)) (fQ 1 [V.bool false,V.str []]) [(0,V.agg [V.bool a,V.str s])] = some [.bool a,.str s]:=rfl
theorem Tj (hl:Lb.cU E) {Y:Sg} {w:V} {l:List aK} (on:bD jK 46 Y w l) {i:Nat} {y:aK} (hy:l[i]? = some y):∃ b o u cs ex,indexAddr E 40 w (.int .i64 (i:Int)) = some (.ref b o) /\ Y[b]? = some (.cells u cs ex) /\ o + 2 <= cs.length /\ (cs.drop o).take 2 = row y:=by
 obtain ⟨p,r0,e1,hr0,-,-,hp⟩:=HB hl.mK rfl hl.eI rfl on.ls hy
 obtain rfl:r0 = row y:=hr0
 rcases hp with ⟨g,rfl⟩ | ⟨b,o,rfl,u,cs,ex,hb,hle,hrow⟩
 ·exfalso
  rcases on with ⟨rfl,rfl⟩ | ⟨b,rs,ex,rfl,hb,-⟩
  ·cases hy
  ·unfold indexAddr at e1
   simp only [hl.mK,hl.eI] at e1
   repeat' split at e1
   all_goals cases e1
 ·exact ⟨b,o,u,cs,ex,e1,hb,hle,hrow⟩
theorem Ta (h:bK E) (h':uX E) (hl:Lb.cU E) (q:PK E) (rc:Uo E) {k b m:Nat} {g:V} {nx:aK -> List aK} (hnx:NxL E k g nx) {all:List aK} (hall:∀ x y,y ∈ nx x -> y ∈ all) (hlen:all.length <= 2000) (hnl:∀ x,(nx x).length <= 2000) {A0 A more now:List aK} {P P':aK -> Prop} {wn wm:V} {i:Nat} {y:aK}
  {Y:Sg} (hs:Lb.bZ Y b m A) (on:bD jK 46 Y wn now) (om:bD jK 46 Y wm more) (hne:∀ c,aQ wm = some c -> aQ wn ≠ some c) (hy:now[i]? = some y) (ri:Ri nx all A0 P A more) (hP:∀ x,P' x ↔ P x \/ x ∈ nx y)
  (F:FT) (g2:F.get 2 = .fn k [g] []) (g9:F.get 9 = .ref b 0) (g13:F.get 13 = wm) (g50:F.get 50 = wn) (g52:F.get 52 = .int .i64 (i:Int)) {st:List jO} {Q:Ax.X -> Fr -> Sg -> Prop}
  (hk:∀ F' τ' wm' A' more',(∀ k,k ∈ [1,2,9,50,51,52] -> F'.get k = F.get k) -> F'.get 13 = wm' -> Lb.bZ τ' b m A' -> bD jK 46 τ' wn now -> bD jK 46 τ' wm' more' -> (∀ c,aQ wm' = some c -> aQ wn ≠ some c) -> Ri nx all A0 P' A' more' -> M E st .normal ⟨80,F'⟩ τ' Q):Ax.R E (cutAt [1,1,1,1,0,2,2,1,0,2,1,0,1,2,2,1,1,0,2] (aA Tryz.f75).code) st ⟨80,F⟩ Y Q:=by
 obtain ⟨c,o,u,cs,ex,e1,hc,hle,hrow⟩:=Tj hl on hy
 simp only [aA,Tryz.f75,KP,Ax.loadAt,Ax.storeAt,↓reduceIte,reduceEqDiff,reduceLT,reduceAdd,h.eI,cutAt,g2,g50,g52,e1,hc,hle,hrow,row,aO,cH]
 refine aI (hnx _ y) ?_
 rintro v σ' ⟨rfl,hv⟩
 have hvi:=hv.Xh.is
 have la:=x_ h hvi
 have hnl:=hnl y
 have hs1:=hs.kD (Lb.lB.app Y [O.cells 46 [.bool y.1,.str y.2] true])
 have on1:=on.app [O.cells 46 [.bool y.1,.str y.2] true]
 have om1:=om.app [O.cells 46 [.bool y.1,.str y.2] true]
 generalize Y ++ [O.cells 46 [.bool y.1,.str y.2] true] = τ1 at hs1 on1 om1 ⊢
 simp only [KP,↓reduceIte,reduceLT,la]
 have hadl:nx y ⊆ all:=fun x hx=>hall y x hx
 generalize nx y = L at hvi hv la hnl hP hadl
 refine aU (fun j F2 τ2=>(∀ k,k ∈ [1,2,9,50,51,52] -> F2.get k = F.get k) /\ F2.get 58 = v /\ F2.get 59 = .int .i64 (L.length:Int) /\ F2.get 60 = .int .i64 (j:Int) /\ ∃ A more wm,F2.get 13 = wm /\ Lb.bZ τ2 b m A /\ bD jK 46 τ2 wn now /\ bD jK 46 τ2 wm more /\ (∀ c,aQ wm = some c -> aQ wn ≠ some c) /\ Ri nx all A0 (fun x=>P x \/ x ∈ L.take j) A more) L.length ?_ ?_ L.length 0 _ _ (by omega) ⟨?_,(gD (by simp +decide only [GS,and_self]) ⟨A,more,wm,(by simp +decide only [GS,g13]),hs1,on1,om1,hne,ri.congr fun x=>by simp⟩)⟩
 ·rintro j F2 τ2 hj ⟨hF,g58,g59,g60,A,more,wm,g13,hs,on,om,hne,ri⟩ next
  obtain ⟨x,hx⟩:∃ x,L[j]? = some x:=⟨_,List.getElem?_eq_getElem hj⟩
  obtain ⟨gi,e1⟩:=FD h hvi hx
  have hlt:=eE hj
  have hadd:=bY j (by omega)
  have f9:F2.get 9 = .ref b 0:=(hF 9 (by simp)).trans g9
  have hAl:=ri.le hlen
  have hml:=ri.len
  rw [aF]
  simp only [KP,Ax.loadAt,Ax.storeAt,↓reduceIte,reduceEqDiff,reduceLT,reduceLeDiff,reduceAdd,reduceMul,h.mK,h.eI,f9,g58,g59,g60,hlt,e1,aO,cH,yD]
  have hs2:=hs.kD (Lb.lB.app τ2 [O.cells 46 [.bool x.1,.str x.2] true])
  have on2:=on.app [O.cells 46 [.bool x.1,.str x.2] true]
  have om2:=om.app [O.cells 46 [.bool x.1,.str x.2] true]
  have hz2:(τ2 ++ [O.cells 46 [.bool x.1,.str x.2] true])[τ2.length]? = some (O.cells 46 [.bool x.1,.str x.2] true):=aO
  generalize τ2 ++ [O.cells 46 [.bool x.1,.str x.2] true] = τ3 at hs2 on2 om2 hz2 ⊢
  generalize τ2.length = z at hz2 ⊢
  refine aI (Lb.HA hl (hs2.kD (Lb.lB.app τ3 [O.cells 46 [.bool x.1,.str x.2] true])) Ot (show 1 <= 10000000000 by omega) (by omega)) ?_
  rintro v4 τ4 ⟨rfl,Mv,hk4⟩
  have PL:=hs2.kD (Lb.lB.app τ3 [O.cells 46 [.bool x.1,.str x.2] true])
  have on4:=NV (on2.app _) PL hk4
  have om4:=NV (om2.app _) PL hk4
  have hz4:=hk4 _ _ (fun e=>by
   have:=hs2.map
   rw [<- e,hz2] at this
   cases this) (aN (x:=O.cells 46 [.bool x.1,.str x.2] true) hz2)
  by_cases hxA:x ∈ A
  ·rw [keys_in hxA] at Mv ⊢
   have hd:((A.length:Int) - (A.length:Int)) = 0:=by omega
   rw [hd]
   simp only [KP,↓reduceIte,reduceEqDiff,reduceLT,Int.reduceLT,g60,hadd]
   refine next _ _ ⟨?_,(gD (by simp +decide only [GS,g58,g59,and_self]) ⟨A,more,wm,(by simp +decide only [GS,g13]),Mv,on4.keep fun c o _ hc=>hc,om4,hne,ri.old hxA fun y=>?_⟩)⟩
   ·intro k hk
    rw [<- hF k hk]
    simp only [mem_cons,List.not_mem_nil,or_false] at hk
    rcases hk with rfl | rfl | rfl | rfl | rfl | rfl <;> simp +decide only [GS]
   ·rw [or_assoc,iC hx]
  ·rw [GO hxA] at Mv ⊢
   have hd:(((A ++ [x]).length:Int) - (A.length:Int)) = 1:=by rw [length_append,length_cons,length_nil]; omega
   rw [hd]
   obtain ⟨w',τ5,ha5,ow5,P3,fr5⟩:=KG (x:=x) (ex:=true) hl om4 (by omega)
   simp only [KP,Ax.loadAt,↓reduceIte,reduceEqDiff,reduceLT,reduceLeDiff,reduceAdd,reduceMul,Int.reduceLT,h.mK,h.eI,hz4,g13,yD,ha5,g60,hadd]
   refine next _ _ ⟨?_,(gD (by simp +decide only [GS,g58,g59,and_self]) ⟨A ++ [x],more ++ [x],w',(by simp +decide only [GS]),Nr (Mv.kD (Lb.lB.app τ4 _)) (om4.app _) P3,Wf (on4.app _) (fun c hc=>hne c hc) P3,ow5,fun c hc=>?_,ri.fresh hxA (hadl (List.mem_of_getElem? hx)) fun y=>?_⟩)⟩
   ·intro k hk
    rw [<- hF k hk]
    simp only [mem_cons,List.not_mem_nil,or_false] at hk
    rcases hk with rfl | rfl | rfl | rfl | rfl | rfl <;> simp +decide only [GS]
   ·rcases fr5 c hc with hc | hc
    ·exact hne c hc
    ·exact fun e=>by have:=Wg on4 e; omega
   ·rw [or_assoc,iC hx]
 ·rintro F2 τ2 ⟨hF,g58,g59,g60,A,more,wm,g13,hs,on,om,hne,ri⟩
  have hlt:=eF (Nat.lt_irrefl L.length)
  rw [take_of_length_le (Nat.le_refl _)] at ri
  rw [aF]
  simp only [KP,↓reduceIte,reduceLT,g59,g60,hlt]
  refine hk _ _ wm A more ?_ (by simp +decide only [GS,g13]) hs on om hne (ri.congr hP)
  intro k hk
  rw [<- hF k hk]
  simp only [mem_cons,List.not_mem_nil,or_false] at hk
  rcases hk with rfl | rfl | rfl | rfl | rfl | rfl <;> simp +decide only [GS]
 ·intro k hk
  simp only [mem_cons,List.not_mem_nil,or_false] at hk
  rcases hk with rfl | rfl | rfl | rfl | rfl | rfl <;> simp +decide only [GS]
end
end
section
section
variable {E:Env} {Z:Sg} {K:V -> Sg -> Prop}
structure Sd (rs:List aG) (l A now:List aK):Prop where
 mem:∀ x,x ∈ A ↔ x ∈ l /\ x ∈ lY rs
 nw:∀ x,x ∈ now ↔ x ∈ A
 len:now.length <= A.length
theorem Sd.old {rs:List aG} {ls A now:List aK} {j:Nat} {x:aK} (h:Sd rs (ls.take j) A now) (hx:ls[j]? = some x) (hA:x ∈ lY rs -> x ∈ A):Sd rs (ls.take (j + 1)) A now:=⟨fun y=>by
 rw [h.mem,iC hx]
 constructor
 ·exact fun e=>⟨.inl e.1,e.2⟩
 ·rintro ⟨e | rfl,e2⟩
  ·exact ⟨e,e2⟩
  ·exact (h.mem _).1 (hA e2),h.nw,h.len⟩
theorem Sd.fresh {rs:List aG} {ls A now:List aK} {j:Nat} {x:aK} (h:Sd rs (ls.take j) A now) (hx:ls[j]? = some x) (ha:x ∈ lY rs):Sd rs (ls.take (j + 1)) (A ++ [x]) (now ++ [x]):=⟨fun y=>by
 rw [mem_append,h.mem,iC hx,mem_singleton]
 constructor
 ·rintro (e | rfl)
  ·exact ⟨.inl e.1,e.2⟩
  ·exact ⟨.inr rfl,ha⟩
 ·rintro ⟨e | rfl,e2⟩
  ·exact .inl ⟨e,e2⟩
  ·exact .inr rfl,fun y=>by rw [mem_append,mem_append,h.nw],by have:=h.len; rw [length_append,length_append]; omega⟩
theorem QF {rs:List aG} {x:aK} (hx:x ∈ lY rs):kindOf rs x ≠ 0:=by
 unfold kindOf
 rw [if_pos hx]
 split
 ·decide
 ·split <;> decide
theorem Ov {rs:List aG} {x:aK} (hx:x ∉ lY rs):kindOf rs x = 0:=if_neg hx
theorem Qi (h:bK E) (h':uX E) (hl:Lb.cU E) (q:PK E) (rc:Uo E) {g:V} {rs:List aG} (hg:PM E rs g) (hf:Fits rs) {b m:Nat} {lv bC nf:V} {ls:List aK} (iv:IS jK lv ls) (hls:ls.length <= 1000000) {Y:Sg} (hs:Lb.bZ Y b m [])
  (F:FT) (g0:F.get 0 = g) (g3:F.get 3 = lv) (g9:F.get 9 = .ref b 0) (g10:F.get 10 = .aC) {st:List jO} {Q:Ax.X -> Fr -> Sg -> Prop}
  (hk:∀ F' τ' wn A now,(∀ k,k ∈ [0,1,2,9] -> F'.get k = F.get k) -> F'.get 10 = wn -> Lb.bZ τ' b m A -> bD jK 46 τ' wn now -> Sd rs ls A now -> M E st .normal ⟨80,F'⟩ τ' Q):Ax.R E (cutAt [1,1,1,0] (aA Tryz.f75).code) st ⟨80,F⟩ Y Q:=by
 have la:=x_ h iv
 simp only [aA,Tryz.f75,KP,↓reduceIte,reduceLT,cutAt,g3,la]
 refine aU (fun i F2 τ2=>(∀ k,k ∈ [0,1,2,9] -> F2.get k = F.get k) /\ F2.get 19 = lv /\ F2.get 20 = .int .i64 (ls.length:Int) /\ F2.get 21 = .int .i64 (i:Int) /\ ∃ A now wn,F2.get 10 = wn /\ Lb.bZ τ2 b m A /\ bD jK 46 τ2 wn now /\ Sd rs (ls.take i) A now) ls.length ?_ ?_ ls.length 0 _ _ (by omega) ⟨?_,(gD (by simp +decide only [GS,and_self]) ⟨[],[],.aC,(by simp +decide only [GS,g10]),hs,.inl ⟨rfl,rfl⟩,(fun x=>by simp),(fun x=>by simp),Nat.le_refl _⟩)⟩
 ·rintro j F2 τ2 hj ⟨hF,g19,g20,g21,A,now,wn,g10,hs,on,sd⟩ next
  obtain ⟨x,hx⟩:∃ x,ls[j]? = some x:=⟨_,List.getElem?_eq_getElem hj⟩
  obtain ⟨gi,e1⟩:=FD h iv hx
  have hlt:=eE hj
  have hadd:=bY j (by omega)
  have f0:F2.get 0 = g:=(hF 0 (by simp)).trans g0
  have f9:F2.get 9 = .ref b 0:=(hF 9 (by simp)).trans g9
  have hAl:A.length <= 2000:=Nat.le_trans (fR hs.nodup fun y hy=>((sd.mem y).1 hy).2) (pB hf)
  have hnl:=sd.len
  have kk:=fun (Y:Sg)=>dN fun K=>RP (Z:=Y) (K:=K) h h' hl q hg hf x
  rw [aF]
  by_cases hxa:x ∈ lY rs
  ·have hkd:=QF hxa
   generalize kindOf rs x = kd at kk hkd
   have hkd:decide (kd = 0) = false:=decide_eq_false hkd
   simp only [KP,Ax.loadAt,Ax.storeAt,↓reduceIte,reduceEqDiff,reduceLT,reduceLeDiff,reduceAdd,reduceMul,reduceCtorEq,h.mK,h.eI,f0,f9,g19,g20,g21,hlt,e1,kk,hkd,aO,cH,yD]
   have hs2:=hs.kD (Lb.lB.app τ2 [O.cells 46 [.bool x.1,.str x.2] true])
   have on2:=on.app [O.cells 46 [.bool x.1,.str x.2] true]
   have hz2:(τ2 ++ [O.cells 46 [.bool x.1,.str x.2] true])[τ2.length]? = some (O.cells 46 [.bool x.1,.str x.2] true):=aO
   generalize τ2 ++ [O.cells 46 [.bool x.1,.str x.2] true] = τ3 at hs2 on2 hz2 ⊢
   generalize τ2.length = z at hz2 ⊢
   have PL:=hs2.kD (Lb.lB.app τ3 [O.cells 46 [.bool x.1,.str x.2] true])
   refine aI (Lb.HA hl PL Ot (show 1 <= 10000000000 by omega) (by omega)) ?_
   rintro v4 τ4 ⟨rfl,Mv,hk4⟩
   have on4:=NV (on2.app _) PL hk4
   have hz4:=hk4 _ _ (fun e=>by
    have:=hs2.map
    rw [<- e,hz2] at this
    cases this) (aN (x:=O.cells 46 [.bool x.1,.str x.2] true) hz2)
   by_cases hxA:x ∈ A
   ·rw [keys_in hxA] at Mv ⊢
    have hd:((A.length:Int) - (A.length:Int)) = 0:=by omega
    rw [hd]
    simp only [KP,↓reduceIte,reduceEqDiff,reduceLT,Int.reduceLT,g21,hadd]
    refine next _ _ ⟨?_,(gD (by simp +decide only [GS,g19,g20,and_self]) ⟨A,now,wn,(by simp +decide only [GS,g10]),Mv,on4,sd.old hx fun _=>hxA⟩)⟩
    intro k hk
    rw [<- hF k hk]
    simp only [mem_cons,List.not_mem_nil,or_false] at hk
    rcases hk with rfl | rfl | rfl | rfl <;> simp +decide only [GS]
   ·rw [GO hxA] at Mv ⊢
    have hd:(((A ++ [x]).length:Int) - (A.length:Int)) = 1:=by rw [length_append,length_cons,length_nil]; omega
    rw [hd]
    obtain ⟨w',τ5,ha5,ow5,P3,-⟩:=KG (x:=x) (ex:=true) hl on4 (by omega)
    simp only [KP,Ax.loadAt,↓reduceIte,reduceEqDiff,reduceLT,reduceLeDiff,reduceAdd,reduceMul,Int.reduceLT,h.mK,h.eI,hz4,g10,yD,ha5,g21,hadd]
    refine next _ _ ⟨?_,(gD (by simp +decide only [GS,g19,g20,and_self]) ⟨A ++ [x],now ++ [x],w',(by simp +decide only [GS]),Nr (Mv.kD (Lb.lB.app τ4 _)) (on4.app _) P3,ow5,sd.fresh hx hxa⟩)⟩
    intro k hk
    rw [<- hF k hk]
    simp only [mem_cons,List.not_mem_nil,or_false] at hk
    rcases hk with rfl | rfl | rfl | rfl <;> simp +decide only [GS]
  ·have hkd:=Ov hxa
   rw [hkd] at kk
   simp only [KP,Ax.loadAt,Ax.storeAt,↓reduceIte,reduceEqDiff,reduceLT,reduceAdd,reduceCtorEq,h.eI,f0,g19,g20,g21,hlt,e1,kk,hadd,aO,cH]
   refine next _ _ ⟨?_,(gD (by simp +decide only [GS,g19,g20,and_self]) ⟨A,now,wn,(by simp +decide only [GS,g10]),hs.kD (Lb.lB.app τ2 _),on.app _,sd.old hx fun e=>absurd e hxa⟩)⟩
   intro k hk
   rw [<- hF k hk]
   simp only [mem_cons,List.not_mem_nil,or_false] at hk
   rcases hk with rfl | rfl | rfl | rfl <;> simp +decide only [GS]
 ·rintro F2 τ2 ⟨hF,g19,g20,g21,A,now,wn,g10,hs,on,sd⟩
  have hlt:=eF (Nat.lt_irrefl ls.length)
  rw [take_of_length_le (Nat.le_refl _)] at sd
  rw [aF]
  simp only [KP,↓reduceIte,reduceLT,g20,g21,hlt]
  refine hk _ _ wn A now ?_ (by simp +decide only [GS,g10]) hs on sd
  intro k hk
  rw [<- hF k hk]
  simp only [mem_cons,List.not_mem_nil,or_false] at hk
  rcases hk with rfl | rfl | rfl | rfl <;> simp +decide only [GS]
 ·intro k hk
  simp only [mem_cons,List.not_mem_nil,or_false] at hk
  rcases hk with rfl | rfl | rfl | rfl <;> simp +decide only [GS]
end
end
section
section
variable {E:Env} {Z:Sg} {K:V -> Sg -> Prop}
theorem K9 (h:bK E) (h':uX E) (hl:Lb.cU E) (q:PK E) (rc:Uo E) {k0 b m:Nat} {g:V} {nx:aK -> List aK} (hnx:NxL E k0 g nx) {all:List aK} (hall:∀ x y,y ∈ nx x -> y ∈ all) (hlen:all.length <= 2000) (hnl:∀ x,(nx x).length <= 2000) {s0:aK -> Prop} {bC:Int} (hf1:-1 <= bC) (hf2:bC <= 9223372036854775807)
  {A now:List aK} {wn:V} {Y:Sg} (hs:Lb.bZ Y b m A) (on:bD jK 46 Y wn now) (hA:∀ x,x ∈ A ↔ s0 x) (hn:∀ x,x ∈ now ↔ x ∈ A) (hsub:∀ x,x ∈ A -> x ∈ all) (hnlen:now.length <= A.length)
  (F:FT) (g1:F.get 1 = .int .i64 bC) (g2:F.get 2 = .fn k0 [g] []) (g9:F.get 9 = .ref b 0) (g10:F.get 10 = wn) {st:List jO} {Q:Ax.X -> Fr -> Sg -> Prop}
  (hk:∀ F' τ' A',F'.get 9 = .ref b 0 -> Lb.bZ τ' b m A' -> (∀ x,x ∈ A' -> x ∈ all) -> (∀ x,x ∈ A' ↔ uC nx s0 bC x) -> M E st .normal ⟨80,F'⟩ τ' Q):Ax.R E (cutAt [1,1,1,1,0] (aA Tryz.f75).code) st ⟨80,F⟩ Y Q:=by
 have one:=fun {A0 A more now P P' wn wm i y Y} hs on om hne hy ri hP F g2 g9 g13 g50 g52 st Q hk=>Ta (k:=k0) (b:=b) (m:=m) (A0:=A0) (A:=A) (more:=more) (now:=now) (P:=P) (P':=P') (wn:=wn) (wm:=wm) (i:=i) (y:=y) (Y:=Y) h h' hl q rc hnx hall hlen hnl hs on om hne hy ri hP F g2 g9 g13 g50 g52 (st:=st) (Q:=Q) hk
 rw [show (cutAt [1,1,1,1,0] (aA Tryz.f75).code) = .block 2 (.loop (.seq (cutAt [1,1,1,1,0,2,2,0] (aA Tryz.f75).code) (.seq (.block 3 (.seq (cutAt [1,1,1,1,0,2,2,1,0,2,0] (aA Tryz.f75).code) (.seq (.seq (cutAt [1,1,1,1,0,2,2,1,0,2,1,0,0] (aA Tryz.f75).code) (.block 4 (.loop (.seq (cutAt [1,1,1,1,0,2,2,1,0,2,1,0,1,2,2,0] (aA Tryz.f75).code) (.seq (cutAt [1,1,1,1,0,2,2,1,0,2,1,0,1,2,2,1,0] (aA Tryz.f75).code) (.seq (.block 5 (cutAt [1,1,1,1,0,2,2,1,0,2,1,0,1,2,2,1,1,0,2] (aA Tryz.f75).code)) (cutAt [1,1,1,1,0,2,2,1,0,2,1,0,1,2,2,1,1,1] (aA Tryz.f75).code))))))) (cutAt [1,1,1,1,0,2,2,1,0,2,1,1] (aA Tryz.f75).code)))) (cutAt [1,1,1,1,0,2,2,1,1] (aA Tryz.f75).code)))) from rfl]
 generalize cutAt [1,1,1,1,0,2,2,1,0,2,1,0,1,2,2,1,1,0,2] (aA Tryz.f75).code = B at one ⊢
 simp only [aA,Tryz.f75,KP,cutAt]
 refine Qv (fun n F Y=>∃ (k:Nat) (A now:List aK) (wn:V),F.get 1 = .int .i64 (bC - (k:Int)) /\ F.get 2 = .fn k0 [g] [] /\ F.get 9 = .ref b 0 /\ F.get 10 = wn /\ Lb.bZ Y b m A /\ bD jK 46 Y wn now /\ Rd nx s0 k A now /\ (∀ x,x ∈ A -> x ∈ all) /\ now.length <= A.length /\ (k <= A.length + 1 /\ (now ≠ [] -> k <= A.length)) /\ (0 <= bC -> (k:Int) <= bC) /\ ((now = [] /\ n = 2 * (2001 - A.length)) \/ (now ≠ [] /\ n = 2 * (2001 - A.length) + 1))) ?_ (2 * (2001 - A.length) + (if now = [] then 0 else 1)) _ _ ⟨0,A,now,wn,?_,(by simp +decide only [g2]),(by simp +decide only [g9]),(by simp +decide only [g10]),hs,on,Rd.start hA hn,hsub,hnlen,⟨by omega,fun _=>by omega⟩,fun _=>by omega,?_⟩
 ·clear hs on hA hn hsub hnlen g1 g2 g9 g10
  rintro n F Y ⟨k,A,now,wn,g1,g2,g9,g10,hs,on,rd,hsub,hnlen,hkl,hkf,hn⟩ next
  have hAl:A.length <= 2000:=Nat.le_trans (fR hs.nodup hsub) hlen
  have la:=fun (Z:Sg) (o:bD jK 46 Z wn now)=>pW hl.mK rfl o.ls
  have ln:=la _ on
  rw [aF]
  by_cases h0:now = []
  ·subst h0
   rw [length_nil] at ln
   simp only [KP,↓reduceIte,reduceEqDiff,reduceLT,Int.reduceLT,g10,ln]
   exact hk _ _ A (by simp +decide only [GS,g9]) hs hsub (rd.still hkf)
  by_cases hz:bC - (k:Int) = 0
  ·have hgt:decide ((0:Int) < (now.length:Int)) = true:=decide_eq_true (by have:=List.length_pos_iff.2 h0; omega)
   rw [hz] at g1
   simp only [KP,↓reduceIte,reduceEqDiff,reduceLT,g1,g10,ln,hgt]
   refine hk _ _ A (by simp +decide only [GS,g9]) hs hsub fun x=>?_
   rw [rd.bC,show (k:Int) = bC by omega]
  have hgt:decide ((0:Int) < (now.length:Int)) = true:=decide_eq_true (by have:=List.length_pos_iff.2 h0; omega)
  have hzd:decide (bC - (k:Int) = 0) = false:=decide_eq_false hz
  simp only [KP,↓reduceIte,reduceEqDiff,reduceLT,g1,g10,ln,hgt,hzd]
  have hnl2:now.length <= 2000:=by omega
  refine aU (fun i F2 τ2=>F2.get 1 = .int .i64 (bC - (k:Int)) /\ F2.get 2 = .fn k0 [g] [] /\ F2.get 9 = .ref b 0 /\ F2.get 50 = wn /\ F2.get 51 = .int .i64 (now.length:Int) /\ F2.get 52 = .int .i64 (i:Int) /\ ∃ A' more wm,F2.get 13 = wm /\ Lb.bZ τ2 b m A' /\ bD jK 46 τ2 wn now /\ bD jK 46 τ2 wm more /\ (∀ c,aQ wm = some c -> aQ wn ≠ some c) /\ Ri nx all A (fun x=>∃ y ∈ now.take i,x ∈ nx y) A' more) now.length ?_ ?_ now.length 0 _ _ (by omega) (yP (by simp +decide only [GS,g1,g2,g9,and_self]) ⟨A,[],.aC,(by simp +decide only [GS]),hs,on,.inl ⟨rfl,rfl⟩,(fun c hc=>by cases hc),⟨fun x=>by simp,(fun x=>by simp),hsub,Nat.zero_le _,hs.nodup,Nat.le_refl _,fun e=>absurd rfl e⟩⟩)
  ·clear hs on g1 g2 g9
   rintro i F2 τ2 hi ⟨g1,g2,g9,g50,g51,g52,A',more,wm,g13,hs,on,om,hne,ri⟩ next2
   obtain ⟨y,hy⟩:∃ y,now[i]? = some y:=⟨_,List.getElem?_eq_getElem hi⟩
   have hlt:=eE hi
   have hadd:=bY i (by omega)
   rw [aF]
   simp only [KP,↓reduceIte,reduceLT,g51,g52,hlt]
   refine one hs on om hne hy ri (P':=fun x=>∃ y ∈ now.take (i + 1),x ∈ nx y) (fun x=>?_) _ ?_ ?_ ?_ ?_ ?_ _ _ (fun F3 τ3 wm' A3 more' hF g13' hs' on' om' hne' ri'=>?_)
   ·constructor
    ·rintro ⟨z,hz,hx⟩
     rcases (iC hy z).1 hz with h1 | rfl
     ·exact .inl ⟨z,h1,hx⟩
     ·exact .inr hx
    ·rintro (⟨z,hz,hx⟩ | hx)
     ·exact ⟨z,(iC hy z).2 (.inl hz),hx⟩
     ·exact ⟨y,(iC hy y).2 (.inr rfl),hx⟩
   ·simp +decide only [GS,g2]
   ·simp +decide only [GS,g9]
   ·simp +decide only [GS,g13]
   ·simp +decide only [GS,g50]
   ·simp +decide only [GS,g52]
   have q1:F3.get 1 = .int .i64 (bC - (k:Int)):=(hF 1 (by simp)).trans (by simp +decide only [GS,g1])
   have q2:F3.get 2 = .fn k0 [g] []:=(hF 2 (by simp)).trans (by simp +decide only [GS,g2])
   have q9:F3.get 9 = .ref b 0:=(hF 9 (by simp)).trans (by simp +decide only [GS,g9])
   have q50:F3.get 50 = wn:=(hF 50 (by simp)).trans (by simp +decide only [GS,g50])
   have q51:F3.get 51 = .int .i64 (now.length:Int):=(hF 51 (by simp)).trans (by simp +decide only [GS,g51])
   have q52:F3.get 52 = .int .i64 (i:Int):=(hF 52 (by simp)).trans (by simp +decide only [GS,g52])
   simp only [KP,↓reduceIte,reduceLT,q52,hadd]
   exact next2 _ _ (yP (by simp +decide only [GS,q1,q2,q9,q50,q51,and_self]) ⟨A3,more',wm',(by simp +decide only [GS,g13']),hs',on',om',hne',ri'⟩)
  ·clear hs on g1 g2 g9
   rintro F2 τ2 ⟨g1,g2,g9,g50,g51,g52,A',more,wm,g13,hs,on,om,hne,ri⟩
   have hlt:=eF (Nat.lt_irrefl now.length)
   rw [take_of_length_le (Nat.le_refl _)] at ri
   have hA'l:=ri.le hlen
   have hw:wr .i64 (bC - (k:Int) - 1) = bC - ((k + 1:Nat):Int):=by
    rw [Sa _ (by omega) (by omega)]
    omega
   rw [aF]
   simp only [KP,↓reduceIte,reduceEqDiff,reduceLT,g1,g13,g51,g52,hlt,hw]
   have hup:=ri.up
   refine next (2 * (2001 - A'.length) + (if more = [] then 0 else 1)) _ _ ?_ ⟨k + 1,A',more,wm,(gY (by simp +decide only [GS,g2,g9,and_self]) ⟨hs,om,rd.next ri.mem ri.new,ri.sub,ri.len,?_,?_,?_⟩)⟩
   ·rcases hn with ⟨h1,-⟩ | ⟨-,rfl⟩
    ·exact absurd h1 h0
    ·by_cases hm:more = []
     ·rw [if_pos hm]; omega
     ·rw [if_neg hm]; have:=hup.2 hm; omega
   ·have:=hkl.2 h0
    exact ⟨by omega,fun hm=>by have:=hup.2 hm; omega⟩
   ·intro hf; have:=hkf hf; omega
   ·by_cases hm:more = []
    ·exact .inl ⟨hm,by rw [if_pos hm]; rfl⟩
    ·exact .inr ⟨hm,by rw [if_neg hm]⟩
 ·rw [show bC - ((0:Nat):Int) = bC from by omega]
  simp +decide only [g1]
 ·by_cases h0:now = []
  ·exact .inl ⟨h0,by rw [if_pos h0]; rfl⟩
  ·exact .inr ⟨h0,by rw [if_neg h0]⟩
end
end
section
section
variable {E:Env} {Z:Sg} {K:V -> Sg -> Prop}
theorem PM.bE {g:V} {rs:List aG} (hg:PM E rs g):Ax.bE g = true:=by
 obtain ⟨es0,es1,get,A,L3,L4,rfl,-⟩:=hg
 rfl
theorem S6 {g:V} {rs:List aG} (hg:PM E rs g) (k:Nat) (Z:Sg):aV Z E.ty true (.fn k [g] []) = some (.fn k [g] []):=by
 have e:=dG (Z:=Z) (ty:=E.ty) hg.bE (cE hg.bE)
 obtain ⟨es0,es1,get,A,L3,L4,rfl,-⟩:=hg
 have e':aV.one Z E.ty true (gV es0 es1 A L3 L4) = some (gV es0 es1 A L3 L4):=e
 show (match aW (aV.one Z E.ty true) [gV es0 es1 A L3 L4],aW (aV.one Z E.ty true) [] with
  | some a,some b=>some (V.fn k a b)
  | _,_=>none) = _
 simp only [aW,e']
theorem Jj.cP {v:V} {l:List aK} (hv:Jj v l) (Y:Sg):cP Y E.ty false v = some v:=by
 rcases hv with ⟨rfl,-⟩ | ⟨full,rfl⟩ <;> rfl
theorem xV {rs:List aG} (x y:aK) (hy:y ∈ mF rs x):y ∈ lY rs:=(JY (zP.1 hy)).2
theorem RJ (h:bK E) (h':uX E) (hl:Lb.cU E) (q:PK E) (rc:Uo E) {k0:Nat} {g:V} {rs:List aG} (hg:PM E rs g) (hf:Fits rs) {nx:aK -> List aK} (hnx:NxL E k0 g nx) (hall:∀ x y,y ∈ nx x -> y ∈ lY rs) (hup:∀ x,Up (nx x)) {bC:Int} (hf1:-1 <= bC) (hf2:bC <= 9223372036854775807) {a:V} {ls:List aK} (ha:LS jK 46 Z a ls) (hls:ls.length <= 1000000) :
  aB E 75 [g,.int .i64 bC,.fn k0 [g] [],a] Z fun v σ'=>σ' = Z /\ ∃ l,Jj v l /\ Up l /\ (∀ x,x ∈ l -> x ∈ lY rs) /\ ∀ x,x ∈ l ↔ uC nx (fun x=>x ∈ ls /\ x ∈ lY rs) bC x:=by
 obtain ⟨a',ea,ia⟩:=BU h ha
 have e1:=dG (Z:=Z) (ty:=E.ty) hg.bE (cE hg.bE)
 have e2:=S6 hg k0 Z
 have e3:aV Z E.ty true (.int .i64 bC) = some (.int .i64 bC):=rfl
 have hlen:=pB hf
 have hnl:∀ x,(nx x).length <= 2000:=fun x=>Nat.le_trans (fR (hup x).nodup (hall x)) hlen
 rw [aH rc.hs75 rc.sp75 rc.fn75 rc.md75 (args':=[g,.int .i64 bC,.fn k0 [g] [],a']) (by simp only [aW,e1,e2,e3,ea]),aZ (by kernel_rfl)]
 have seed:=fun {b m Y} hs F g0 g3 g9 g10 st Q hk=>Qi (b:=b) (m:=m) (Y:=Y) h h' hl q rc hg hf (bC:=.int .i64 bC) (nf:=.fn k0 [g] []) ia hls hs F g0 g3 g9 g10 (st:=st) (Q:=Q) hk
 have rounds:=fun {b m A now wn Y} hs on hA hn hsub hnlen F g1 g2 g9 g10 st Q hk=>K9 (b:=b) (m:=m) (A:=A) (now:=now) (wn:=wn) (Y:=Y) h h' hl q rc hnx hall hlen hnl (s0:=fun x=>x ∈ ls /\ x ∈ lY rs) hf1 hf2 hs on hA hn hsub hnlen F g1 g2 g9 g10 (st:=st) (Q:=Q) hk
 rw [show (aA Tryz.f75).code = .seq (cutAt [0] (aA Tryz.f75).code) (.seq (cutAt [1,0] (aA Tryz.f75).code) (.seq (cutAt [1,1,0] (aA Tryz.f75).code) (.seq (cutAt [1,1,1,0] (aA Tryz.f75).code) (.seq (cutAt [1,1,1,1,0] (aA Tryz.f75).code) (cutAt [1,1,1,1,1] (aA Tryz.f75).code))))) from rfl]
 generalize cutAt [1,1,1,0] (aA Tryz.f75).code = S at seed ⊢
 generalize cutAt [1,1,1,1,0] (aA Tryz.f75).code = T at rounds ⊢
 simp only [aA,Tryz.f75,KP,↓reduceIte,reduceLT,reduceAdd,cutAt]
 refine aI (Lb.Po hl (l:=[]) (.inl ⟨rfl,rfl⟩) (Nat.zero_le _)) ?_
 rintro v Y ⟨m,rfl,hs,-,-⟩
 rw [show ([]:Sg).length = 0 from rfl] at hs ⊢
 simp only [KP,↓reduceIte,reduceLT]
 refine seed hs _ ?_ ?_ ?_ ?_ _ _ (fun F2 τ2 wn A now hF g10 hs2 on2 sd=>?_)
 ·simp +decide only [GS]
 ·simp +decide only [GS]
 ·simp +decide only [GS]
 ·simp +decide only [GS]
 simp only [KP]
 have q1:F2.get 1 = .int .i64 bC:=(hF 1 (by simp)).trans (by simp +decide only [GS])
 have q2:F2.get 2 = .fn k0 [g] []:=(hF 2 (by simp)).trans (by simp +decide only [GS])
 have q9:F2.get 9 = .ref 0 0:=(hF 9 (by simp)).trans (by simp +decide only [GS])
 refine rounds hs2 on2 sd.mem sd.nw (fun x hx=>((sd.mem x).1 hx).2) sd.len _ ?_ ?_ ?_ ?_ _ _ (fun F3 τ3 A3 g9 PL hsub hA3=>?_)
 ·simp +decide only [q1]
 ·simp +decide only [q2]
 ·simp +decide only [q9]
 ·simp +decide only [g10]
 have l3:=Nat.le_trans (fR PL.nodup hsub) hlen
 simp only [KP,↓reduceIte,reduceLT,reduceCtorEq,hl.u_,hl.AY,g9]
 refine aI (Lb.Zj hl PL (by omega) (fun x hx=>by have:=AA (hf.lab (hsub x hx)); omega)) ?_
 rintro r τ4 ⟨ho,-⟩
 obtain ⟨v',hv,hlv⟩:=vE hl ho
 simp only [KP,↓reduceIte,reduceLT,hv]
 exact ⟨_,hlv,lF _,fun x hx=>hsub x (gI.1 hx),fun x=>by rw [gI]; exact hA3 x⟩
theorem wO (h:bK E) (h':uX E) (hl:Lb.cU E) (q:PK E) (rc:Uo E) {g:V} {rs:List aG} (hg:PM E rs g) (hf:Fits rs) {bC:Int} (hf1:-9223372036854775808 <= bC) (hf2:bC <= 9223372036854775807) {a:V} {ls:List aK} (ha:LS jK 46 Z a ls) (hls:ls.length <= 1000000) :
  aB E 21 [g,.int .i64 bC,a] Z fun v σ'=>σ' = Z /\ ∃ l,Jj v l /\ Up l /\ (∀ x,x ∈ l -> x ∈ lY rs) /\ ∀ x,x ∈ l ↔ uC (mF rs) (fun x=>x ∈ ls /\ x ∈ lY rs) (if bC < -1 then -1 else bC) x:=by
 obtain ⟨a',ea,ia⟩:=BU h ha
 have e1:=dG (Z:=Z) (ty:=E.ty) hg.bE (cE hg.bE)
 have e3:aV Z E.ty true (.int .i64 bC) = some (.int .i64 bC):=rfl
 rw [aH rc.hs21 rc.M9 rc.fn21 rc.md21 (args':=[g,.int .i64 bC,a']) (by simp only [aW,e1,e3,ea]),aZ (by kernel_rfl)]
 have hm:gT true .i64 bC [.int .i64 (-1)] = some (if bC < -1 then -1 else bC):=rfl
 have hb:-1 <= (if bC < -1 then -1 else bC) /\ (if bC < -1 then -1 else bC) <= 9223372036854775807:=by split <;> omega
 generalize (if bC < -1 then -1 else bC) = far2 at hm hb ⊢
 simp only [aA,Tryz.f21,KP,↓reduceIte,reduceEqDiff,reduceLT,reduceAdd,reduceCtorEq,reduceNeg,hm]
 refine aI (RJ h h' hl q rc hg hf (nx:=mF rs) (fun Y x=>Hz h h' hl q hg hf x) xV (Ch rs) hb.1 hb.2 (ia.ls [] 46) hls) ?_
 rintro v σ' ⟨rfl,l,hv,hr⟩
 have es:=hv.cP (E:=E) []
 simp only [KP,↓reduceIte,reduceLT,reduceNeg,es]
 exact ⟨l,hv,hr⟩
end
end
structure CnE (E:Env):Prop where
 hs30:E.hspec 30 = none
 P5:E.spec 30 = none
 fn30:E.fn 30 = some (aA Tryz.f30)
 md30:E.mode 30 = .eV
 hs6:E.hspec 6 = none
 sp6:E.spec 6 = none
 fn6:E.fn 6 = some (aA Tryz.f6)
 md6:E.mode 6 = .eV
 Uu:∀ {Z:Sg} {K:V -> Sg -> Prop},aB E 11 [] Z K = K (.bool true) Z
section
section
variable {E:Env} {Z:Sg} {K:V -> Sg -> Prop}
section
variable {nx:aK -> List aK} {s0:aK -> Prop}
theorem xI {k:Nat} {x:aK}:uC nx s0 (k:Int) x ↔ Rk nx s0 k x:=by
 unfold uC
 constructor
 ·rintro (⟨h,-⟩ | ⟨-,h⟩)
  ·omega
  ·rw [Int.toNat_natCast] at h; exact h
 ·exact fun h=>.inr ⟨by omega,by rw [Int.toNat_natCast]; exact h⟩
theorem E0 {x:aK}:uC nx s0 (-1) x ↔ ∃ n,Rk nx s0 n x:=by
 unfold uC
 constructor
 ·rintro (⟨-,h⟩ | ⟨h,-⟩)
  ·exact h
  ·omega
 ·exact fun h=>.inl ⟨by omega,h⟩
theorem Qh (n:Nat):(∃ m,m < n /\ ∀ x,Rk nx s0 (m + 1) x -> Rk nx s0 m x) \/ ∃ L:List aK,L.Nodup /\ n <= L.length /\ ∀ x ∈ L,Rk nx s0 n x:=by
 induction n with
 | zero=>exact .inr ⟨[],List.nodup_nil,Nat.zero_le _,fun x hx=>by cases hx⟩
 | succ n ih=>
  rcases ih with ⟨m,hm,h⟩ | ⟨L,h1,h2,h3⟩
  ·exact .inl ⟨m,by omega,h⟩
  ·by_cases hs:∃ x,Rk nx s0 (n + 1) x /\ ¬ Rk nx s0 n x
   ·obtain ⟨x,hx,hn⟩:=hs
    exact .inr ⟨x :: L,List.nodup_cons.2 ⟨fun h=>hn (h3 x h),h1⟩,by rw [length_cons]; omega,fun y hy=>by
     rcases mem_cons.1 hy with rfl | hy
     ·exact hx
     ·exact .inl (h3 y hy)⟩
   ·exact .inl ⟨n,Nat.lt_succ_self n,fun x hx=>Classical.byContradiction fun hn=>hs ⟨x,hx,hn⟩⟩
theorem Qg {all:List aK} (hsub:∀ n x,Rk nx s0 n x -> x ∈ all) {N:Nat} (hN:all.length < N) {n:Nat} {x:aK} (hx:Rk nx s0 n x):Rk nx s0 N x:=by
 rcases Qh (nx:=nx) (s0:=s0) N with ⟨m,hm,h⟩ | ⟨L,h1,h2,h3⟩
 ·exact Rk.mono (Nat.le_of_lt hm) (Rk.closed (fun y z hy hz=>h z (.inr ⟨y,hy,hz⟩)) n hx)
 ·have:=fR h1 fun y hy=>hsub N y (h3 y hy)
  omega
end
theorem NS {rs:List aG} (hf:Fits rs) {r:aG} (hr:r ∈ rs):r.ins.length + r.outs.length <= 12:=by
 have h0:=(yB hf.ok.1).rule r hr
 unfold bA at h0
 by_cases h1:jM r = false
 ·rw [if_pos h1] at h0; cases h0
 rw [if_neg h1] at h0
 by_cases h2:long r = true
 ·rw [if_pos h2] at h0; cases h0
 unfold long at h2
 simp only [Bool.or_eq_true,decide_eq_true_eq,not_or] at h2
 omega
theorem Jf {rs:List aG} (hf:Fits rs) (hl:rs.length <= 14):(lY rs).length <= 182:=by
 have key:∀ l:List aG,(∀ r ∈ l,r.ins.length + r.outs.length <= 12) -> (l.flatMap fun r=>fU r :: ((r.ins ++ r.outs).map fun f=>((false,f):aK))).length <= 13 * l.length:=fun l=>by
  induction l with
  | nil=>exact fun _=>Nat.le_refl _
  | cons r l ih=>
   intro h
   rw [List.flatMap_cons,length_append,length_cons,length_cons,length_map,length_append]
   have:=ih fun q hq=>h q (List.mem_cons_of_mem _ hq)
   have:=h r (mem_cons_self ..)
   omega
 have:=key rs fun r hr=>NS hf hr
 refine Nat.le_trans (fR (KH rs).nodup fun x hx=>?_) (Nat.le_trans this (by omega))
 rw [List.mem_flatMap]
 rcases xX.1 hx with hx | ⟨p,hp,hx⟩
 ·obtain ⟨r,hr,rfl⟩:=mem_map.1 hx
  exact ⟨r,hr,mem_cons_self ..⟩
 ·obtain ⟨r,hr,⟨f,hf,rfl⟩ | ⟨f,hf,rfl⟩⟩:=Ls.1 hp
  ·refine ⟨r,hr,?_⟩
   rcases hx with rfl | rfl
   ·exact mem_cons_self ..
   ·exact List.mem_cons_of_mem _ (mem_map.2 ⟨f,List.mem_append_left _ hf,rfl⟩)
  ·refine ⟨r,hr,?_⟩
   rcases hx with rfl | rfl
   ·exact List.mem_cons_of_mem _ (mem_map.2 ⟨f,List.mem_append_right _ hf,rfl⟩)
   ·exact mem_cons_self ..
theorem NZ {rs:List aG} {s0:aK -> Prop} (h0:∀ x,s0 x -> x ∈ lY rs) (n:Nat) (x:aK) (hx:Rk (mF rs) s0 n x):x ∈ lY rs:=Rk.sub h0 (fun y z hz=>(JY (zP.1 hz)).2) n hx
theorem Rc {rs:List aG} (hf:Fits rs) (hl:rs.length <= 14) {s0:aK -> Prop} (h0:∀ x,s0 x -> x ∈ lY rs) (x:aK):uC (mF rs) s0 (200:Int) x ↔ uC (mF rs) s0 (-1) x:=by
 have e:uC (mF rs) s0 (200:Int) x ↔ Rk (mF rs) s0 200 x:=xI (k:=200)
 rw [e,E0]
 have:=Jf hf hl
 exact ⟨fun h=>⟨_,h⟩,fun ⟨n,h⟩=>Qg (NZ h0) (by omega) h⟩
theorem LM {nx:aK -> List aK} {s0:aK -> Prop} {A:List aK} {P:aK -> Prop} (hA:∀ x,x ∈ A ↔ uC nx s0 (-1) x) (hP:∀ x,x ∈ A -> P x) (x:aK):uC nx (fun x=>x ∈ A /\ P x) (1:Int) x ↔ x ∈ A:=by
 have e:uC nx (fun x=>x ∈ A /\ P x) (1:Int) x ↔ Rk nx (fun x=>x ∈ A /\ P x) 1 x:=xI (k:=1)
 rw [e]
 constructor
 ·rintro (h | ⟨y,hy,hx⟩)
  ·exact h.1
  ·obtain ⟨n,hn⟩:=E0.1 ((hA y).1 hy.1)
   exact (hA x).2 (E0.2 ⟨n + 1,.inr ⟨y,hn,hx⟩⟩)
 ·exact fun h=>.inl ⟨h,hP x h⟩
end
end
end Go.Proofs.YtlbbdpkjeeiahaaGreatDoor
end
section
namespace Go.Proofs.YtlbbdpkjeeiahaaGreatDoor.Lb
open Go Go.Ax Go.AxS
section
def pos:List aK -> aK -> Nat
 | [],_=>0
 | y :: r,x=>if lt y x = true then pos r x + 1 else 0
theorem E5:∀ (l:List aK) (x:aK),pos l x <= l.length
 | [],_=>Nat.le_refl _
 | y :: r,x=>by
  simp only [pos,length_cons]
  have:=E5 r x
  split <;> omega
theorem NO:∀ (l:List aK) (x:aK) (i:Nat),i < pos l x -> ∃ y,l[i]? = some y /\ lt y x = true
 | [],_,i,h=>by simp [pos] at h
 | y :: r,x,0,h=>by
  simp only [pos] at h
  split at h
  ·rename_i hy; exact ⟨y,rfl,hy⟩
  ·omega
 | y :: r,x,i + 1,h=>by
  simp only [pos] at h
  split at h
  ·obtain ⟨z,h1,h2⟩:=NO r x i (by omega)
   exact ⟨z,h1,h2⟩
  ·omega
theorem pos_at:∀ (l:List aK) (x y:aK),l[pos l x]? = some y -> lt y x = false
 | [],_,_,h=>by simp [pos] at h
 | z :: r,x,y,h=>by
  simp only [pos] at h
  split at h
  ·exact pos_at r x y h
  ·rename_i hz
   have:z = y:=by simpa using h
   subst this
   simpa using hz
theorem E2:∀ (l:List aK) (x:aK),put l x = if l[pos l x]? = some x then l else l.take (pos l x) ++ x :: l.drop (pos l x)
 | [],x=>by simp [put,pos]
 | y :: r,x=>by
  by_cases hy:lt y x = true
  ·have e:pos (y :: r) x = pos r x + 1:=by simp only [pos,hy,if_true]
   have p:put (y :: r) x = y :: put r x:=by simp only [put,hy,if_true]
   rw [p,E2 r x]
   simp only [e,List.getElem?_cons_succ,List.take_succ_cons,List.drop_succ_cons,List.cons_append]
   split <;> rfl
  ·have e:pos (y :: r) x = 0:=by simp only [pos,hy]; rfl
   have p:put (y :: r) x = if y = x then y :: r else x :: y :: r:=by simp only [put,hy]; rfl
   rw [p]
   simp only [e,List.getElem?_cons_zero,Option.some.injEq,List.take_zero,List.drop_zero,List.nil_append]
theorem Jm (x:aK):nK (pP 11) (row x) (row x) = true:=by
 show ((x.1 == x.1) && (Ax.seq x.2 x.2 && true)) = true
 rw [(jS x.2 x.2).2 rfl]
 simp
theorem EA {g:List V -> List V -> Bool}:∀ l:List aK,(∀ x,g (row x) (row x) = true) -> nK g (l.map row) (l.map row) = true
 | [],_=>rfl
 | x :: l,h=>by
  show (g (row x) (row x) && nK g (l.map row) (l.map row)) = true
  rw [h,EA l h]; rfl
theorem wU (a:Bool) (s:List Nat):pP 12 (.agg [.bool a,.str s]) (.agg [.bool a,.str s]) = true:=Jm (a,s)
theorem EM (g full:Bool) (l:List aK):pP 12 (.bL g (l.map row) full) (.bL g (l.map row) full) = true:=by
 show (g == g && nK (nK (pP 11)) (l.map row) (l.map row) && full == full) = true
 rw [EA l Jm]; simp
section
variable {E:Env} {Z:Sg} {K:V -> Sg -> Prop}
theorem lQ (h:cU E) (a:Bool) (s:List Nat) (ex:Bool) (Y:Sg):loadAt E (.cells 46 [.bool a,.str s] ex :: Y) 46 (.ref 0 0) = some (.agg [.bool a,.str s]):=by
 unfold loadAt
 rw [h.eI]
 rfl
theorem Ld (h:cU E) {v:V} {l:List aK} {x:aK} (hv:LV v l) (hsm:l.length <= 1000000000000) {s:List jO} {Q:Ax.X -> Fr -> Sg -> Prop}
  (hQ:∀ F':FT,F'.get 0 = v -> F'.get 3 = .ref 0 0 -> F'.get 5 = .int .i64 (pos l x:Int) -> M E s .normal ⟨44,F'⟩ [.cells 46 [.bool x.1,.str x.2] true] Q) :
  ∀ (k i:Nat) (F:FT),i + k = pos l x -> F.get 0 = v -> F.get 3 = .ref 0 0 -> F.get 5 = .int .i64 (i:Int) -> R E (.loop (cutAt [1,1,0,2,2] (aA Tryz.f24).code)) (.blk 0 :: s) ⟨44,F⟩ [.cells 46 [.bool x.1,.str x.2] true] Q:=by
 have la:∀ Z,lenOf E Z 40 v = some l.length:=fun Z=>wI h (hv.sv Z)
 have hk:pos l x <= l.length:=E5 l x
 have d2:=h.Y7
 simp only [aA,Tryz.f24,cutAt,Option.getD_some] at d2
 intro k
 induction k with
 | zero=>
  intro i F hi g0 g3 g5
  rw [aF]
  by_cases hil:i < l.length
  ·have hlt:decide ((i:Int) < (l.length:Int)) = true:=decide_eq_true (by omega)
   obtain ⟨y,hy⟩:∃ y,l[i]? = some y:=⟨_,List.getElem?_eq_getElem hil⟩
   obtain ⟨pa,e1,e2⟩:=sF h (hv.sv [.cells 46 [.bool x.1,.str x.2] true]) hy
   have e2:=e2 _ (cQ.refl _)
   have hm:lt (y.1,y.2) (x.1,x.2) = false:=pos_at l x y (by rw [<- hi]; exact hy)
   simp only [aA,Tryz.f24,KP,↓reduceIte,reduceEqDiff,reduceLT,reduceCtorEq,cutAt,g0,g3,g5,la,hlt,aT d2,bM,e1,e2,lQ h,Ke h,hm]
   refine hQ _ ?_ ?_ ?_ <;> simp only [FT.cJ,g0,g3,g5,↓reduceIte,reduceEqDiff,reduceCtorEq]
   rw [<- hi,Nat.add_zero]
  ·have hlt:decide ((i:Int) < (l.length:Int)) = false:=decide_eq_false (by omega)
   simp only [aA,Tryz.f24,KP,↓reduceIte,reduceEqDiff,reduceLT,reduceCtorEq,cutAt,g0,g5,la,hlt,aT d2,bM]
   refine hQ _ ?_ ?_ ?_ <;> simp only [FT.cJ,g0,g3,g5,↓reduceIte,reduceEqDiff,reduceCtorEq]
   rw [<- hi,Nat.add_zero]
 | succ k ih=>
  intro i F hi g0 g3 g5
  obtain ⟨y,hy,hn⟩:=NO l x i (by omega)
  have hlt:decide ((i:Int) < (l.length:Int)) = true:=decide_eq_true (by omega)
  obtain ⟨pa,e1,e2⟩:=sF h (hv.sv [.cells 46 [.bool x.1,.str x.2] true]) hy
  have e2:=e2 _ (cQ.refl _)
  have hm:lt (y.1,y.2) (x.1,x.2) = true:=hn
  have hadd:=Bj i (by omega)
  rw [aF]
  simp only [aA,Tryz.f24,KP,↓reduceIte,reduceEqDiff,reduceLT,reduceCtorEq,cutAt,g0,g3,g5,la,hlt,aT d2,bM,e1,e2,lQ h,Ke h,hm,hadd]
  refine ih (i + 1) _ (by omega) ?_ ?_ ?_ <;> simp only [FT.cJ,g0,g3,↓reduceIte,reduceEqDiff,reduceCtorEq]
end
end
section
section
variable {E:Env} {Z:Sg} {K:V -> Sg -> Prop}
theorem qU (Z:Sg) (g full:Bool) (a:Bool) (s:List Nat):elems Z 2 (.bL g [[.bool a,.str s]] full) = some ([.bool a,.str s],1):=rfl
theorem z_ (Z:Sg) (g full:Bool):elems Z 2 (.bL g [] full) = some ([],0):=rfl
theorem MM:AZ 2 [] = true:=rfl
theorem Al (g full:Bool):pP 12 (.bL g [] full) (.bL g [] full) = true:=EM g full []
theorem NB:roomy 1 24 = true:=by decide
theorem EY:lJ 1 24 = true:=by decide
theorem NI (h:cU E) {l:List aK} {x:aK} {g full:Bool} (hsm:l.length <= 100000000000) (F:FT) (g0:F.get 0 = .bL g (l.map row) full) (g3:F.get 3 = .ref 0 0) (g5:F.get 5 = .int .i64 (pos l x:Int)) :
  ∃ F' b cs σ',cC E (ev E 0) (opsOf (cutAt [1,1,1,1,0] (aA Tryz.f24).code)) ⟨44,F⟩ [.cells 46 [.bool x.1,.str x.2] true] = some (⟨44,F'⟩,σ') /\ F'.get 4 = .sl b 0 (l.length + 1) none /\ σ'[b]? = some (.cells 46 cs false) /\ cs = (l.take (pos l x) ++ x :: l.drop (pos l x)).flatMap row:=by
 have hk:pos l x <= l.length:=E5 l x
 generalize pos l x = k at *
 have hd1:decide ((0:Int) <= (k:Int)) = true:=decide_eq_true (by omega)
 have hd2:decide ((k:Int) <= (l.length:Int)) = true:=decide_eq_true (by omega)
 have hm1:(l.map row).take k = (l.take k).map row:=by rw [List.map_take]
 have hm2:((l.map row).drop k).take (l.length - k) = (l.drop k).map row:=by
  rw [take_of_length_le (by simp),List.map_drop]
 have n1:(l.take k).length = k:=by rw [length_take]; omega
 have n2:(l.drop k).length = l.length - k:=List.length_drop
 have f1:((l.take k).flatMap row).length = k * 2:=by rw [iI,n1]
 have f2:((k + 1) * 2 <= k * 2) = False:=by simp only [eq_iff_iff,iff_false]; omega
 have f3:((l.take k).flatMap row).take (k * 2) = (l.take k).flatMap row:=take_of_length_le (by omega)
 have f4:((l.take k).flatMap row ++ [V.bool x.1,V.str x.2]).length = (k + 1) * 2:=by rw [length_append,f1]; show _ + 2 = _; omega
 have f6:((l.take k).flatMap row ++ [V.bool x.1,V.str x.2]).take ((k + 1) * 2) = (l.take k).flatMap row ++ [V.bool x.1,V.str x.2]:=take_of_length_le (by omega)
 have r1:lJ k 24 = true:=DR k (by omega)
 have r2:roomy (k + 1) 24 = true:=B8 _ (by omega)
 have r3:roomy (k + 1 + (l.length - k)) 24 = true:=B8 _ (by omega)
 have f7:k + 1 + (l.length - k) = l.length + 1:=by omega
 have f8:(l.take k ++ x :: l.drop k).flatMap row = (l.take k).flatMap row ++ [V.bool x.1,V.str x.2] ++ (l.drop k).flatMap row:=by simp [List.flatMap_append,List.flatMap_cons,row]
 unfold cC
 rw [h.R_,h.Sf]
 by_cases hp:k = 0
 ·subst hp
  by_cases hq:l.length = 0
  ·obtain rfl:=List.length_eq_zero_iff.1 hq
   simp only [opsOf,cutAt,aA,Tryz.f24,Fz.lits,Fz.apps,fO,bG,bW,jP,Ax.comp,sS,Ax.last,fI,Ax.again,Ax.slice,Ax.bound,Ax.append,d_,lR,Ax.fill,fQ,Ax.rows,cF,pX,KP,↓reduceIte,reduceEqDiff,reduceLT,reduceLeDiff,reduceAdd,reduceMul,Nat.reduceBEq,reduceCtorEq,reduceLE,h.eI,h.mK,g0,g3,g5,Nat.sub_zero,qU,lQ h,List.map_nil,z_,MM,NB,EY,wU,Al]
   exact ⟨_,1,_,_,rfl,by simp only [FT.cJ,↓reduceIte],rfl,rfl⟩
  ·have hm3:(l.map row).take l.length = l.map row:=take_of_length_le (by simp)
   have f10:((1 + l.length) * 2 <= 2) = False:=by simp only [eq_iff_iff,iff_false]; omega
   have r4:roomy (1 + l.length) 24 = true:=B8 _ (by omega)
   simp only [opsOf,cutAt,aA,Tryz.f24,Fz.lits,Fz.apps,fO,bG,bW,jP,Ax.comp,sS,Ax.last,fI,Ax.again,Ax.slice,Ax.bound,Ax.append,d_,lR,Ax.fill,fQ,Ax.rows,cF,pX,KP,↓reduceIte,reduceEqDiff,reduceLT,reduceLeDiff,reduceAdd,reduceMul,Nat.reduceBEq,reduceCtorEq,reduceLE,h.eI,h.mK,g0,g3,g5,length_map,nZ,Nat.sub_zero,qV,qU,lQ h,z_,EY,hm3,f10,r4,wU,EM]
   exact ⟨_,2,_,_,rfl,by simp only [FT.cJ,Nat.add_comm 1 l.length,↓reduceIte],rfl,rfl⟩
 ·by_cases hq:l.length - k = 0
  ·have f9:((l.take k).flatMap row ++ [V.bool x.1,V.str x.2]).drop ((k + 1) * 2) = []:=List.drop_of_length_le (by omega)
   simp only [opsOf,cutAt,aA,Tryz.f24,Fz.lits,Fz.apps,fO,bG,bW,jP,Ax.comp,sS,Ax.last,fI,Ax.again,Ax.slice,Ax.bound,Ax.append,d_,lR,Ax.fill,fQ,Ax.rows,cF,pX,KP,↓reduceIte,reduceEqDiff,reduceLT,reduceLeDiff,reduceAdd,reduceMul,Nat.reduceBEq,reduceCtorEq,h.eI,h.mK,g0,g3,g5,length_map,nZ,hd2,Int.toNat_natCast,Nat.sub_zero,hm1,qV,qU,lQ h,n1,hp,hq,r1,r2,f1,f2,f3,f4,f6,wU,Al,z_,f9]
   have f12:l.drop k = []:=List.drop_of_length_le (by omega)
   have f11:l.length = k:=by omega
   exact ⟨_,2,_,_,rfl,by simp only [FT.cJ,f11,KP,↓reduceIte],rfl,by rw [f8]; simp [f12]⟩
  ·have f5:((k + 1 + (l.length - k)) * 2 <= (k + 1) * 2) = False:=by simp only [eq_iff_iff,iff_false]; omega
   simp only [opsOf,cutAt,aA,Tryz.f24,Fz.lits,Fz.apps,fO,bG,bW,jP,Ax.comp,sS,Ax.last,fI,Ax.again,Ax.slice,Ax.bound,Ax.append,d_,lR,Ax.fill,fQ,Ax.rows,cF,pX,KP,↓reduceIte,reduceEqDiff,reduceLT,reduceLeDiff,reduceAdd,reduceMul,Nat.reduceBEq,reduceCtorEq,h.eI,h.mK,g0,g3,g5,length_map,nZ,hd2,Int.toNat_natCast,Nat.sub_zero,hm1,hm2,qV,qU,lQ h,n1,n2,hp,r1,r2,r3,f1,f2,f3,f4,f5,f6,wU,EM]
   exact ⟨_,3,_,_,rfl,by simp only [FT.cJ,f7,↓reduceIte],rfl,f8.symm⟩
end
end
section
section
variable {E:Env} {Z:Sg} {K:V -> Sg -> Prop}
theorem MB:pP 12 .aC .aC = true:=rfl
theorem IY (Z:Sg):elems Z 2 .aC = some ([],0):=rfl
theorem Lc (h:cU E) {x:aK} (F:FT) (g0:F.get 0 = .aC) (g3:F.get 3 = .ref 0 0) (g5:F.get 5 = .int .i64 0) :
  ∃ F' σ',cC E (ev E 0) (opsOf (cutAt [1,1,1,1,0] (aA Tryz.f24).code)) ⟨44,F⟩ [.cells 46 [.bool x.1,.str x.2] true] = some (⟨44,F'⟩,σ') /\ F'.get 4 = .sl 1 0 1 none /\ σ'[1]? = some (.cells 46 [.bool x.1,.str x.2] false):=by
 unfold cC
 rw [h.R_,h.Sf]
 simp only [opsOf,cutAt,aA,Tryz.f24,Fz.lits,Fz.apps,fO,bG,bW,jP,Ax.comp,sS,Ax.last,fI,Ax.again,Ax.slice,Ax.bound,Ax.append,d_,lR,Ax.fill,fQ,Ax.rows,cF,pX,KP,↓reduceIte,reduceEqDiff,reduceLT,reduceLeDiff,reduceAdd,reduceMul,Nat.reduceBEq,reduceCtorEq,reduceLE,h.eI,h.mK,g0,g3,g5,IY,qU,lQ h,NB,EY,wU,MB]
 exact ⟨_,_,rfl,by simp only [FT.cJ,↓reduceIte],rfl⟩
theorem Pd (h:cU E) {v:V} {l:List aK} {x:aK} (hv:Mt v l) (hsm:l.length <= 100000000000):aB E 24 [v,.agg [.bool x.1,.str x.2]] Z fun v' σ'=>σ' = Z /\ Mt v' (put l x):=by
 have e1:aV Z E.ty true v = some v:=by rcases hv with ⟨rfl,_⟩ | ⟨full,rfl⟩ <;> rfl
 have e2:aV Z E.ty true (.agg [.bool x.1,.str x.2]) = some (.agg [.bool x.1,.str x.2]):=rfl
 have la:∀ Z,lenOf E Z 40 v = some l.length:=fun Z=>wI h (hv.lv.sv Z)
 have hk:pos l x <= l.length:=E5 l x
 have d4:=h.Y6
 simp only [aA,Tryz.f24,cutAt,Option.getD_some] at d4
 rw [aH h.hs24 h.M6 h.fn24 h.md24 (args':=[v,.agg [.bool x.1,.str x.2]]) (by simp only [aW,e1,e2]),aZ (by kernel_rfl)]
 simp only [aA,Tryz.f24,KP,↓reduceIte,reduceLT,reduceAdd,h.eI]
 refine Ld h hv.lv (by omega) (fun F' g0 g3 g5=>?_) (pos l x) 0 _ (by omega) ?_ ?_ ?_
 rotate_left
 ·simp only [FT.cJ,↓reduceIte,reduceCtorEq]
 ·simp only [FT.cJ,↓reduceIte,reduceEqDiff]
 ·simp only [FT.cJ,KP,↓reduceIte]
  try rfl
 have fin:l[pos l x]? ≠ some x -> ∀ (F2:FT),F2.get 0 = v -> F2.get 3 = .ref 0 0 -> F2.get 5 = .int .i64 (pos l x:Int) ->
   R E (.region 6 (opsOf (cutAt [1,1,1,1,0] (aA Tryz.f24).code)) true) [.k .ret] ⟨44,F2⟩ [.cells 46 [.bool x.1,.str x.2] true] (mD E (aA Tryz.f24).results fun v σ1=>match cP σ1 E.ty false v with
    | some v=>Z = Z /\ Mt v (put l x)
    | none=>False):=by
  intro hne F2 k0 k3 k5
  have hp:=E2 l x
  rw [if_neg hne] at hp
  rcases hv with ⟨rfl,rfl⟩ | ⟨full,rfl⟩
  ·obtain ⟨F3,σ3,hE,q4,qb⟩:=Lc h (x:=x) F2 k0 k3 k5
   refine Eq.mpr (h_ hE) ?_
   simp only [aA,Tryz.f24,KP,↓reduceIte,reduceLT,q4]
   obtain ⟨v',e,hv'⟩:=FB (Z:=σ3) (l:=[x]) h (.inr (.inr ⟨1,_,_,rfl,qb,rfl⟩))
   have e:cP σ3 E.ty false (.sl 1 0 1 none) = some v':=e
   rw [e]
   exact hv'
  ·obtain ⟨F3,b,cs,σ3,hE,q4,qb,qc⟩:=NI h hsm F2 k0 k3 k5
   refine Eq.mpr (h_ hE) ?_
   simp only [aA,Tryz.f24,KP,↓reduceIte,reduceLT,q4]
   have hl:(put l x).length = l.length + 1:=by rw [hp,length_append,length_take,length_cons,List.length_drop]; omega
   obtain ⟨v',e,hv'⟩:=FB (Z:=σ3) (l:=put l x) h (.inr (.inr ⟨b,cs,false,rfl,qb,by rw [qc,<- hp]; exact take_of_length_le (by rw [iI]; omega)⟩))
   rw [<- hl,e]
   exact hv'
 by_cases hil:pos l x < l.length
 ·have hlt:decide ((pos l x:Int) < (l.length:Int)) = true:=decide_eq_true (by omega)
  obtain ⟨y,hy⟩:∃ y,l[pos l x]? = some y:=⟨_,List.getElem?_eq_getElem hil⟩
  obtain ⟨pa,p1,p2⟩:=sF h (hv.lv.sv [.cells 46 [.bool x.1,.str x.2] true]) hy
  have p2:=p2 _ (cQ.refl _)
  by_cases hyx:y = x
  ·have hd:decide (((y.1,y.2):aK) = (x.1,x.2)) = true:=decide_eq_true hyx
   simp only [KP,↓reduceIte,reduceEqDiff,reduceLT,reduceCtorEq,g0,g3,g5,la,hlt,aT d4,bM,p1,p2,lQ h,yI h,hd]
   have hp:=E2 l x
   rw [if_pos (by rw [hy,hyx])] at hp
   rw [hp]
   rcases hv with ⟨rfl,rfl⟩ | ⟨full,rfl⟩
   ·exact .inl ⟨rfl,rfl⟩
   ·exact .inr ⟨full,rfl⟩
  ·have hd:decide (((y.1,y.2):aK) = (x.1,x.2)) = false:=decide_eq_false hyx
   simp only [KP,↓reduceIte,reduceEqDiff,reduceLT,reduceCtorEq,g0,g3,g5,la,hlt,aT d4,bM,p1,p2,lQ h,yI h,hd]
   have:=fin (by rw [hy]; exact fun e=>hyx (Option.some.inj e))
   simp only [true_and] at this
   refine this _ ?_ ?_ ?_ <;> simp only [FT.cJ,g0,g3,g5,↓reduceIte,reduceEqDiff,reduceCtorEq]
 ·have hlt:decide ((pos l x:Int) < (l.length:Int)) = false:=decide_eq_false (by omega)
  simp only [KP,↓reduceIte,reduceEqDiff,reduceLT,reduceCtorEq,g0,g5,la,hlt,aT d4,bM]
  have:=fin (by rw [List.getElem?_eq_none (by omega)]; simp)
  simp only [true_and] at this
  refine this _ ?_ ?_ ?_ <;> simp only [FT.cJ,g0,g3,g5,↓reduceIte,reduceEqDiff,reduceCtorEq]
end
end
section
theorem Ca:∀ (l:List aK) (x:aK),(put l x).length <= l.length + 1
 | [],_=>Nat.le_refl _
 | y :: r,x=>by
  simp only [put]
  have:=Ca r x
  split
  ·simp only [length_cons]; omega
  ·split <;> simp
theorem qQ:∀ (l acc:List aK),(l.foldl put acc).length <= acc.length + l.length
 | [],_=>Nat.le_refl _
 | x :: l,acc=>by
  have h1:=qQ l (put acc x)
  have h2:=Ca acc x
  simp only [List.foldl_cons,length_cons]
  omega
section
variable {E:Env} {Z:Sg} {K:V -> Sg -> Prop}
theorem La (h:cU E) {a:V} {l:List aK} (ha:LV a l) (hsm:l.length <= 10000000000) {s:List jO} {Q:Ax.X -> Fr -> Sg -> Prop}
  (hQ:∀ (F':FT) (w:V),Mt w (setOf l) -> F'.get 3 = w -> M E s .normal ⟨18,F'⟩ Z Q) :
  ∀ (k i:Nat) (F:FT) (w:V),i + k = l.length -> Mt w (setOf (l.take i)) -> F.get 0 = a -> F.get 3 = w -> F.get 4 = .int .i64 (i:Int) -> R E (.loop (cutAt [1,1,0,1,2,2] (aA Tryz.f22).code)) (.blk 0 :: s) ⟨18,F⟩ Z Q:=by
 have la:lenOf E Z 40 a = some l.length:=wI h (ha.sv Z)
 intro k
 induction k with
 | zero=>
  intro i F w hi hw g0 g3 g4
  have hlt:decide ((i:Int) < (l.length:Int)) = false:=decide_eq_false (by omega)
  rw [aF]
  simp only [aA,Tryz.f22,KP,↓reduceIte,reduceEqDiff,reduceLT,reduceCtorEq,cutAt,g0,g4,la,hlt]
  rw [take_of_length_le (by omega)] at hw
  refine hQ _ w hw ?_
  simp only [FT.cJ,g3,↓reduceIte,reduceEqDiff]
 | succ k ih=>
  intro i F w hi hw g0 g3 g4
  have hlt:decide ((i:Int) < (l.length:Int)) = true:=decide_eq_true (by omega)
  obtain ⟨x,hx⟩:∃ x,l[i]? = some x:=⟨_,List.getElem?_eq_getElem (by omega)⟩
  obtain ⟨pa,e1,e2⟩:=sF h (ha.sv Z) hx
  have e2:=e2 Z (cQ.refl Z)
  have hadd:=Bj i (by omega)
  have hlen:(setOf (l.take i)).length <= 100000000000:=by
   have:=qQ (l.take i) []
   have h2:(l.take i).length <= l.length:=by rw [length_take]; omega
   simp only [length_nil] at this
   show ((l.take i).foldl put []).length <= _
   omega
  rw [aF]
  simp only [aA,Tryz.f22,KP,↓reduceIte,reduceEqDiff,reduceLT,reduceCtorEq,cutAt,g0,g3,g4,la,hlt,e1,e2]
  refine aI (Pd h (x:=x) hw hlen) ?_
  rintro w' σ' ⟨rfl,hw'⟩
  simp only [KP,↓reduceIte,reduceEqDiff,reduceLT,g4,hadd]
  refine ih (i + 1) _ w' (by omega) ?_ ?_ ?_ ?_
  ·rw [take_add_one,hx]
   show Mt w' ((l.take i ++ [x]).foldl put [])
   rw [List.foldl_append]
   exact hw'
  all_goals simp only [FT.cJ,g0,↓reduceIte,reduceEqDiff,reduceCtorEq]
theorem T9 (h:cU E) {v:V} {l:List aK} (hv:SV Z v l) (hsm:l.length <= 10000000000):aB E 22 [v] Z fun v' σ'=>σ' = Z /\ Mt v' (setOf l):=by
 obtain ⟨a,e1,ha⟩:=Bk h hv
 rw [aH h.hs22 h.M8 h.fn22 h.md22 (args':=[a]) (by simp only [aW,e1]),aZ (by kernel_rfl)]
 simp only [aA,Tryz.f22,KP,↓reduceIte,reduceLT]
 refine La h ha hsm (fun F' w hw g3=>?_) l.length 0 _ .aC (by omega) (.inl ⟨rfl,rfl⟩) ?_ ?_ ?_
 ·simp only [KP,↓reduceIte,reduceLT,g3]
  rcases hw with ⟨rfl,e⟩ | ⟨full,rfl⟩
  ·exact .inl ⟨rfl,e⟩
  ·exact .inr ⟨full,rfl⟩
 all_goals simp only [FT.cJ,KP,↓reduceIte,reduceEqDiff,reduceCtorEq]
 all_goals rfl
end
end
end Go.Proofs.YtlbbdpkjeeiahaaGreatDoor.Lb
end
section
namespace Go.Proofs.YtlbbdpkjeeiahaaGreatDoor
open Go Go.Ax Go.AxS
section
structure FaE (E:Env):Prop where
 Mv:E.hspec 4 = none
 UO:E.spec 4 = none
 fn4:E.fn 4 = some (aA Tryz.f4)
 md4:E.mode 4 = .eV
 Uu:∀ {Z:Sg} {K:V -> Sg -> Prop},aB E 11 [] Z K = K (.bool true) Z
section
variable {E:Env} {Z:Sg} {K:V -> Sg -> Prop}
theorem UI (p:Int):∃ j:Nat,j < 20 /\ wr .i64 (p.tmod 20 + 20) = p.tmod 20 + 20 /\ (p.tmod 20 + 20).tmod 20 = (j:Int):=by
 have h1:=Int.tmod_lt_of_pos p (b:=20) (by omega)
 have h2:=Int.lt_tmod_of_pos p (b:=20) (by omega)
 have h3:=Int.tmod_nonneg (a:=p.tmod 20 + 20) 20 (by omega)
 have h4:=Int.tmod_lt_of_pos (p.tmod 20 + 20) (b:=20) (by omega)
 exact ⟨((p.tmod 20 + 20).tmod 20).toNat,by omega,Sa _ (by omega) (by omega),by omega⟩
theorem I8 (h:bK E) (h':uX E) (hl:Lb.cU E) (q:PK E) (rc:Uo E) (fa:FaE E) {a vl:V} {rs:List aG} (ha:LS dZ 37 Z a rs) (hraw:∀ x ∈ rs,Raw x) {ls:List aK} (iv:Lb.LV vl ls) (hls:∀ k ∈ ls,k.2.length <= 9223372036854775806) {x2:Int} (y2:IntKind.has .i64 x2):aB E 4 [a,vl,.int .i64 x2] Z K = K (.bool true) Z:=by
 refine aB.of ?_
 obtain ⟨a',ea,ia⟩:=eT h ha
 have el:=lD (LV.is iv) (E:=E) Z
 have e3:aV Z E.ty true (.int .i64 x2) = some (.int .i64 x2):=rfl
 rw [aH fa.Mv fa.UO fa.fn4 fa.md4 (args':=[a',vl,.int .i64 x2]) (by simp only [aW,ea,el,e3]),aZ (by kernel_rfl)]
 have kb:=fun (Y:Sg)=>dN fun K=>fa.Uu (Z:=Y) (K:=K)
 obtain ⟨k,hk,t1,t2⟩:=UI x2
 have hkk:=bY k (by omega)
 simp only [aA,Tryz.f4,KP,↓reduceIte,reduceLT,reduceAdd,reduceCtorEq,reduceNeg,kb]
 refine aI (Uf h (ia.ls [] 37) hraw) ?_
 rintro v σ' ⟨rfl,l,iv2,hok,hl14,hsm⟩
 have iv':IS dZ v l:=rT iv2.is vW
 have hf:Fits l:=⟨hok,hsm⟩
 simp only [KP,↓reduceIte,reduceLT,reduceNeg]
 refine aI (I7 h h' hl (iv'.ls [] 37) hsm (by omega)) ?_
 rintro g σ' ⟨rfl,⟨hno,-⟩ | ⟨-,hg⟩⟩
 ·exact absurd hok hno
 simp only [KP,↓reduceIte,reduceEqDiff,reduceLT,reduceCtorEq,reduceNeg]
 refine aI (Lb.Zf hl (iv.sv [])) ?_
 rintro vl σ' ⟨rfl,hvl⟩
 have ivl:=(show Jj vl (ls.take 20) from hvl).Xh.is
 have hln:(ls.take 20).length <= 1000000:=by rw [length_take]; omega
 generalize ls.take 20 = m at hvl ivl hln
 simp only [KP,↓reduceIte,reduceEqDiff,reduceLT,reduceCtorEq,Int.reduceEq,reduceNeg,t1,t2]
 refine aI (wO h h' hl q rc hg hf (bC:=(k:Int)) (by omega) (by omega) (ivl.ls _ 46) hln) ?_
 rintro va σ' ⟨rfl,la,hva,hua,hsa,hra⟩
 rw [show (if (k:Int) < -1 then (-1:Int) else (k:Int)) = (k:Int) from if_neg (by omega)] at hra
 simp only [KP,↓reduceIte,reduceEqDiff,reduceLT,reduceNeg,hkk]
 refine aI (wO h h' hl q rc hg hf (bC:=((k + 1:Nat):Int)) (by omega) (by omega) (ivl.ls _ 46) hln) ?_
 rintro vb σ' ⟨rfl,lb,hvb,hub,hsb,hrb⟩
 rw [show (if ((k + 1:Nat):Int) < -1 then (-1:Int) else ((k + 1:Nat):Int)) = ((k + 1:Nat):Int) from if_neg (by omega)] at hrb
 have hla:=Nat.le_trans (fR hua.nodup hsa) (pB hf)
 simp only [KP,↓reduceIte,reduceEqDiff,reduceLT,reduceNeg]
 refine aI (Lb.T9 hl (hva.lv.sv []) (by omega)) ?_
 rintro vw σ' ⟨rfl,hvw⟩
 have hvai:=hva.Xh.is
 have len:=x_ h hvai
 have hdl:∀ z,(mF l z).length <= 2000:=fun z=>Nat.le_trans (fR (Ch l z).nodup (fun x hx=>xV z x hx)) (pB hf)
 simp only [KP,↓reduceIte,reduceEqDiff,reduceLT,reduceNeg,len]
 refine aU (fun i F Y=>F.get 1 = vl /\ F.get 8 = g /\ F.get 10 = vb /\ F.get 40 = va /\ F.get 41 = .int .i64 (la.length:Int) /\ F.get 42 = .int .i64 (i:Int) /\ ∃ vw W,F.get 11 = vw /\ Lb.Mt vw W /\ Up W /\ ∀ x,x ∈ W ↔ x ∈ la \/ ∃ y ∈ la.take i,x ∈ mF l y) la.length ?_ ?_ la.length 0 _ _ (by omega) (yP (by simp +decide only [GS,and_self]) ⟨vw,setOf la,(by simp +decide only [GS]),hvw,lF _,fun x=>by rw [gI]; simp⟩)
 ·rintro i F Y hi ⟨g1,g8,g10,g40,g41,g42,vw,W,g11,hvw,hup,hW⟩ next
  obtain ⟨y,hy⟩:∃ x,la[i]? = some x:=⟨_,List.getElem?_eq_getElem hi⟩
  obtain ⟨gi,e1⟩:=FD h hvai hy
  have hlt:=eE hi
  have hadd:=bY i (by omega)
  rw [aF]
  simp only [KP,Ax.loadAt,Ax.storeAt,↓reduceIte,reduceEqDiff,reduceLT,reduceAdd,reduceNeg,h.eI,g8,g40,g41,g42,hlt,e1,aO,cH]
  refine aI (Hz h h' hl q hg hf y) ?_
  rintro vn τn ⟨rfl,hvn⟩
  have hvni:=hvn.Xh.is
  have lenn:=x_ h hvni
  have hdy:=hdl y
  simp only [KP,↓reduceIte,reduceLT,reduceNeg,lenn]
  have hsn:∀ x,x ∈ mF l y -> x ∈ lY l:=fun x hx=>xV y x hx
  generalize hN:mF l y = L at hvn hvni lenn hdy hsn
  refine aU (fun j F Y=>F.get 1 = vl /\ F.get 8 = g /\ F.get 10 = vb /\ F.get 40 = va /\ F.get 41 = .int .i64 (la.length:Int) /\ F.get 42 = .int .i64 (i:Int) /\ F.get 48 = vn /\ F.get 49 = .int .i64 (L.length:Int) /\ F.get 50 = .int .i64 (j:Int) /\ ∃ vw W,F.get 11 = vw /\ Lb.Mt vw W /\ Up W /\ ∀ x,x ∈ W ↔ (x ∈ la \/ ∃ y ∈ la.take i,x ∈ mF l y) \/ x ∈ L.take j) L.length ?_ ?_ L.length 0 _ _ (by omega) (vO (by simp +decide only [GS,g1,g8,g10,g40,g41,g42,and_self]) ⟨vw,W,(by simp +decide only [GS,g11]),hvw,hup,fun x=>by rw [hW]; simp⟩)
  ·clear g1 g8 g10 g40 g41 g42 g11 hW hup hvw
   rintro j F Y hj ⟨g1,g8,g10,g40,g41,g42,g48,g49,g50,vw,W,g11,hvw,hup,hW⟩ next2
   obtain ⟨x,hx⟩:∃ x,L[j]? = some x:=⟨_,List.getElem?_eq_getElem hj⟩
   obtain ⟨gx,e2⟩:=FD h hvni hx
   have hlt:=eE hj
   have hadd:=bY j (by omega)
   have hWl:W.length <= 2000:=Nat.le_trans (fR hup.nodup fun z hz=>by
    rcases (hW z).1 hz with (h1 | ⟨y,-,h1⟩) | h1
    ·exact hsa z h1
    ·exact xV y z h1
    ·exact hsn z (List.mem_of_mem_take h1)) (pB hf)
   rw [aF]
   simp only [KP,Ax.loadAt,Ax.storeAt,↓reduceIte,reduceEqDiff,reduceLT,reduceAdd,reduceNeg,h.eI,g11,g48,g49,g50,hlt,e2,aO,cH]
   refine aI (Lb.Pd hl (x:=x) hvw (by omega)) ?_
   rintro vw2 τ2 ⟨rfl,hvw2⟩
   simp only [KP,↓reduceIte,reduceEqDiff,reduceLT,reduceNeg,g50,hadd]
   refine next2 _ _ (vO (by simp +decide only [GS,g1,g8,g10,g40,g41,g42,g48,g49,and_self]) ⟨vw2,put W x,(by simp +decide only [GS]),hvw2,E1 hup,fun z=>?_⟩)
   rw [uN,hW,iC hx,or_assoc]
  ·clear g1 g8 g10 g40 g41 g42 g11 hW hup hvw
   rintro F Y ⟨g1,g8,g10,g40,g41,g42,g48,g49,g50,vw,W,g11,hvw,hup,hW⟩
   have hlt2:=eF (Nat.lt_irrefl L.length)
   rw [take_of_length_le (Nat.le_refl _)] at hW
   rw [aF]
   simp only [KP,↓reduceIte,reduceEqDiff,reduceLT,reduceNeg,g42,g49,g50,hlt2,hadd]
   refine next _ _ (yP (by simp +decide only [GS,g1,g8,g10,g40,g41,and_self]) ⟨vw,W,(by simp +decide only [GS,g11]),hvw,hup,fun z=>?_⟩)
   rw [hW,or_assoc]
   refine or_congr Iff.rfl ⟨?_,?_⟩
   ·rintro (⟨w,hw,hz⟩ | hz)
    ·exact ⟨w,(iC hy w).2 (.inl hw),hz⟩
    ·exact ⟨y,(iC hy y).2 (.inr rfl),by rw [hN]; exact hz⟩
   ·rintro ⟨w,hw,hz⟩
    rcases (iC hy w).1 hw with hw | rfl
    ·exact .inl ⟨w,hw,hz⟩
    ·rw [hN] at hz; exact .inr hz
 rintro F Y ⟨g1,g8,g10,g40,g41,g42,vw,W,g11,hvw,hup,hW⟩
 rw [take_of_length_le (Nat.le_refl _)] at hW
 have hlt:=eF (Nat.lt_irrefl la.length)
 have hbW:lb = W:=rD hub hup fun x=>by
  rw [hrb,xI,hW]
  refine or_congr ?_ (exists_congr fun y=>and_congr ?_ Iff.rfl)
  ·rw [hra,xI]
  ·rw [hra,xI]
 subst hbW
 have hbl:=Nat.le_trans (fR hub.nodup hsb) (pB hf)
 have k1:=fun (Y:Sg)=>dN fun K=>Lb.Pc (Z:=Y) (K:=K) hl (hvb.lv.sv Y) (Lb.Mt.lv hvw |>.sv Y) (by omega)
 rw [decide_eq_true rfl] at k1
 rw [aF]
 simp only [KP,↓reduceIte,reduceEqDiff,reduceLT,reduceNeg,g1,g8,g10,g41,g42,g11,hlt,k1]
 have n1:(if (-1:Int) < -1 then (-1:Int) else -1) = -1:=rfl
 have n2:(if (1:Int) < -1 then (-1:Int) else 1) = 1:=rfl
 have n3:(if (200:Int) < -1 then (-1:Int) else 200) = 200:=rfl
 refine aI (wO h h' hl q rc hg hf (bC:=-1) (by decide) (by decide) (ivl.ls _ 46) hln) ?_
 rintro v1 σ1 ⟨rfl,A,hv1,hu1,hs1,hr1⟩
 rw [n1] at hr1
 have hA1:=Nat.le_trans (fR hu1.nodup hs1) (pB hf)
 simp only [KP,↓reduceIte,reduceEqDiff,reduceLT,reduceNeg]
 refine aI (wO h h' hl q rc hg hf (bC:=1) (by decide) (by decide) (hv1.Xh.is.ls _ 46) (by omega)) ?_
 rintro v2 σ2 ⟨rfl,A2,hv2,hu2,hs2,hr2⟩
 rw [n2] at hr2
 have hAA:A2 = A:=rD hu2 hu1 fun x=>by rw [hr2]; exact LM hr1 hs1 x
 subst hAA
 simp only [KP,↓reduceIte,reduceEqDiff,reduceLT,reduceNeg,g1,g8]
 refine aI (wO h h' hl q rc hg hf (bC:=-1) (by decide) (by decide) (ivl.ls _ 46) hln) ?_
 rintro v3 σ3 ⟨rfl,A3,hv3,hu3,PL,hr3⟩
 rw [n1] at hr3
 have hA3:A2 = A3:=rD hu2 hu3 fun x=>by rw [hr1,hr3]
 subst hA3
 have k2:=fun (Y:Sg)=>dN fun K=>Lb.Pc (Z:=Y) (K:=K) hl (hv2.lv.sv Y) (hv3.lv.sv Y) (by omega)
 rw [decide_eq_true rfl] at k2
 simp only [KP,↓reduceIte,reduceEqDiff,reduceLT,reduceNeg,g1,g8,k2]
 refine aI (wO h h' hl q rc hg hf (bC:=200) (by decide) (by decide) (ivl.ls _ 46) hln) ?_
 rintro v4 σ4 ⟨rfl,A4,hv4,hu4,Mv,hr4⟩
 rw [n3] at hr4
 have hA4:A4 = A2:=rD hu4 hu2 fun x=>by rw [hr4,hr1]; exact Rc hf hl14 (fun x hx=>hx.2) x
 subst hA4
 simp only [KP,↓reduceIte,reduceEqDiff,reduceLT,reduceNeg,g1,g8]
 refine aI (wO h h' hl q rc hg hf (bC:=-1) (by decide) (by decide) (ivl.ls _ 46) hln) ?_
 rintro v5 σ5 ⟨rfl,A5,hv5,hu5,hs5,hr5⟩
 rw [n1] at hr5
 have hA5:A4 = A5:=rD hu4 hu5 fun x=>by rw [hr1,hr5]
 subst hA5
 have k3:=fun (Y:Sg)=>dN fun K=>Lb.Pc (Z:=Y) (K:=K) hl (hv4.lv.sv Y) (hv5.lv.sv Y) (by omega)
 rw [decide_eq_true rfl] at k3
 simp only [KP,↓reduceIte,reduceEqDiff,reduceLT,reduceNeg,k3,cP,aV]
 exact rfl
end
end
structure BkE (E:Env):Prop where
 hs5:E.hspec 5 = none
 P3:E.spec 5 = none
 fn5:E.fn 5 = some (aA Tryz.f5)
 md5:E.mode 5 = .eV
 hs27:E.hspec 27 = none
 P8:E.spec 27 = none
 fn27:E.fn 27 = some (aA Tryz.f27)
 md27:E.mode 27 = .eV
 z5_7:gN E (opsOf (cutAt [1,1,1,1,1,0,1,0,0] (aA Tryz.f5).code)) = .no
 p5_7:cN E .no (opsOf (cutAt [1,1,1,1,1,0,1,0,0] (aA Tryz.f5).code)) = some [⟨2,6,true,false⟩]
 z5_8:gN E (opsOf (cutAt [1,1,1,1,1,1,0] (aA Tryz.f5).code)) = .lit
 p5_8:cN E .lit (opsOf (cutAt [1,1,1,1,1,1,0] (aA Tryz.f5).code)) = some []
 Uu:∀ {Z:Sg} {K:V -> Sg -> Prop},aB E 11 [] Z K = K (.bool true) Z
section
section
variable {E:Env} {Z:Sg} {K:V -> Sg -> Prop}
def Kr (es:List (V × V)) (D ns:List aX):List aX:=ns.filter fun x=>!decide (x ∈ D) && (bR es x).all fun y=>decide (y ∈ D)
structure Ji (es:List (V × V)) (ns:List aX) (o:List (List aX)):Prop where
 fr:∀ (d:Nat) (l:List aX),o[d]? = some l -> l.Perm (Kr es (o.take d).flatten ns)
 ne:∀ l ∈ o,l ≠ []
theorem N8 {es:List (V × V)} {D ns:List aX} {x:aX}:x ∈ Kr es D ns ↔ x ∈ ns /\ x ∉ D /\ ∀ y ∈ bR es x,y ∈ D:=by
 unfold Kr
 rw [List.mem_filter,Bool.and_eq_true,Bool.not_eq_true',decide_eq_false_iff_not,List.all_eq_true]
 simp only [decide_eq_true_eq]
theorem Ji.nil {es:List (V × V)} {ns:List aX}:Ji es ns []:=⟨fun d l h=>by simp at h,fun l h=>by cases h⟩
theorem Ji.snoc {es:List (V × V)} {ns:List aX} {o:List (List aX)} (h:Ji es ns o) {l:List aX} (hp:l.Perm (Kr es o.flatten ns)) (hl:l ≠ []):Ji es ns (o ++ [l]):=by
 refine ⟨fun d m hm=>?_,fun m hm=>?_⟩
 ·by_cases hd:d < o.length
  ·rw [List.getElem?_append_left hd] at hm
   rw [List.take_append_of_le_length (by omega)]
   exact h.fr d m hm
  ·have hde:d = o.length:=by
    have:=(List.getElem?_eq_some_iff.1 hm).1
    rw [length_append,List.length_singleton] at this
    omega
   subst hde
   rw [List.getElem?_append_right (Nat.le_refl _),Nat.sub_self] at hm
   cases hm
   rw [List.take_append_of_le_length (Nat.le_refl _),take_of_length_le (Nat.le_refl _)]
   exact hp
 ·rcases mem_append.1 hm with hm | hm
  ·exact h.ne m hm
  ·rw [mem_singleton.1 hm]; exact hl
theorem KU {o:List (List aX)} {d:Nat} {l:List aX} (h:o[d]? = some l):(o.take (d + 1)).flatten = (o.take d).flatten ++ l:=by
 rw [take_add_one,h,List.flatten_append]
 simp
theorem Ki {o:List (List aX)} {d:Nat} {x:aX} (h:x ∈ (o.take d).flatten):∃ e l,e < d /\ o[e]? = some l /\ x ∈ l:=by
 obtain ⟨l,hl,hx⟩:=List.mem_flatten.1 h
 obtain ⟨e,he⟩:=List.mem_iff_getElem?.1 hl
 have hed:e < d:=by have:=(List.getElem?_eq_some_iff.1 he).1; rw [length_take] at this; omega
 rw [List.getElem?_take_of_lt hed] at he
 exact ⟨e,l,hed,he,hx⟩
theorem Jt {o:List (List aX)} {d e:Nat} {l:List aX} {x:aX} (hed:e < d) (he:o[e]? = some l) (hx:x ∈ l):x ∈ (o.take d).flatten:=
 List.mem_flatten.2 ⟨l,List.mem_of_getElem? (i:=e) (by rw [List.getElem?_take_of_lt hed]; exact he),hx⟩
theorem Ji.sub {es:List (V × V)} {ns:List aX} {o:List (List aX)} (h:Ji es ns o) {d:Nat} {l:List aX} (hl:o[d]? = some l):∀ x ∈ l,x ∈ ns /\ x ∉ (o.take d).flatten /\ ∀ y ∈ bR es x,y ∈ (o.take d).flatten:=fun x hx=>
 N8.1 ((h.fr d l hl).mem_iff.1 hx)
theorem Ji.nodup {es:List (V × V)} {ns:List aX} {o:List (List aX)} (h:Ji es ns o) (hn:ns.Nodup):∀ d,d <= o.length -> (o.take d).flatten.Nodup
 | 0,_=>List.nodup_nil
 | d + 1,hd=>by
  obtain ⟨l,hl⟩:∃ l,o[d]? = some l:=⟨_,List.getElem?_eq_getElem (show d < o.length by omega)⟩
  rw [KU hl,List.nodup_append]
  refine ⟨h.nodup hn d (by omega),(h.fr d l hl).nodup_iff.2 (hn.sublist (List.filter_sublist ..)),fun x hx y hy e=>(h.sub hl y hy).2.1 ?_⟩
  rw [<- e]; exact hx
theorem Ji.all {es:List (V × V)} {ns:List aX} {o:List (List aX)} (h:Ji es ns o) (hn:ns.Nodup):o.flatten.Nodup /\ ∀ x ∈ o.flatten,x ∈ ns:=by
 refine ⟨?_,fun x hx=>?_⟩
 ·have:=h.nodup hn o.length (Nat.le_refl _)
  rwa [take_of_length_le (Nat.le_refl _)] at this
 ·rw [<- take_of_length_le (l:=o) (Nat.le_refl o.length)] at hx
  obtain ⟨e,l,-,he,hxl⟩:=Ki hx
  exact (h.sub he x hxl).1
theorem Ji.one {es:List (V × V)} {ns:List aX} {o:List (List aX)} (h:Ji es ns o) {d e:Nat} {l m:List aX} {x:aX} (hl:o[d]? = some l) (hm:o[e]? = some m) (hx:x ∈ l) (hy:x ∈ m):d = e:=by
 rcases Nat.lt_trichotomy d e with hd | hd | hd
 ·exact absurd (Jt hd hl hx) (h.sub hm x hy).2.1
 ·exact hd
 ·exact absurd (Jt hd hm hy) (h.sub hl x hx).2.1
theorem Ji.ahead {es:List (V × V)} {ns:List aX} {o:List (List aX)} (h:Ji es ns o) {d e:Nat} {l m:List aX} {x y:aX} (hl:o[d]? = some l) (hx:x ∈ l) (hy:y ∈ bR es x) (hm:o[e]? = some m) (hym:y ∈ m):e < d:=by
 obtain ⟨e',m',hlt,he',hy'⟩:=Ki ((h.sub hl x hx).2.2 y hy)
 rw [h.one hm he' hym hy']
 exact hlt
def SN (E:Env) (es:List (V × V)) (D:List aX):Prop:=SB E es (fun x=>decide (x ∈ D)) /\ es.length = D.length
end
end
section
section
variable {E:Env} {Z:Sg} {K:V -> Sg -> Prop}
def R8 (t:Nat) (Z:Sg) (w:V) (vs:List V):Prop:=(w = .aC /\ vs = []) \/ ∃ b ex,w = .sl b 0 vs.length none /\ Z[b]? = some (.cells t vs ex)
theorem R8.keep {t:Nat} {Z σ':Sg} {w:V} {vs:List V} (h:R8 t Z w vs) (k:∀ c o,aQ w = some c -> Z[c]? = some o -> σ'[c]? = some o):R8 t σ' w vs:=by
 rcases h with h | ⟨b,ex,rfl,hb⟩
 ·exact .inl h
 ·exact .inr ⟨b,ex,rfl,k b _ rfl hb⟩
def LsO (Y:Sg) (w:V) (o:List (List aX)):Prop:=∃ us,R8 28 Y w us /\ eS (fun u l=>bD aM 9 Y u l) us o
def uE (N:Nat) (Y τ':Sg):Prop:=∀ (c:Nat) (o:O),c < N -> c ≠ 0 -> Y[c]? = some o -> τ'[c]? = some o
theorem uE.refl (N:Nat) (Y:Sg):uE N Y Y:=fun _ _ _ _ h=>h
theorem uE.trans {N:Nat} {Y τ' τ'':Sg} (h:uE N Y τ') (h2:uE N τ' τ''):uE N Y τ'':=fun c o hc h0 e=>h2 c o hc h0 (h c o hc h0 e)
theorem uE.app (N:Nat) (Y:Sg) (y:O):uE N Y (Y ++ [y]):=fun c o _ _ e=>aN e
theorem uE.sp {N:Nat} {Y τ':Sg} {w:V} (h:Sp Y τ' w) (hw:∀ b,aQ w = some b -> N <= b):uE N Y τ':=fun c o hc _ e=>h c o e fun e2=>by have:=hw c e2; omega
theorem LsO.keep {Y τ':Sg} {w:V} {o:List (List aX)} {m:List (V × V)} (h:LsO Y w o) (h0:Y[0]? = some (.map m)) (k:uE Y.length Y τ'):LsO τ' w o:=by
 obtain ⟨us,h1,h2⟩:=h
 refine ⟨us,h1.keep fun c y hc e=>k c y (List.getElem?_eq_some_iff.1 e).1 (fun e0=>?_) e,?_⟩
 ·subst e0
  rcases h1 with ⟨rfl,-⟩ | ⟨b,ex,rfl,hb⟩
  ·cases hc
  ·cases hc
   rw [h0] at hb
   cases hb
 ·clear h1
  induction h2 with
  | nil=>exact .nil
  | cons p _ ih=>
   refine .cons (p.keep fun c y hc e=>k c y (List.getElem?_eq_some_iff.1 e).1 (fun e0=>?_) e) ih
   subst e0
   exact Iu h0 p hc
structure Mr (E:Env) (Y:Sg) (D:List aX):Prop where
 b1:Y[1]? = some (.cells 98 [.mp 0] true)
 b0:∃ e1,Y[0]? = some (.map e1) /\ SN E e1 D
theorem Mr.app {Y:Sg} {D:List aX} (h:Mr E Y D) (y:O):Mr E (Y ++ [y]) D:=by
 obtain ⟨e1,h1,h2⟩:=h.b0
 exact ⟨aN h.b1,e1,aN h1,h2⟩
theorem Mr.sp {Y τ':Sg} {D:List aX} {w:V} {l:List aX} (h:Mr E Y D) (ow:bD aM 9 Y w l) (sp:Sp Y τ' w):Mr E τ' D:=by
 obtain ⟨e1,h1,h2⟩:=h.b0
 exact ⟨sp _ _ h.b1 (kC h.b1 (by decide) ow),e1,sp _ _ h1 (Iu h1 ow),h2⟩
end
end
section
section
variable {E:Env} {Z:Sg} {K:V -> Sg -> Prop}
theorem SN.perm {es:List (V × V)} {D D':List aX} (h:SN E es D) (hp:D'.Perm D):SN E es D':=
 ⟨h.1.congr fun x=>decide_eq_decide.2 hp.mem_iff.symm,h.2.trans hp.length_eq.symm⟩
end
end
structure LvE (E:Env):Prop where
 hs7:E.hspec 7 = none
 sp7:E.spec 7 = none
 fn7:E.fn 7 = some (aA Tryz.f7)
 md7:E.mode 7 = .eV
 d7_28:aP E (cutAt [1,1,1,1,1,1,1,0,1,2,2,1,1,0,2,1,1,1,1,2,2,1,1,0,2,1,1,1,1,0,1,2,2,1,1,0,2,1,1,1,2,2,1,1,0,2,1,0] (aA Tryz.f7).code) = true
 Uu:∀ {Z:Sg} {K:V -> Sg -> Prop},aB E 11 [] Z K = K (.bool true) Z
end Go.Proofs.YtlbbdpkjeeiahaaGreatDoor
end
section
namespace Go.Proofs.YtlbbdpkjeeiahaaGreatDoor
open Go Go.Ax
theorem begL {Z:Sg} {K:V -> Sg -> Prop}:aB LE 11 [] Z K = K (.bool true) Z:=sZ (s:=bI t11) (args':=[]) (v:=.bool true) (by kernel_rfl) (by kernel_rfl) rfl (by kernel_rfl) rfl
theorem Tn:bK LE:=by constructor <;> kernel_rfl
theorem Tp:uX LE:=by constructor <;> kernel_rfl
theorem QB:Lb.cU LE:=by constructor <;> kernel_rfl
theorem Tq:PK LE:=by constructor <;> kernel_rfl
theorem To:Uo LE:=by constructor <;> kernel_rfl
theorem Tr:FaE LE:=by constructor <;> first | kernel_rfl | exact begL
end Go.Proofs.YtlbbdpkjeeiahaaGreatDoor
end
section
namespace Go.Proofs.YtlbbdpkjeeiahaaGreatDoor
open Go Go.Ax Go.AxS
theorem EW (a0:V) (l0:List aG) (i0:IS dZ a0 l0) (r0:∀ x ∈ l0,Raw x) (a1:V) (l1:List aK) (i1:Lb.LV a1 l1) (h1:∀ k ∈ l1,k.2.length <= 9223372036854775806) (x2:Int) (y2:IntKind.has .i64 x2):∃ k,Ax.call LE k 4 [a0,a1,.int .i64 x2] = some (.bool true):=by
 have h:aB LE 4 [a0,a1,.int .i64 x2] [] (fun v _=>v = .bool true):=by
  rw [I8 Tn Tp QB Tq To Tr (i0.ls [] 37) r0 i1 h1 (x2:=x2) y2]
 obtain ⟨n,v,σ',hc,rfl⟩:=h
 refine ⟨n,?_⟩
 have hm:aW (aV [] LE.ty true) [a0,a1,.int .i64 x2] = some [a0,a1,.int .i64 x2]:=by
  simp only [aW,lD i0 [],(lD (LV.is i1) []),(show aV [] LE.ty true (.int .i64 x2) = some (.int .i64 x2) from rfl)]
 unfold gO at hc
 rw [show LE.hspec 4 = none by kernel_rfl,show LE.spec 4 = none by kernel_rfl,show LE.fn 4 = some (aA Tryz.f4) by kernel_rfl,show LE.mode 4 = .eV by kernel_rfl] at hc
 simp only [hm] at hc
 unfold Ax.call
 rw [show LE.fn 4 = some (aA Tryz.f4) by kernel_rfl]
 dsimp only
 cases he:enter LE (ev LE n) (aA Tryz.f4) [a0,a1,.int .i64 x2] [] with
 | none=>rw [he] at hc; cases hc
 | some y=>
  rw [he] at hc
  dsimp only at hc ⊢
  cases hs:cP y.2 LE.ty false y.1 with
  | none=>rw [hs] at hc; cases hc
  | some z=>rw [hs] at hc; cases hc; rfl
end Go.Proofs.YtlbbdpkjeeiahaaGreatDoor
end
